import PyProof.Rows.All
import Wide.All
import OpenK.AllK
import Wide.FinOn
import Lean
import PySem.Challenge.RW_xm0020_01
open PySem PySem.W PyProof.Rows
set_option Elab.async false
set_option maxRecDepth 100000
set_option maxHeartbeats 8000000
set_option linter.all false
set_option compiler.extract_closed false
namespace Mine
section PartDictPairs
open PySem PySem.W PyProof.Rows PySem.Spec PySem.Calls
theorem entry_dict_update_loop : entryFor table "dict.update.loop" = some Builtin.«dict.update.loop» := entryFor_of_tree (by kernel_rfl)
theorem plain_dict_update_loop : plainId "dict.update.loop" = true := by decide +kernel

section
variable {prog : Program} {w : World} {A : Around} {E : Value → Shared → Prop} {s : Shared}
theorem list_keys_none {a : Addr} {o : Obj} {xs : Array Value} {k : Nat} {Q : Option Value → Shared → Prop}
    (hx : s.heap.get? a = some o) (hc : o.cls = .type "list") (hdat : o.data = .seq xs k) (hd : o.dict = none) (hA : A.handled = none)
    (h : ∀ h' tk, (∀ b ob, s.heap.get? b = some ob → h'.get? b = some ob) → Q none { s with heap := h', toks := tk }) :
    wpAny (model prog w) A (getAttr? (.ref a) "keys") Q E s := by
  obtain ⟨c, dct, dat, sl⟩ := o
  simp only at hc hdat hd
  subst hc hdat hd
  obtain ⟨hp, g, d, tk, os⟩ := s
  have hT : ∀ tk', (⟨hp, g, d, tk', os⟩ : Shared).TypeIs (.ref a) "list" := fun _ => ⟨_, hx, rfl⟩
  have f1 := sub_AttributeError
  have f3 := F.slot_list_getattribute.lookup
  have f4 := F.slot_list_getattribute.bind (.ref a)
  have f5 := am_list_getattr_none
  have hmiss : typeLookup (.type "list") "keys" = pure none := am_miss_of_fast (by kernel_rfl)
  have hname : (["__module__", "__name__", "__qualname__", "__doc__", "__annotations__"] : List Str).contains "keys" = false := by decide +kernel
  have hsz : (PySem.Str.ofString "keys").length + 100 ≤ sizeLine := by size_fits
  unfold getAttr? getAttrBy? getAttrBy
  repeat (any_goals (first | assumption | exact hT _ | ((with_reducible show wpAny _ _ (call (Value.builtin "list.__getattribute__") _ _) _ _ _); refine call_meets F.slot_list_getattribute (hT _) am_entry_list_getattribute (F.args_list_getattribute_2 _ _) (meets_getattribute_miss_list a xs k sl "keys" _ hmiss hname hsz) ⟨hx, hA, fun h' tk' e hx' => ?_⟩) | wp_step))
  obtain ⟨t', u', he⟩ := hx'.there
  show wpAny _ _ (getattributeRaised _ _ _ _ _ _ _) _ _ _
  unfold getattributeRaised
  repeat (any_goals (first | assumption | wp_step))
  all_goals (try exact h _ _ hx'.keeps)
end
section
variable {prog : Program} {w : World} {A : Around} {E : Value → Shared → Prop}
theorem carries_get {K : Type} [DecidableEq K] {knd : KeyKind prog w K} : ∀ {vs : List (Value × Value)} {kvs : List (K × Value)}, Carries knd vs kvs → ∀ {i : Nat} {v : Value × Value}, vs[i]? = some v → ∃ kv, kvs[i]? = some kv ∧ knd.is kv.1 v.1 = true ∧ v.2 = kv.2
  | [], [], _, i, v, h => by simp at h
  | (key, v) :: vs, (k, v') :: kvs, ⟨h1, h2, h3⟩, 0, u, h => by
    have e : u = (key, v) := by simpa using h.symm
    subst e
    exact ⟨(k, v'), rfl, h1, h2⟩
  | (key, v) :: vs, (k, v') :: kvs, ⟨h1, h2, h3⟩, i + 1, u, h => by
    obtain ⟨kv, e1, e2⟩ := carries_get h3 (i := i) (v := u) (by simpa using h)
    exact ⟨kv, by simpa using e1, e2⟩
/-- the loop of dict(pairs) -/
theorem pairs_loop {R : Result → Shared → Prop} {d I l : Addr} {ps : List (Addr × Value × Value)} {kvs : List (Str × Value)} (hA : A.handled = none) (hIl : I ≠ l) (hdl : d ≠ l) (hdI : d ≠ I) (hIp : ∀ p ∈ ps, p.1 ≠ I) (hdp : ∀ p ∈ ps, p.1 ≠ d)
    (hkv : Carries (strKind prog w) (ps.map (·.2)) kvs) (hbig : ps.length ≤ sizeLine) :
    ∀ (k i : Nat) (s : Shared) (c : Int), ps.length - i = k → i ≤ ps.length → s.heap.IsListIter I l i → s.heap.IsList l (ps.map fun p => Value.ref p.1).toArray →
      (∀ p ∈ ps, ∃ o n, s.heap.get? p.1 = some o ∧ o.cls = .type "tuple" ∧ o.data = .seq #[p.2.1, p.2.2] n) → s.heap.DictOf (strKind prog w) d (merged [] (kvs.take i)) →
      (∀ h' tk, h'.DictOf (strKind prog w) d (merged [] kvs) → (∀ b o, b ≠ d → b ≠ I → s.heap.get? b = some o → h'.get? b = some o) → R (.ok (.ret .none)) { s with heap := h', toks := tk }) →
      codeAny (model prog w) A (.builtin "dict.update.loop" ⟨[.ref d, .ref I, rawInt c, .none], []⟩) R s := by
  intro k
  induction k with
  | zero =>
    intro i s c hk hi hit hl hp hd hR
    have hin : i = ps.length := by omega
    subst hin
    refine codeAny_builtin entry_dict_update_loop ?_
    rw [Around.under_plainId plain_dict_update_loop _]
    show wpAny _ A.in1 (pyNext (.ref I) >>= _) _ _ s
    refine wpAny_bind (wpAny_pyNext_list_end (by exact hA) hit hl (by simp) fun h' hx => ?_)
    show wpAny _ A.in1 (Builtin.Dict.addKeywords d [] >>= _) _ _ _
    have ht : kvs.take ps.length = kvs := List.take_of_length_le (by rw [hkv.length, List.length_map]; exact Nat.le_refl _)
    rw [ht] at hd
    exact wpAny_bind (wpAny_pure (wpAny_pure (hR _ _ (hd.extBut hx hdI) fun b o _ hb ho => hx b o hb ho)))
  | succ k ih =>
    intro i s c hk hi hit hl hp hd hR
    have hlt : i < ps.length := by omega
    refine codeAny_builtin entry_dict_update_loop ?_
    rw [Around.under_plainId plain_dict_update_loop _]
    show wpAny _ A.in1 (pyNext (.ref I) >>= _) _ _ s
    have hx : (ps.map fun p => Value.ref p.1).toArray[i]? = some (Value.ref ps[i].1) := by simp [hlt]
    refine wpAny_bind (wpAny_pyNext_list_item hit hl hx fun h' hit' hs => ?_)
    have hm : ps[i] ∈ ps := List.getElem_mem hlt
    generalize hpi : ps[i] = p at *
    obtain ⟨o, n, ho, hc, hdt⟩ := hp p hm
    have ho' : h'.get? p.1 = some o := (hs.2 _ (hIp p hm)).trans ho
    have hT : ({ s with heap := h' } : Shared).TypeIs (.ref p.1) "tuple" := ⟨o, ho', hc⟩
    dsimp only
    refine wpAny_bind (wpAny_holding (wpAny_bind (wpAny_tryCatch ?_)))
    unfold Builtin.Dict.pairItems
    refine wpAny_bind (wpAny_typeOf hT ?_)
    rw [if_pos (by decide)]
    refine wpAny_bind (wpAny_seqItems ho' hdt ?_)
    refine wpAny_pure ?_
    show wpAny _ _ (holding [p.2.1, p.2.2] (dictSet d p.2.1 p.2.2)) _ _ _
    refine wpAny_holding ?_
    obtain ⟨kk, hkk, hkey⟩ : ∃ kk, kvs[i]? = some (kk, p.2.2) ∧ (strKind prog w).is kk p.2.1 = true := by
      have hv : (ps.map (·.2))[i]? = some p.2 := by simp [hlt, hpi]
      obtain ⟨kv, h1, h2, h3⟩ := carries_get hkv hv
      exact ⟨kv.1, by rw [h1, h3], h2⟩
    have hd' : h'.DictOf (strKind prog w) d (merged [] (kvs.take i)) := hd.sameBut hs hdI
    have hsz : (merged [] (kvs.take i)).length ≤ sizeLine := by
      refine Nat.le_trans (merged_length_le _ _) ?_
      rw [List.length_take, hkv.length, List.length_map, List.length_nil]
      omega
    refine wpAny_dictSet_pairs (s := { s with heap := h' }) (hsz := hsz) hkey hd' fun h'' hd'' hs'' => ?_
    rw [← merged_take_succ [] kvs i _ hkk] at hd''
    refine wpAny_pure ⟨plainId_quiet plain_dict_update_loop _, ?_⟩
    have hp'' : ∀ b o, b ≠ d → b ≠ I → s.heap.get? b = some o → h''.get? b = some o := fun b o h1 h2 h3 => (hs''.2 b h1).trans ((hs.2 b h2).trans h3)
    refine ih (i + 1) _ (c + 1) (by omega) hlt ?_ ?_ ?_ hd'' ?_
    · obtain ⟨o1, ho1, r⟩ := hit'
      exact ⟨o1, (hs''.2 I (Ne.symm hdI)).trans ho1, r⟩
    · exact hl.at fun o e => hp'' _ _ (Ne.symm hdl) (Ne.symm hIl) e
    · intro q hq
      obtain ⟨o, n, e1, r⟩ := hp q hq
      exact ⟨o, n, hp'' _ _ (hdp q hq) (hIp q hq) e1, r⟩
    · intro h3 tk hd3 hk3
      exact hR h3 tk hd3 fun b o h1 h2 h4 => hk3 b o h1 h2 (hp'' b o h1 h2 h4)

theorem call_dict_pairs {s : Shared} {Q : Value → Shared → Prop} {l : Addr} {n : Nat} {ps : List (Addr × Value × Value)} {kvs : List (Str × Value)} (hA : A.handled = none)
    (hl : s.heap.get? l = some (listOf (ps.map fun p => Value.ref p.1).toArray n)) (hp : ∀ p ∈ ps, ∃ o n, s.heap.get? p.1 = some o ∧ o.cls = .type "tuple" ∧ o.data = .seq #[p.2.1, p.2.2] n)
    (hkv : Carries (strKind prog w) (ps.map (·.2)) kvs) (hbig : ps.length ≤ sizeLine)
    (h : ∀ h' tk, h'.DictOf (strKind prog w) s.heap.objs.size (merged [] kvs) → (∀ b o, s.heap.get? b = some o → h'.get? b = some o) → Q (.ref s.heap.objs.size) { s with heap := h', toks := tk }) :
    wpAny (model prog w) A (call (.type "dict") [.ref l]) Q E s := by
  refine callType_codes (Q₁ := fun obj s₁ => obj = .ref s.heap.objs.size ∧ s₁ = { s with heap := s.heap.push { cls := .type "dict", data := .dict #[] } }) F.kt_called_dict (F.kt_typeCall_dict_1 _) F.entry_dict_init (kt_code_dict_new _ ⟨rfl, rfl⟩) ?_
  rintro obj s₁ ⟨rfl, rfl⟩
  have hnew : (s.heap.push { cls := .type "dict", data := .dict #[] }).DictOf (strKind prog w) s.heap.objs.size [] := Heap.DictOf.new s.heap
  have hpush : ∀ b o, s.heap.get? b = some o → (s.heap.push { cls := .type "dict", data := .dict #[] }).get? b = some o := fun b o e => Heap.get?_push_of_some _ e
  have hT : ({ s with heap := s.heap.push { cls := .type "dict", data := .dict #[] } } : Shared).TypeIs (.ref l) "list" := ⟨_, hpush _ _ hl, rfl⟩
  refine ⟨hnew.typeIs, F.args_dict_init_2 _ _, ?_⟩
  unfold Builtin.«dict.__init__»
  refine wpAny_bind ?_
  unfold Builtin.Dict.selfAndRest
  refine wpAny_bind (wpAny_notOrdered_dict hnew.typeIs ?_)
  show wpAny _ _ (pure (s.heap.objs.size, [Value.ref l])) _ _ _
  refine wpAny_pure ?_
  show wpAny _ _ (Builtin.Dict.updateFrom "dict.__init__" s.heap.objs.size (.ref l) [] .none) _ _ _
  unfold Builtin.Dict.updateFrom
  refine wpAny_bind (wpAny_typeOf hT ?_)
  rw [if_pos (by decide)]
  refine wpAny_bind (list_keys_none (hpush _ _ hl) rfl rfl rfl (by exact hA) fun h1 tk1 hk1 => ?_)
  simp only [Option.isNone_none, if_true]
  refine wpAny_bind (wpAny_rule (wpAny_bind ?_))
  have hk2 : ∀ b o, s.heap.get? b = some o → h1.get? b = some o := fun b o e => hk1 _ _ (hpush _ _ e)
  have hl1 := hk2 _ _ hl
  have hL1 : h1.IsList l (ps.map fun p => Value.ref p.1).toArray := ⟨_, hl1, rfl, _, rfl⟩
  have hd1 : h1.DictOf (strKind prog w) s.heap.objs.size [] := let ⟨o, es, ep, ho, r⟩ := hnew; ⟨o, es, ep, hk1 _ _ ho, r⟩
  refine wpAny_pyIter_list (s := { s with heap := h1, toks := tk1 }) hL1 ?_
  have lt1 : ∀ b o, h1.get? b = some o → b ≠ h1.objs.size := fun b o e => Nat.ne_of_lt (Heap.lt_size e)
  have hds : h1.get? s.heap.objs.size ≠ none := let ⟨o, es, ep, ho, r⟩ := hd1; by rw [ho]; exact fun e => nomatch e
  have hdI : s.heap.objs.size ≠ h1.objs.size := by
    cases e : h1.get? s.heap.objs.size with
    | none => exact absurd e hds
    | some o => exact lt1 _ _ e
  have hnd : ∀ b o, s.heap.get? b = some o → b ≠ s.heap.objs.size := fun b o e => Nat.ne_of_lt (Heap.lt_size e)
  refine wpAny_pure ⟨plainId_quiet plain_dict_update_loop _, ?_⟩
  refine pairs_loop (l := l) (ps := ps) (kvs := kvs) (by exact hA) (Ne.symm (lt1 _ _ hl1)) (Ne.symm (hnd _ _ hl)) hdI ?_ ?_ hkv hbig ps.length 0 _ 0 (by omega) (Nat.zero_le _) ⟨_, Heap.get?_push_size _ rfl, rfl, rfl⟩ (hL1.at fun o e => Heap.get?_push_of_some _ e) ?_ (by exact hd1.push _) ?_
  · intro p hpm
    obtain ⟨o, n, e, _⟩ := hp p hpm
    exact lt1 _ _ (hk2 _ _ e)
  · intro p hpm
    obtain ⟨o, n, e, _⟩ := hp p hpm
    exact hnd _ _ e
  · intro p hpm
    obtain ⟨o, n, e, r⟩ := hp p hpm
    exact ⟨o, n, Heap.get?_push_of_some _ (hk2 _ _ e), r⟩
  · intro h' tk hd' hkeep
    exact ⟨rfl, h h' tk hd' fun b o e => hkeep b o (hnd _ _ e) (lt1 _ _ (hk2 _ _ e)) (Heap.get?_push_of_some _ (hk2 _ _ e))⟩
theorem dict_pairs_K {s : Shared} {Q : Value → Shared → Prop} {h₀ : Heap} {L l : Addr} {m : Str → Option Value} {news : List (Addr × Obj)} {n : Nat} (ps : List (Addr × Value × Value)) (hA : A.handled = none) (F : Fr h₀ L s.heap m) (N : News h₀ L s.heap news) (hbig : h₀.NoLimit)
    (hl : (l, listOf (ps.map fun p => Value.ref p.1).toArray n) ∈ news) (hp : ∀ p ∈ ps, (p.1, ({ cls := .type "tuple", data := .seq #[p.2.1, p.2.2] 0 } : Obj)) ∈ news) (hk : allStrKeys (ps.map (·.2)) = true) (hn : ((strPairs (ps.map (·.2))).map (·.1)).Nodup) (hv : allFlat (ps.map (·.2)) = true) (hsz : ps.length ≤ sizeLine)
    (k : ∀ h' tk d o, Fr h₀ L h' m → News h₀ L h' ((d, o) :: news) → (∀ p ∈ news, p.1 < d) → (d == sysModules) = false → o.IsDictOf (strKind prog w) (strPairs (ps.map (·.2))) → PyProof.V.FlatPairs PyData.str (strPairs (ps.map (·.2))) (strData (ps.map (·.2))) → (∀ p ∈ news, p.1 ≠ d) → Q (.ref d) { s with heap := h', toks := tk }) :
    wpAny (model prog w) A (call (.type "dict") [.ref l]) Q E s := by
  refine call_dict_pairs (n := n) (ps := ps) hA (N _ hl).1 (fun p hpm => ⟨_, 0, (N _ (hp p hpm)).1, rfl, rfl⟩) (carries_strPairs prog w _ hk) hsz fun h' tk hd hkeep => ?_
  rw [merged_nil_of_nodup _ hn] at hd
  obtain ⟨o, ho, hdo⟩ := Heap.dictOf_iff.mp hd
  have hlt : ∀ p ∈ news, p.1 < s.heap.objs.size := fun p hp => Heap.lt_size (N p hp).1
  obtain ⟨oL, es, ep, hL, hLd, hLk, hLf⟩ := F.ns
  refine k h' tk s.heap.objs.size o ⟨⟨oL, es, ep, hkeep _ _ hL, hLd, hLk, hLf⟩, fun b x e => hkeep _ _ (F.keep b x e), F.above⟩ ?_ hlt (F.notModules (modules_low hbig)) hdo (flatPairs_str _ hk hv) fun p hp => Nat.ne_of_lt (hlt p hp)
  intro p hpm
  rcases List.mem_cons.mp hpm with rfl | hpm
  · refine ⟨ho, fun e => ?_, ?_⟩
    · exact absurd (Heap.lt_size hL) (by rw [← e]; exact Nat.lt_irrefl _)
    · cases q : h₀.get? s.heap.objs.size with
      | none => rfl
      | some x => exact absurd (Heap.lt_size (F.keep _ _ q)) (Nat.lt_irrefl _)
  · exact ⟨hkeep _ _ (N p hpm).1, (N p hpm).2⟩
end
end PartDictPairs
section PartCompG
open PySem PySem.W PyProof.Rows PySem.Spec PySem.Calls
/-- a source of a comprehension that some walk steps through, turn by turn -/
noncomputable def SrcG (prog : Program) (w : World) (A : Around) (h₀ : Heap) (L : Addr) (m : Str → Option Value) (env : Env) (elt : Expr) (x : Str) (scope : Scope) (cl : List (Str × Addr)) (Fin : Shared → List Value → List (Addr × Obj) → Prop) (xv : Value) (s₁ : Shared) : Prop :=
  ∃ (news : List (Addr × Obj)) (n : Nat) (P : Nat → Value → Prop) (St : Nat → Heap → Prop) (S : List (Addr × Obj) → Prop) (fp : List Addr) (I : Addr) (g : Heap),
    (∀ (Q : Value → Shared → Prop) (E : Value → Shared → Prop), Q (.ref I) { s₁ with heap := g } → wpAny (model prog w) A (pyIter xv) Q E s₁) ∧ Walks prog w A I fp [I] n P St ∧ n ≤ sizeLine ∧ (∀ i h, St i h → ∃ o, h.get? I = some o) ∧
    (∀ i h h' o nw, St i h → h.get? I = some o → h'.get? I = some o → (∀ b o, h₀.get? b = some o → h'.get? b = some o) → News h₀ L h' nw → S nw → St i h') ∧ St 0 g ∧ (∀ b ∈ fp, b < g.objs.size) ∧
    Fr h₀ L g m ∧ News h₀ L g news ∧ L ≠ I ∧ h₀.get? I = none ∧ (∀ p ∈ news, p.1 ≠ I) ∧ S news ∧ LCg.CompRest prog w A h₀ L m env elt x scope cl { s₁ with heap := g } S P (Fin { s₁ with heap := g }) n 0 [] news
section
variable {prog : Program} {w : World} {A : Around} {E : Value → Shared → Prop} {s : Shared} {h₀ : Heap} {L : Addr} {m : Str → Option Value} {env : Env}
theorem comp_expr {elt iter : Expr} {x : Str} {px : Pos} {scope : Scope} {cl : List (Str × Addr)} {pos : Pos} {Q : Value → Shared → Prop} (_F : Fr h₀ L s.heap m)
    (hclos : closureFor scope env = pure cl) (hcell : ∀ y ∈ scope.names, y.2 ≠ .cell) (hkind : scope.kind = .function)
    (hnames : ∀ y ∈ scope.names, y.2 = .local → scope.names.lookup y.1 = some .local) (hx : scope.names.lookup x = some .local)
    (h : wpAny (model prog w) A (eval iter env) (SrcG prog w A h₀ L m env elt x scope cl (fun s₂ => LCg.FinE h₀ L m s₂ Q)) E s)
    (hs : ∀ x, foldedSetIterable iter env x = pure x := by intro _; rfl) :
    wpAny (model prog w) A (eval (.ListComp elt [⟨.Name x px, iter, [], 0⟩] scope pos) env) Q E s := by
  rw [eval_ListComp]
  refine wpAny_comprehension_free (use := none) rfl hs hclos hkind hnames (wpAny_mono h (fun xv s₁ h₁ => ?_) fun _ _ e => e)
  obtain ⟨news, n, P, St, S, fp, I, g, hit, W, hsz, hIo, hSt, hst, hfp, F, N, hIL, hI₀, off, hS, R⟩ := h₁
  refine hit _ _ ?_
  refine LCg.block_U (s₂ := { s₁ with heap := g }) W hsz hIo hSt hcell hkind hx hst hfp F N hIL hI₀ off hS R ?_
  intro D C h' tk m' ys news' F' N' o1 hn hC₀ hD₀ hCL hDL hCD offC fin
  refine ⟨m', hn, fun h2 hs2 => fin D h2 tk (F'.change hs2 hCL hC₀) (fun p hp => ?_) o1⟩
  refine ⟨hs2.extBut _ _ ?_ (N' p hp).1, (N' p hp).2⟩
  rcases List.mem_cons.mp hp with rfl | hp
  · exact Ne.symm hCD
  · exact offC p hp
theorem comp_assign {elt iter : Expr} {x y : Str} {px py : Pos} {scope : Scope} {cl : List (Str × Addr)} {pos spos : Pos} {Q : Flow → Shared → Prop} (_F : Fr h₀ L s.heap m) (hLe : env.locals = L)
    (hsw : swapsWith (.ListComp elt [⟨.Name x px, iter, [], 0⟩] scope pos) (some (.Name y py)) spos.line env = pure true)
    (hclos : closureFor scope env = pure cl) (hcell : ∀ z ∈ scope.names, z.2 ≠ .cell) (hkind : scope.kind = .function)
    (hnames : ∀ z ∈ scope.names, z.2 = .local → scope.names.lookup z.1 = some .local) (hx : scope.names.lookup x = some .local)
    (hy : env.kindOf y = some .local) (hp : (env.scope.kind == .class || (env.scope.kind == .module && env.locals != env.globals)) = false)
    (h : wpAny (model prog w) A (eval iter env) (SrcG prog w A h₀ L m env elt x scope cl (fun s₂ => LCg.FinA h₀ L m s₂ y Q)) E s)
    (hs : ∀ x, foldedSetIterable iter env x = pure x := by intro _; rfl) :
    wpAny (model prog w) A (exec (.Assign [.Name y py] (.ListComp elt [⟨.Name x px, iter, [], 0⟩] scope pos) spos) env) Q E s := by
  subst hLe
  rw [exec_Assign_Name_used _ _ _ _ hsw]
  refine wpAny_bind (wpAny_standAt (wpAny_bind ?_))
  show wpAny _ A (do let _ ← comprehension (.ListComp elt [⟨.Name x px, iter, [], 0⟩] scope pos) scope env _ (newList []) false (eval iter env) (some (assign (.Name y py) env))) _ _ s
  refine wpAny_bind (wpAny_mono (wpAny_comprehension_free (use := some (assign (.Name y py) env)) (Q := fun _ s' => Q .next s') rfl hs hclos hkind hnames
    (wpAny_mono h (fun xv s₁ h₁ => ?_) fun _ _ e => e)) (fun _ s' hq => wpAny_pure (wpAny_pure hq)) fun _ _ e => e)
  obtain ⟨news, n, P, St, S, fp, I, g, hit, W, hsz, hIo, hSt, hst, hfp, F, N, hIL, hI₀, off, hS, R⟩ := h₁
  refine hit _ _ ?_
  refine LCg.block_U (s₂ := { s₁ with heap := g }) W hsz hIo hSt hcell hkind hx hst hfp F N hIL hI₀ off hS R ?_
  intro D C h' tk m' ys news' F' N' o1 hn hC₀ hD₀ hCL hDL hCD offC fin
  show wpAny _ A (assign (.Name y py) env (.ref D)) _ _ _
  refine wpAny_assign_Name (wpAny_storeName_local hy F'.ns (fun h₂ hn₂ hs₂ => ?_) hp)
  have hL₀ : h₀.get? env.locals = none := Heap.get?_none_of_le F'.above
  have F₂ : Fr h₀ env.locals h₂ (fun z => if z = y then some (.ref D) else m z) := ⟨hn₂, fun b o e => hs₂.extBut b o (fun q => by rw [q, hL₀] at e; cases e) (F'.keep b o e), F'.above⟩
  refine ⟨m', hn.sameBut hs₂ hCL, fun h3 hs3 => fin D h3 _ (F₂.change hs3 hCL hC₀) (fun p hp => ?_) o1⟩
  have z : h₂.get? p.1 = some p.2 := hs₂.extBut _ _ (N' p hp).2.1 (N' p hp).1
  refine ⟨hs3.extBut _ _ ?_ z, (N' p hp).2⟩
  rcases List.mem_cons.mp hp with rfl | hp
  · exact Ne.symm hCD
  · exact offC p hp

theorem srcG_tuple {elt : Expr} {x : Str} {scope : Scope} {cl : List (Str × Addr)} {Fin : Shared → List Value → List (Addr × Obj) → Prop} {ax : Addr} {its : Array Value} {k : Nat} {news : List (Addr × Obj)} {s₁ : Shared}
    (hh : A.handled = none) (F : Fr h₀ L s₁.heap m) (N : News h₀ L s₁.heap news) (hm : (ax, ({ cls := .type "tuple", data := .seq its k } : Obj)) ∈ news) (hsz : its.size ≤ sizeLine)
    (h : ∀ g, LCg.CompRest prog w A h₀ L m env elt x scope cl { s₁ with heap := g } (fun nw => (ax, ({ cls := .type "tuple", data := .seq its k } : Obj)) ∈ nw) (fun i v => its[i]? = some v) (Fin { s₁ with heap := g }) its.size 0 [] news) :
    SrcG prog w A h₀ L m env elt x scope cl Fin (.ref ax) s₁ := by
  have ht : s₁.heap.IsTuple ax its := ⟨_, (N _ hm).1, rfl, k, rfl⟩
  have hlt : ax < s₁.heap.objs.size := Heap.lt_size (N _ hm).1
  have up : ∀ b o, s₁.heap.get? b = some o → (s₁.heap.push { cls := .type "tuple_iterator", data := .fields #[.ref ax, .int 0 0] }).get? b = some o := fun b o e => Heap.get?_push_of_some _ e
  refine ⟨news, its.size, _, _, _, [s₁.heap.objs.size, ax], s₁.heap.objs.size, _, fun Q E q => wpAny_pyIter_tuple ht q, Walks.tuple hh _ ax (Nat.ne_of_lt hlt) its, hsz, fun i h st => by obtain ⟨o, e, _⟩ := st.1; exact ⟨o, e⟩, ?_, ⟨⟨_, Heap.get?_push_size _ rfl, rfl, rfl⟩, ht.at fun o e => up _ _ e⟩, ?_, F.keeps up, N.grown up, Nat.ne_of_lt F.ns.lt, next_is_new F, fun p hp => Nat.ne_of_lt (Heap.lt_size (N p hp).1), hm, h _⟩
  · intro i h h' o nw st e e' _ N' S'
    exact ⟨by obtain ⟨o', q, r⟩ := st.1; rw [e] at q; cases q; exact ⟨o, e', r⟩, ⟨_, (N' _ S').1, rfl, k, rfl⟩⟩
  · intro b hb
    rw [Heap.size_push]
    rcases List.mem_cons.mp hb with rfl | hb
    · exact Nat.lt_succ_self _
    · rw [List.mem_singleton.mp hb]; exact Nat.lt_succ_of_lt hlt
theorem srcG_str {elt : Expr} {x : Str} {scope : Scope} {cl : List (Str × Addr)} {Fin : Shared → List Value → List (Addr × Obj) → Prop} {y : Str} {t : Tok} {news : List (Addr × Obj)} {s₁ : Shared}
    (hh : A.handled = none) (F : Fr h₀ L s₁.heap m) (N : News h₀ L s₁.heap news) (hsz : y.cps.size ≤ sizeLine) (hy : y.cps.all (· < 128) = true)
    (h : ∀ g, LCg.CompRest prog w A h₀ L m env elt x scope cl { s₁ with heap := g } (fun _ => True) (SignAt y) (Fin { s₁ with heap := g }) y.cps.size 0 [] news) :
    SrcG prog w A h₀ L m env elt x scope cl Fin (.str y t) s₁ := by
  refine ⟨news, y.cps.size, _, _, fun _ => True, [s₁.heap.objs.size], s₁.heap.objs.size, _, fun Q E q => wpAny_pyIter_ascii hy q, Walks.strAscii hh _ y t, hsz, fun i h st => by obtain ⟨o, e, _⟩ := st; exact ⟨o, e⟩, ?_, ⟨_, Heap.get?_push_size _ rfl, rfl, rfl⟩, ?_, F.keeps fun _ _ e => Heap.get?_push_of_some _ e, N.grown fun _ _ e => Heap.get?_push_of_some _ e, Nat.ne_of_lt F.ns.lt, next_is_new F, fun p hp => Nat.ne_of_lt (Heap.lt_size (N p hp).1), trivial, h _⟩
  · intro i h h' o nw st e e' _ N' S'
    obtain ⟨o', q, r⟩ := st; rw [e] at q; cases q; exact ⟨o, e', r⟩
  · intro b hb
    rw [Heap.size_push]
    rw [List.mem_singleton.mp hb]; exact Nat.lt_succ_self _
theorem compEnd0 {h₀ : Heap} {L I C D : Addr} {m : Str → Option Value} {s₁ : Shared} {oI oC oD : Obj} {S : List (Addr × Obj) → Prop} {rest : Value → List (Addr × Obj) → Prop} {y : Value} {h' : Heap} {tk : Nat} {tl : List (Addr × Obj)}
    (F : Fr h₀ L h' m) (N : News h₀ L h' ((I, oI) :: (C, oC) :: (D, oD) :: tl)) (off : LCg.Off3 I C D tl) (hS : S tl) (r : rest y tl) :
    LCg.CompEnd h₀ L m s₁ I oI C oC D oD S rest y { s₁ with heap := h', toks := tk } := LCg.CompEnd.intro F N tl (fun _ h => h) off hS r
theorem compEnd1 {h₀ : Heap} {L I C D : Addr} {m : Str → Option Value} {s₁ : Shared} {oI oC oD : Obj} {S : List (Addr × Obj) → Prop} {rest : Value → List (Addr × Obj) → Prop} {y : Value} {h' : Heap} {tk : Nat} {q : Addr × Obj} {tl : List (Addr × Obj)}
    (F : Fr h₀ L h' m) (N : News h₀ L h' (q :: (I, oI) :: (C, oC) :: (D, oD) :: tl)) (off : LCg.Off3 I C D (q :: tl)) (hS : S (q :: tl)) (r : rest y (q :: tl)) :
    LCg.CompEnd h₀ L m s₁ I oI C oC D oD S rest y { s₁ with heap := h', toks := tk } := LCg.CompEnd.intro F N (q :: tl) (fun p hp => by
      simp only [List.mem_cons] at hp ⊢
      rcases hp with h | h | h | h | h <;> simp only [h, true_or, or_true]) off hS r
end
end PartCompG
section PartWRules
open PySem PySem.W PyProof.Rows PySem.Spec PySem.Calls
theorem last_snoc (ws : List Value) (y : Value) : kl_last (ws ++ [y]) = some (ws, y) := by
  induction ws with
  | nil => rfl
  | cons x r ih => show (match kl_last (r ++ [y]) with | some (p, z) => some (x :: p, z) | none => some ([], x)) = _; rw [ih]
section
variable {prog : Program} {w : World} {A : Around} {E : Value → Shared → Prop} {s : Shared} {h₀ : Heap} {L D l a b : Addr} {m : Str → Option Value} {news news' : List (Addr × Obj)} {n n2 : Nat} {Q : Value → Shared → Prop} {value slice : PySem.Expr}
theorem len_snoc {ws : List Value} {y : Value} (N : News h₀ L s.heap news) (hm : (l, listOf (ws ++ [y]).toArray n) ∈ news) (hz : ws.length ≤ 200000)
    (h : Q (.int ((ws.length : Int) + 1) (s.toks + 1)) { s with toks := s.toks + 1 + 1 }) : wpAny (model prog w) A (call (.builtin "len") [.ref l]) Q E s := by
  have e : ((ws ++ [y]).toArray.size : Int) = (ws.length : Int) + 1 := by simp
  refine Calls.call_len_list (News.isList N hm) (by rw [e]; omega) ?_
  rw [e]; exact h
theorem len_pp {pre post : List Value} (N : News h₀ L s.heap news) (hm : (l, listOf (pre ++ post).toArray n) ∈ news) {j : Nat} (hj : post.length = j) (hz : pre.length ≤ 200000) (hj2 : j ≤ 8)
    (h : Q (.int ((pre.length : Int) + j) (s.toks + 1)) { s with toks := s.toks + 1 + 1 }) : wpAny (model prog w) A (call (.builtin "len") [.ref l]) Q E s := by
  have e : ((pre ++ post).toArray.size : Int) = (pre.length : Int) + j := by simp [hj]
  refine Calls.call_len_list (News.isList N hm) (by rw [e]; omega) ?_
  rw [e]; exact h
theorem len_nil {ws : List Value} (N : News h₀ L s.heap news) (hm : (l, listOf (ws ++ []).toArray n) ∈ news) (hz : ws.length ≤ 200000)
    (h : Q (.int (ws.length : Int) (s.toks + 1)) { s with toks := s.toks + 1 + 1 }) : wpAny (model prog w) A (call (.builtin "len") [.ref l]) Q E s :=
  len_pp N hm (j := 0) rfl hz (by omega) (by simpa using h)
theorem len_two {ws : List Value} {y z : Value} (N : News h₀ L s.heap news) (hm : (l, listOf (ws ++ [y, z]).toArray n) ∈ news) (hz : ws.length ≤ 200000)
    (h : Q (.int ((ws.length : Int) + 2) (s.toks + 1)) { s with toks := s.toks + 1 + 1 }) : wpAny (model prog w) A (call (.builtin "len") [.ref l]) Q E s :=
  len_pp N hm (j := 2) rfl hz (by omega) (by simpa using h)
theorem pop_snoc {ws : List Value} {y : Value} (F : Fr h₀ L s.heap m) (N : News h₀ L s.heap news) (U : Upd D (listOf (ws ++ [y]).toArray n) (listOf ws.toArray (n + 1)) news news') (hz : ws.length ≤ 200000)
    (h : ∀ h', Fr h₀ L h' m → News h₀ L h' news' → Q y { s with heap := h' }) : wpAny (model prog w) A (call (.builtin "list.pop") [.ref D]) Q E s :=
  kl_pop F N (last_snoc ws y) U (by show (ws ++ [y]).length ≤ sizeLine; rw [List.length_append, List.length_singleton, sizeLine_eq]; omega) h
theorem append_snoc {ws : List Value} {x : Value} (F : Fr h₀ L s.heap m) (N : News h₀ L s.heap news) (U : Upd D (listOf ws.toArray n) (listOf (ws ++ [x]).toArray (n + 1)) news news') (hz : ws.length ≤ 200000)
    (h : ∀ h', Fr h₀ L h' m → News h₀ L h' news' → Q .none { s with heap := h' }) : wpAny (model prog w) A (call (.builtin "list.append") [.ref D, x]) Q E s := by
  refine append_K F N (n := n) (its := ws.toArray) (news' := news') ?_ h (by rw [List.size_toArray, sizeLine_eq]; omega)
  rw [List.push_toArray]
  exact U
theorem extend_some {ws xs : List Value} (F : Fr h₀ L s.heap m) (N : News h₀ L s.heap news) (hb : (b, listOf xs.toArray n2) ∈ news) (U : Upd D (listOf ws.toArray n) (listOf (ws ++ xs).toArray (n + 1)) news news') (hx : 1 ≤ xs.length ∧ xs.length ≤ 8) (hz : ws.length ≤ 200000)
    (h : ∀ h', Fr h₀ L h' m → News h₀ L h' news' → Q .none { s with heap := h' }) : wpAny (model prog w) A (call (.builtin "list.extend") [.ref D, .ref b]) Q E s := by
  refine kl_extend F N hb (l := ws ++ xs) rfl (by show xs.length ≠ 0; omega) U ?_ (by show ws.length ≤ sizeLine; rw [sizeLine_eq]; omega) (by rw [List.size_toArray, List.size_toArray, sizeLine_eq]; omega) h
  have e : Builtin.List.listTooLong (ws.toArray.size + xs.toArray.size) = false := by
    rw [List.size_toArray, List.size_toArray]
    unfold Builtin.List.listTooLong
    simp only [decide_eq_false_iff_not, sizeLine_eq]
    omega
  rw [e, Bool.and_false]
  exact Bool.false_ne_true
theorem slice_from {pre post : List Value} {k : Int} {t : Tok} (F : Fr h₀ L s.heap m) (N : News h₀ L s.heap news) (hm : (l, listOf (pre ++ post).toArray n) ∈ news) (hk : k = (pre.length : Int)) (hz : pre.length ≤ 200000) (hz2 : post.length ≤ 8)
    (h : ∀ D h', Fr h₀ L h' m → News h₀ L h' ((D, listOf post.toArray 0) :: news) → (∀ p ∈ news, p.1 < D) → Q (.ref D) { s with heap := h' })
    (hs : subscripted slice false (.ref l) (.ref s.heap.objs.size) = operate [.ref s.heap.objs.size, .ref l] (getItem (.ref l) (.ref s.heap.objs.size))) (ht : ∀ r, letTemporaryGo value (.ref l) r = pure ()) :
    wpAny (model prog w) A (subscriptTail value slice (.ref l) (.ref s.heap.objs.size)) Q E { s with heap := s.heap.push { cls := .type "slice", data := .fields #[.int k t, .none, .none] } } := by
  refine kmk_slice_lit F N (News.isList N hm) (.int k t) .none (zs := post) ?_ h hs ht (by rw [List.size_toArray, List.length_append, sizeLine_eq]; omega)
  rw [hk, slicePick_from']
  simp
theorem slice_upto {pre post : List Value} {k : Int} {t : Tok} (F : Fr h₀ L s.heap m) (N : News h₀ L s.heap news) (hm : (l, listOf (pre ++ post).toArray n) ∈ news) (hk : k = (pre.length : Int)) (hz : pre.length ≤ 200000) (hz2 : post.length ≤ 8)
    (h : ∀ D h', Fr h₀ L h' m → News h₀ L h' ((D, listOf pre.toArray 0) :: news) → (∀ p ∈ news, p.1 < D) → Q (.ref D) { s with heap := h' })
    (hs : subscripted slice false (.ref l) (.ref s.heap.objs.size) = operate [.ref s.heap.objs.size, .ref l] (getItem (.ref l) (.ref s.heap.objs.size))) (ht : ∀ r, letTemporaryGo value (.ref l) r = pure ()) :
    wpAny (model prog w) A (subscriptTail value slice (.ref l) (.ref s.heap.objs.size)) Q E { s with heap := s.heap.push { cls := .type "slice", data := .fields #[.none, .int k t, .none] } } := by
  refine kmk_slice_lit F N (News.isList N hm) .none (.int k t) (zs := pre) ?_ h hs ht (by rw [List.size_toArray, List.length_append, sizeLine_eq]; omega)
  rw [hk, slicePick_upto _ _ (by simp)]
  simp
theorem add_snoc {ws xs : List Value} (F : Fr h₀ L s.heap m) (N : News h₀ L s.heap news) (ha : (a, listOf ws.toArray n) ∈ news) (hb : (b, listOf xs.toArray n2) ∈ news) (hz : ws.length ≤ 200000) (hz2 : xs.length ≤ 8)
    (h : ∀ D h', Fr h₀ L h' m → News h₀ L h' ((D, listOf (ws ++ xs).toArray 0) :: news) → (∀ p ∈ news, p.1 < D) → Q (.ref D) { s with heap := h' }) : wpAny (model prog w) A (binaryOp .Add (.ref a) (.ref b)) Q E s :=
  kmk_add_lit F N (News.isList N ha) (News.isList N hb) rfl h (by show ws.length + xs.length ≤ sizeLine; rw [sizeLine_eq]; omega)
theorem srcG_rev {env : Env} {elt : Expr} {x : Str} {scope : Scope} {cl : List (Str × Addr)} {Fin : Shared → List Value → List (Addr × Obj) → Prop} {its : List Value} {k : Nat} {s₁ : Shared}
    (hh : A.handled = none) (F : Fr h₀ L s₁.heap m) {k1 : Int} (N : News h₀ L s₁.heap ((D, revObj l k1) :: news)) (hD9 : AllLt D news) (hm : (l, listOf its.toArray k) ∈ news) (hk1 : k1 = (its.length : Int) - 1) (hsz : its.length ≤ 8)
    (h : ∀ g, LCg.CompRest prog w A h₀ L m env elt x scope cl { s₁ with heap := g } (fun nw => (l, listOf its.toArray k) ∈ nw) (fun i v => its.reverse.toArray[i]? = some v) (Fin { s₁ with heap := g }) its.length 0 [] news) :
    SrcG prog w A h₀ L m env elt x scope cl Fin (.ref D) s₁ := by
  subst hk1
  have hD : ∀ p ∈ news, p.1 ≠ D := fun p hp => Nat.ne_of_lt (ktn_ltOf hD9 p hp)
  have hd := N _ (.head _)
  have hl := N _ (.tail _ hm)
  have hit : s₁.heap.IsRevIter D l ((its.length : Int) - 1) := ⟨_, hd.1, rfl, rfl⟩
  have hll : s₁.heap.IsList l its.toArray := ⟨_, hl.1, rfl, k, rfl⟩
  have W := Walks.listRev (prog := prog) (w := w) hh D l (hD _ hm) its.toArray
  have hlen : its.toArray.size = its.length := List.size_toArray ..
  rw [hlen] at W
  have W' : Walks prog w A D [D, l] [D] its.length (fun i v => its.reverse.toArray[i]? = some v) (fun i h => i ≤ its.length ∧ h.IsRevIter D l ((its.length : Int) - 1 - (i : Int)) ∧ h.IsList l its.toArray) :=
    { sub := W.sub, frame := W.frame, done := W.done, self := W.self,
      item := fun i s Q E hi st hQ => W.item i s Q E hi st fun v h' tk hP => hQ v h' tk (by
        rw [List.getElem?_toArray, List.getElem?_reverse hi]
        simpa using hP) }
  refine ⟨news, its.length, _, _, _, [D, l], D, s₁.heap, fun Q E q => wpAny_pyIter_revIter hit q, W', by rw [sizeLine_eq]; omega, fun i h st => by obtain ⟨o, e, _⟩ := st.2.1; exact ⟨o, e⟩, ?_, ⟨Nat.zero_le _, by simpa using hit, hll⟩, ?_, F, fun p hp => N p (.tail _ hp), Ne.symm hd.2.1, hd.2.2, hD, hm, h _⟩
  · intro i h h' o nw st e e' _ N' S'
    exact ⟨st.1, by obtain ⟨o', q, r⟩ := st.2.1; rw [e] at q; cases q; exact ⟨o, e', r⟩, ⟨_, (N' _ S').1, rfl, k, rfl⟩⟩
  · intro b hb
    rcases List.mem_cons.mp hb with rfl | hb
    · exact Heap.lt_size hd.1
    · rw [List.mem_singleton.mp hb]; exact Heap.lt_size hl.1
end
theorem intsAre_snoc : ∀ {V : List Int} {vs : List Value} {x : Int}, IntsAre vs (V ++ [x]) → ∃ vs' t, vs = vs' ++ [.int x t] ∧ IntsAre vs' V
  | [], vs, x, h => by
    obtain ⟨t, vs', rfl, h'⟩ := IntsAre.cons_inv h
    have := IntsAre.nil_inv h'
    subst this
    exact ⟨[], t, rfl, .nil⟩
  | n :: V, vs, x, h => by
    obtain ⟨t, vs', rfl, h'⟩ := IntsAre.cons_inv h
    obtain ⟨vs2, t2, rfl, h2⟩ := intsAre_snoc h'
    exact ⟨.int n t :: vs2, t2, rfl, .cons n t h2⟩
theorem intsAre_push : ∀ {V : List Int} {vs : List Value} {x : Int} {t : Tok}, IntsAre vs V → IntsAre (vs ++ [.int x t]) (V ++ [x])
  | _, _, x, t, .nil => .cons x t .nil
  | _, _, x, t, .cons n u h => .cons n u (intsAre_push h)
end PartWRules
section PartHd
open PySem PySem.W PyProof.Rows
noncomputable abbrev Pg : Program := PySem.Challenge.rw_xm0020_01.row.prog
namespace HH
noncomputable abbrev vs (s : String) (t : Tok) : Value := .str (Str.ofString s) t
noncomputable abbrev vi (i : Int) (t : Tok) : Value := .int i t
noncomputable abbrev de (P : Params) (s : String) (t : Tok) (v : Value) : DictEntry := ⟨PyData.keyHash P (Str.ofString s), .str (Str.ofString s) t, v⟩
noncomputable abbrev tO (l : List Value) : Obj := ⟨.type "tuple", none, .seq ⟨l⟩ 0, ⟨[]⟩⟩
noncomputable abbrev fsO (l : List Value) : Obj := ⟨.none, none, .fields ⟨l⟩, ⟨[]⟩⟩
noncomputable abbrev cO (l : List Value) : Obj := ⟨.type "code", none, .fields ⟨l⟩, ⟨[]⟩⟩
noncomputable abbrev dO (n : Nat) (l : List DictEntry) : Obj := ⟨.type "dict", none, .dict ⟨l⟩ n, ⟨[]⟩⟩
noncomputable def bE : List Stmt := behindTheImports Pg
noncomputable def sA (i : Nat) : Stmt := (bE[i]?).getD (.Pass default)
noncomputable def sM (i j : Nat) : Stmt := ((match sA i with | .ClassDef _ _ _ b _ _ _ _ _ _ _ => b | _ => [])[j]?).getD (.Pass default)
noncomputable def fPar : Stmt → Arguments
  | .FunctionDef _ ps _ _ _ _ _ _ _ _ => ps
  | _ => default
noncomputable def fBod : Stmt → List Stmt
  | .FunctionDef _ _ b _ _ _ _ _ _ _ => b
  | _ => []
noncomputable def fSco : Stmt → Scope
  | .FunctionDef _ _ _ _ _ _ sc _ _ _ => sc
  | _ => default
noncomputable abbrev fO (s : Stmt) (n q : String) (g : Addr) (cl : List (Str × Addr)) (df kd dc pm : Value) (an : Option Addr) (c ct : Value) (b : Addr) : FuncData := ⟨Str.ofString n, Str.ofString q, fPar s, .stmts (fBod s), fSco s, g, cl, df, kd, dc, pm, an, c, ct, b⟩
noncomputable def lifeM : Life := {}
noncomputable def annM : Option Value := some (.ref 6)
noncomputable def mE (P : Params) : List DictEntry := [de P "__doc__" 166 .none, de P "__package__" 167 .none, de P "__loader__" 168 (.builtin "__main__.__loader__#opaque"), de P "__spec__" 169 .none, de P "__annotations__" 170 (.ref 6), de P "__builtins__" 171 (.ref 4), de P "__file__" 173 (vs "/claim/cut.py" 172), de P "__cached__" 174 .none, de P "MOST_TEXT" 190 (vi 255 189), de P "MOST_EXPONENT" 192 (vi 99 191), de P "BasicError" 226 (.ref 34), de P "kind_of" 233 (.ref 44), de P "figures_of" 242 (.ref 51), de P "rounded_by" 253 (.ref 58), de P "made" 265 (.ref 65), de P "whole_near" 275 (.ref 72), de P "fits" 283 (.ref 79), de P "whole_of" 292 (.ref 86), de P "decimal_of" 300 (.ref 93), de P "checked_text" 307 (.ref 100), de P "truth" 314 (.ref 107), de P "ONE" 319 (.ref 108), de P "MOST_POWER" 321 (vi 9999 320), de P "d_negated" 328 (.ref 115), de P "alike" 337 (.ref 122), de P "d_add" 349 (.ref 129), de P "d_sub" 358 (.ref 136), de P "d_mul" 367 (.ref 143), de P "with_rest" 376 (.ref 150), de P "d_div" 390 (.ref 157), de P "d_compare" 401 (.ref 164), de P "d_power" 413 (.ref 171), de P "square_or_end" 421 (.ref 178), de P "is_whole" 430 (.ref 185), de P "settled" 439 (.ref 192), de P "whole_reckoned" 450 (.ref 199), de P "cut_quotient" 459 (.ref 206), de P "cut_rest" 467 (.ref 213), de P "exponent_of" 474 (.ref 220), de P "whole_power" 484 (.ref 227), de P "raised" 495 (.ref 234), de P "reckoned" 511 (.ref 241), de P "negated" 520 (.ref 248), de P "order_of" 528 (.ref 255), de P "inverted" 536 (.ref 262), de P "logic" 548 (.ref 269), de P "parts_of_tree" 557 (.ref 276), de P "LOGIC" 565 (.ref 277), de P "COMPARISONS" 572 (.ref 278), de P "order_of_texts" 580 (.ref 285), de P "compared" 588 (.ref 292), de P "worth_of_texts" 597 (.ref 299), de P "worth_of_two" 603 (.ref 304), de P "worth_of_one" 613 (.ref 311), de P "worth_of_leaf" 624 (.ref 318), de P "worth_of_tree" 634 (.ref 325), de P "worth" 640 (.ref 330), de P "PlainHooks" 722 (.ref 382), de P "_law_number_of" 733 (.ref 393), de P "_law_logic_tree" 739 (.ref 398), de P "_law_worth_at" 747 (.ref 405), de P "_law_truth" 757 (.ref 412), de P "_law_coefficients" 766 (.ref 419), de P "_law_product" 772 (.ref 424), de P "_law_sum" 781 (.ref 431), de P "_law_dual" 790 (.ref 438), de P "law" 796 (.ref 443)]
noncomputable def lE : List Value := [(vi 4 0), (vi 0 0), (.ref 21), (vi 10 0), (vi 0 0), (.ref 43), (vi 14 0), (vi 0 0), (.ref 50), (vi 20 0), (vi 0 0), (.ref 57), (vi 30 0), (vi 0 0), (.ref 64), (vi 45 0), (vi 0 0), (.ref 71), (vi 51 0), (vi 0 0), (.ref 78), (vi 53 0), (vi 0 0), (.ref 85), (vi 60 0), (vi 0 0), (.ref 92), (vi 64 0), (vi 0 0), (.ref 99), (vi 68 0), (vi 0 0), (.ref 106), (vi 73 0), (vi 0 0), (.ref 114), (vi 75 0), (vi 0 0), (.ref 121), (vi 78 0), (vi 0 0), (.ref 128), (vi 81 0), (vi 0 0), (.ref 135), (vi 83 0), (vi 0 0), (.ref 142), (vi 85 0), (vi 0 0), (.ref 149), (vi 87 0), (vi 0 0), (.ref 156), (vi 95 0), (vi 0 0), (.ref 163), (vi 98 0), (vi 0 0), (.ref 170), (vi 112 0), (vi 0 0), (.ref 177), (vi 115 0), (vi 0 0), (.ref 184), (vi 119 0), (vi 0 0), (.ref 191), (vi 121 0), (vi 0 0), (.ref 198), (vi 125 0), (vi 0 0), (.ref 205), (vi 130 0), (vi 0 0), (.ref 212), (vi 132 0), (vi 0 0), (.ref 219), (vi 138 0), (vi 0 0), (.ref 226), (vi 144 0), (vi 0 0), (.ref 233), (vi 149 0), (vi 0 0), (.ref 240), (vi 164 0), (vi 0 0), (.ref 247), (vi 166 0), (vi 0 0), (.ref 254), (vi 172 0), (vi 0 0), (.ref 261), (vi 174 0), (vi 0 0), (.ref 268), (vi 184 0), (vi 0 0), (.ref 275), (vi 193 0), (vi 0 0), (.ref 284), (vi 195 0), (vi 0 0), (.ref 291), (vi 201 0), (vi 0 0), (.ref 298), (vi 207 0), (vi 0 0), (.ref 303), (vi 218 0), (vi 0 0), (.ref 310), (vi 222 0), (vi 0 0), (.ref 317), (vi 227 0), (vi 0 0), (.ref 324), (vi 240 0), (vi 0 0), (.ref 329), (vi 254 0), (vi 0 0), (.ref 336), (vi 284 0), (vi 0 0), (.ref 392), (vi 288 0), (vi 0 0), (.ref 397), (vi 296 0), (vi 0 0), (.ref 404), (vi 298 0), (vi 0 0), (.ref 411), (vi 309 0), (vi 0 0), (.ref 418), (vi 313 0), (vi 0 0), (.ref 423), (vi 321 0), (vi 0 0), (.ref 430), (vi 327 0), (vi 0 0), (.ref 437), (vi 336 0), (vi 0 0), (.ref 442)]
noncomputable def o11 (_ : Params) : Obj := tO []
noncomputable def o12 (_ : Params) : Obj := fsO (lE.take 0)
noncomputable def o13 (_ : Params) : Obj := cO [(vs "<module>" 182), (vs "<module>" 183), (vs "/claim/cut.py" 184), (vi 1 0), (vi 0 0), (vi 0 0), (vi 0 0), (vi 0 0), (.ref 11), (.bool false), (vi 181 0), (.ref 12), .none, .none, .none, .none, (vi 185 0), (vi 1 0), (vs "/claim/cut.py" 186)]
noncomputable def o14 (_ : Params) : Obj := ⟨(.type "frame"), none, .plain, ⟨[some (.ref 13), some (.ref 3), some (.ref 3), none, some (vs "__main__" 164), none, some (.ref 0)]⟩⟩
noncomputable def Ta (P : Params) : BT := (.node (boot_o_0 P) (.node (boot_o_1 P) (.node (boot_o_3 P) (.node (boot_o_7 P) .nil .nil) (.node (o11 P) .nil .nil)) (.node (boot_o_5 P) (.node (boot_o_9 P) .nil .nil) (.node (o13 P) .nil .nil))) (.node (boot_o_2 P) (.node (boot_o_4 P) (.node (boot_o_8 P) .nil .nil) (.node (o12 P) .nil .nil)) (.node (boot_o_6 P) (.node (boot_o_10 P) .nil .nil) (.node (o14 P) .nil .nil))))
noncomputable def Sa (w : World) (os : OsState) : SharedT := ⟨Ta w.params, 15, lifeM, ⟨[]⟩, ⟨0, 0, 0, 0⟩, 187, os⟩
noncomputable def o2v1 (P : Params) : Obj := ⟨.none, none, (.dict ⟨[de P "type.__subclasses__.Exception.0" 223 (vi 34 0), de P "type.__subclasses__.Exception.n" 224 (vi 1 0)]⟩ 2), ⟨[]⟩⟩
noncomputable def o3v1 (P : Params) : Obj := dO 12 ((de P "__name__" 165 (vs "basicplus.values" 187)) :: (mE P).take 11)
noncomputable def o12v1 (_ : Params) : Obj := fsO (lE.take 3)
noncomputable def o15 (_ : Params) : Obj := tO [(.type "Exception")]
noncomputable def o16 (_ : Params) : Obj := ⟨(.type "builtin_function_or_method"), none, (.fields ⟨[(.builtin "type.__prepare__"), (.type "type")]⟩), ⟨[]⟩⟩
noncomputable def o17 (P : Params) : Obj := dO 6 [de P "__module__" 200 (vs "basicplus.values" 187), de P "__qualname__" 202 (vs "BasicError" 201), de P "__firstlineno__" 204 (vi 4 203), de P "__init__" 215 (.ref 31), de P "__static_attributes__" 218 (.ref 32), de P "__classcell__" 219 (.ref 18)]
noncomputable def o18 (_ : Params) : Obj := ⟨(.type "cell"), none, (.cell (some (.ref 34))), ⟨[]⟩⟩
noncomputable def o19 (_ : Params) : Obj := tO []
noncomputable def o20 (_ : Params) : Obj := fsO [(vi 6 0), (vi 4 0), (.ref 30)]
noncomputable def o21 (_ : Params) : Obj := cO [(vs "BasicError" 195), (vs "BasicError" 196), (vs "/claim/cut.py" 197), (vi 4 0), (vi 0 0), (vi 0 0), (vi 0 0), (vi 0 0), (.ref 19), (.bool false), (vi 181 0), (.ref 20), .none, .none, .none, .none, (vi 198 0), (vi 4 0), (vs "/claim/cut.py" 199)]
noncomputable def o22 (_ : Params) : Obj := ⟨(.type "frame"), none, .plain, ⟨[some (.ref 21), some (.ref 3), some (.ref 17), none, some (vs "basicplus.values" 187), none, some (.ref 0)]⟩⟩
noncomputable def o23 (_ : Params) : Obj := tO [(vs "" 205)]
noncomputable def o24 (_ : Params) : Obj := tO [(.ref 18)]
noncomputable def o25 (_ : Params) : Obj := tO [(vs "__class__" 209)]
noncomputable def o26 (_ : Params) : Obj := fsO []
noncomputable def o27 (_ : Params) : Obj := tO [(vs "self" 210), (vs "code" 211), (vs "told" 212)]
noncomputable def o28 (_ : Params) : Obj := tO []
noncomputable def o29 (_ : Params) : Obj := ⟨.none, none, (.func (fO (sM 3 0) "__init__" "BasicError.__init__" 0 [] .none .none .none .none none .none .none 0)), ⟨[]⟩⟩
noncomputable def o30 (_ : Params) : Obj := cO [(vs "__init__" 206), (vs "BasicError.__init__" 207), (vs "/claim/cut.py" 208), (vi 6 0), (vi 3 0), (vi 0 0), (vi 0 0), (vi 3 0), (.ref 25), (.bool true), (vi 181 0), (.ref 26), .none, (.ref 27), (.ref 28), (.ref 29), (vi 213 0), (vi 6 0), (vs "/claim/cut.py" 214)]
noncomputable def o31 (_ : Params) : Obj := ⟨(.type "function"), none, (.func (fO (sM 3 0) "__init__" "BasicError.__init__" 3 [(Str.ofString "__class__", 18)] (.ref 23) .none .none (vs "basicplus.values" 187) none (.ref 30) (.ref 24) 0)), ⟨[]⟩⟩
noncomputable def o32 (_ : Params) : Obj := tO [(vs "code" 216), (vs "told" 217)]
noncomputable def o33 (P : Params) : Obj := dO 4 [de P "__module__" 200 (vs "basicplus.values" 187), de P "__firstlineno__" 204 (vi 4 203), de P "__init__" 215 (.ref 31), de P "__static_attributes__" 218 (.ref 32), de P "__weakref__" 221 (.ref 35), de P "__doc__" 222 .none]
noncomputable def o34 (_ : Params) : Obj := ⟨(.type "type"), none, (.cls ⟨Str.ofString "BasicError", [(.type "Exception")], [(.ref 34), (.type "Exception"), (.type "BaseException"), (.type "object")], 33, Str.ofString "BasicError", true, [], [], false, none, false⟩), ⟨[some (.ref 15), none, some (vs "BasicError" 193), some (vs "BasicError" 201), some (.builtin "Exception.__new__"), some (.bool true)]⟩⟩
noncomputable def o35 (_ : Params) : Obj := ⟨(.type "getset_descriptor"), none, (.fields ⟨[(vs "__weakref__" 220), (.ref 34), (.builtin "ExceptionGroup.__weakref__"), .none]⟩), ⟨[]⟩⟩
noncomputable def o36 (_ : Params) : Obj := ⟨(.type "super"), none, (.fields ⟨[(.ref 34), (.ref 34), (.ref 34)]⟩), ⟨[]⟩⟩
noncomputable def o37 (_ : Params) : Obj := ⟨(.type "builtin_function_or_method"), none, (.fields ⟨[(.builtin "object.__init_subclass__"), (.ref 34)]⟩), ⟨[]⟩⟩
noncomputable def T4 (P : Params) : BT := (.node (boot_o_0 P) (.node (boot_o_1 P) (.node (o3v1 P) (.node (boot_o_7 P) (.node (o15 P) (.node (o31 P) .nil .nil) .nil) (.node (o23 P) .nil .nil)) (.node (o11 P) (.node (o19 P) (.node (o35 P) .nil .nil) .nil) (.node (o27 P) .nil .nil))) (.node (boot_o_5 P) (.node (boot_o_9 P) (.node (o17 P) (.node (o33 P) .nil .nil) .nil) (.node (o25 P) .nil .nil)) (.node (o13 P) (.node (o21 P) (.node (o37 P) .nil .nil) .nil) (.node (o29 P) .nil .nil)))) (.node (o2v1 P) (.node (boot_o_4 P) (.node (boot_o_8 P) (.node (o16 P) (.node (o32 P) .nil .nil) .nil) (.node (o24 P) .nil .nil)) (.node (o12v1 P) (.node (o20 P) (.node (o36 P) .nil .nil) .nil) (.node (o28 P) .nil .nil))) (.node (boot_o_6 P) (.node (boot_o_10 P) (.node (o18 P) (.node (o34 P) .nil .nil) .nil) (.node (o26 P) .nil .nil)) (.node (o14 P) (.node (o22 P) .nil .nil) (.node (o30 P) .nil .nil)))))
noncomputable def S4 (w : World) (os : OsState) : SharedT := ⟨T4 w.params, 38, lifeM, ⟨[]⟩, ⟨0, 0, 0, 0⟩, 227, os⟩
noncomputable def o3v2 (P : Params) : Obj := dO 58 ((de P "__name__" 165 (vs "basicplus.worth" 558)) :: (mE P).take 57)
noncomputable def o12v2 (_ : Params) : Obj := fsO (lE.take 129)
noncomputable def o38 (_ : Params) : Obj := tO []
noncomputable def o39 (_ : Params) : Obj := fsO []
noncomputable def o40 (_ : Params) : Obj := tO [(vs "value" 230)]
noncomputable def o41 (_ : Params) : Obj := tO []
noncomputable def o42 (_ : Params) : Obj := ⟨.none, none, (.func (fO (sA 4) "kind_of" "kind_of" 0 [] .none .none .none .none none .none .none 0)), ⟨[]⟩⟩
noncomputable def o43 (_ : Params) : Obj := cO [(vs "kind_of" 227), (vs "kind_of" 228), (vs "/claim/cut.py" 229), (vi 10 0), (vi 1 0), (vi 0 0), (vi 0 0), (vi 3 0), (.ref 38), (.bool true), (vi 181 0), (.ref 39), .none, (.ref 40), (.ref 41), (.ref 42), (vi 231 0), (vi 10 0), (vs "/claim/cut.py" 232)]
noncomputable def o44 (_ : Params) : Obj := ⟨(.type "function"), none, (.func (fO (sA 4) "kind_of" "kind_of" 3 [] .none .none .none (vs "basicplus.values" 187) none (.ref 43) .none 0)), ⟨[]⟩⟩
noncomputable def o45 (_ : Params) : Obj := tO []
noncomputable def o46 (_ : Params) : Obj := fsO []
noncomputable def o47 (_ : Params) : Obj := tO [(vs "number" 237), (vs "many" 238), (vs "bound" 239)]
noncomputable def o48 (_ : Params) : Obj := tO []
noncomputable def o49 (_ : Params) : Obj := ⟨.none, none, (.func (fO (sA 5) "figures_of" "figures_of" 0 [] .none .none .none .none none .none .none 0)), ⟨[]⟩⟩
noncomputable def o50 (_ : Params) : Obj := cO [(vs "figures_of" 234), (vs "figures_of" 235), (vs "/claim/cut.py" 236), (vi 14 0), (vi 1 0), (vi 0 0), (vi 0 0), (vi 3 0), (.ref 45), (.bool true), (vi 181 0), (.ref 46), .none, (.ref 47), (.ref 48), (.ref 49), (vi 240 0), (vi 14 0), (vs "/claim/cut.py" 241)]
noncomputable def o51 (_ : Params) : Obj := ⟨(.type "function"), none, (.func (fO (sA 5) "figures_of" "figures_of" 3 [] .none .none .none (vs "basicplus.values" 187) none (.ref 50) .none 0)), ⟨[]⟩⟩
noncomputable def o52 (_ : Params) : Obj := tO []
noncomputable def o53 (_ : Params) : Obj := fsO []
noncomputable def o54 (_ : Params) : Obj := tO [(vs "number" 246), (vs "places" 247), (vs "unit" 248), (vs "found" 249), (vs "rest" 250)]
noncomputable def o55 (_ : Params) : Obj := tO []
noncomputable def o56 (_ : Params) : Obj := ⟨.none, none, (.func (fO (sA 6) "rounded_by" "rounded_by" 0 [] .none .none .none .none none .none .none 0)), ⟨[]⟩⟩
noncomputable def o57 (_ : Params) : Obj := cO [(vs "rounded_by" 243), (vs "rounded_by" 244), (vs "/claim/cut.py" 245), (vi 20 0), (vi 2 0), (vi 0 0), (vi 0 0), (vi 3 0), (.ref 52), (.bool true), (vi 181 0), (.ref 53), .none, (.ref 54), (.ref 55), (.ref 56), (vi 251 0), (vi 20 0), (vs "/claim/cut.py" 252)]
noncomputable def o58 (_ : Params) : Obj := ⟨(.type "function"), none, (.func (fO (sA 6) "rounded_by" "rounded_by" 3 [] .none .none .none (vs "basicplus.values" 187) none (.ref 57) .none 0)), ⟨[]⟩⟩
noncomputable def o59 (_ : Params) : Obj := tO []
noncomputable def o60 (_ : Params) : Obj := fsO []
noncomputable def o61 (_ : Params) : Obj := tO [(vs "coefficient" 257), (vs "exponent" 258), (vs "digits" 259), (vs "size" 260), (vs "more" 261), (vs "first" 262)]
noncomputable def o62 (_ : Params) : Obj := tO []
noncomputable def o63 (_ : Params) : Obj := ⟨.none, none, (.func (fO (sA 7) "made" "made" 0 [] .none .none .none .none none .none .none 0)), ⟨[]⟩⟩
noncomputable def o64 (_ : Params) : Obj := cO [(vs "made" 254), (vs "made" 255), (vs "/claim/cut.py" 256), (vi 30 0), (vi 3 0), (vi 0 0), (vi 0 0), (vi 3 0), (.ref 59), (.bool true), (vi 181 0), (.ref 60), .none, (.ref 61), (.ref 62), (.ref 63), (vi 263 0), (vi 30 0), (vs "/claim/cut.py" 264)]
noncomputable def o65 (_ : Params) : Obj := ⟨(.type "function"), none, (.func (fO (sA 7) "made" "made" 3 [] .none .none .none (vs "basicplus.values" 187) none (.ref 64) .none 0)), ⟨[]⟩⟩
noncomputable def o66 (_ : Params) : Obj := tO []
noncomputable def o67 (_ : Params) : Obj := fsO []
noncomputable def o68 (_ : Params) : Obj := tO [(vs "value" 269), (vs "coefficient" 270), (vs "exponent" 271), (vs "size" 272)]
noncomputable def o69 (_ : Params) : Obj := tO []
noncomputable def o70 (_ : Params) : Obj := ⟨.none, none, (.func (fO (sA 8) "whole_near" "whole_near" 0 [] .none .none .none .none none .none .none 0)), ⟨[]⟩⟩
noncomputable def o71 (_ : Params) : Obj := cO [(vs "whole_near" 266), (vs "whole_near" 267), (vs "/claim/cut.py" 268), (vi 45 0), (vi 1 0), (vi 0 0), (vi 0 0), (vi 3 0), (.ref 66), (.bool true), (vi 181 0), (.ref 67), .none, (.ref 68), (.ref 69), (.ref 70), (vi 273 0), (vi 45 0), (vs "/claim/cut.py" 274)]
noncomputable def o72 (_ : Params) : Obj := ⟨(.type "function"), none, (.func (fO (sA 8) "whole_near" "whole_near" 3 [] .none .none .none (vs "basicplus.values" 187) none (.ref 71) .none 0)), ⟨[]⟩⟩
noncomputable def o73 (_ : Params) : Obj := tO []
noncomputable def o74 (_ : Params) : Obj := fsO []
noncomputable def o75 (_ : Params) : Obj := tO [(vs "number" 279), (vs "bits" 280)]
noncomputable def o76 (_ : Params) : Obj := tO []
noncomputable def o77 (_ : Params) : Obj := ⟨.none, none, (.func (fO (sA 9) "fits" "fits" 0 [] .none .none .none .none none .none .none 0)), ⟨[]⟩⟩
noncomputable def o78 (_ : Params) : Obj := cO [(vs "fits" 276), (vs "fits" 277), (vs "/claim/cut.py" 278), (vi 51 0), (vi 2 0), (vi 0 0), (vi 0 0), (vi 3 0), (.ref 73), (.bool true), (vi 181 0), (.ref 74), .none, (.ref 75), (.ref 76), (.ref 77), (vi 281 0), (vi 51 0), (vs "/claim/cut.py" 282)]
noncomputable def o79 (_ : Params) : Obj := ⟨(.type "function"), none, (.func (fO (sA 9) "fits" "fits" 3 [] .none .none .none (vs "basicplus.values" 187) none (.ref 78) .none 0)), ⟨[]⟩⟩
noncomputable def o80 (_ : Params) : Obj := tO []
noncomputable def o81 (_ : Params) : Obj := fsO []
noncomputable def o82 (_ : Params) : Obj := tO [(vs "value" 287), (vs "bits" 288), (vs "number" 289)]
noncomputable def o83 (_ : Params) : Obj := tO []
noncomputable def o84 (_ : Params) : Obj := ⟨.none, none, (.func (fO (sA 10) "whole_of" "whole_of" 0 [] .none .none .none .none none .none .none 0)), ⟨[]⟩⟩
noncomputable def o85 (_ : Params) : Obj := cO [(vs "whole_of" 284), (vs "whole_of" 285), (vs "/claim/cut.py" 286), (vi 53 0), (vi 2 0), (vi 0 0), (vi 0 0), (vi 3 0), (.ref 80), (.bool true), (vi 181 0), (.ref 81), .none, (.ref 82), (.ref 83), (.ref 84), (vi 290 0), (vi 53 0), (vs "/claim/cut.py" 291)]
noncomputable def o86 (_ : Params) : Obj := ⟨(.type "function"), none, (.func (fO (sA 10) "whole_of" "whole_of" 3 [] .none .none .none (vs "basicplus.values" 187) none (.ref 85) .none 0)), ⟨[]⟩⟩
noncomputable def o87 (_ : Params) : Obj := tO []
noncomputable def o88 (_ : Params) : Obj := fsO []
noncomputable def o89 (_ : Params) : Obj := tO [(vs "value" 296), (vs "digits" 297)]
noncomputable def o90 (_ : Params) : Obj := tO []
noncomputable def o91 (_ : Params) : Obj := ⟨.none, none, (.func (fO (sA 11) "decimal_of" "decimal_of" 0 [] .none .none .none .none none .none .none 0)), ⟨[]⟩⟩
noncomputable def o92 (_ : Params) : Obj := cO [(vs "decimal_of" 293), (vs "decimal_of" 294), (vs "/claim/cut.py" 295), (vi 60 0), (vi 2 0), (vi 0 0), (vi 0 0), (vi 3 0), (.ref 87), (.bool true), (vi 181 0), (.ref 88), .none, (.ref 89), (.ref 90), (.ref 91), (vi 298 0), (vi 60 0), (vs "/claim/cut.py" 299)]
noncomputable def o93 (_ : Params) : Obj := ⟨(.type "function"), none, (.func (fO (sA 11) "decimal_of" "decimal_of" 3 [] .none .none .none (vs "basicplus.values" 187) none (.ref 92) .none 0)), ⟨[]⟩⟩
noncomputable def o94 (_ : Params) : Obj := tO []
noncomputable def o95 (_ : Params) : Obj := fsO []
noncomputable def o96 (_ : Params) : Obj := tO [(vs "text" 304)]
noncomputable def o97 (_ : Params) : Obj := tO []
noncomputable def o98 (_ : Params) : Obj := ⟨.none, none, (.func (fO (sA 12) "checked_text" "checked_text" 0 [] .none .none .none .none none .none .none 0)), ⟨[]⟩⟩
noncomputable def o99 (_ : Params) : Obj := cO [(vs "checked_text" 301), (vs "checked_text" 302), (vs "/claim/cut.py" 303), (vi 64 0), (vi 1 0), (vi 0 0), (vi 0 0), (vi 3 0), (.ref 94), (.bool true), (vi 181 0), (.ref 95), .none, (.ref 96), (.ref 97), (.ref 98), (vi 305 0), (vi 64 0), (vs "/claim/cut.py" 306)]
noncomputable def o100 (_ : Params) : Obj := ⟨(.type "function"), none, (.func (fO (sA 12) "checked_text" "checked_text" 3 [] .none .none .none (vs "basicplus.values" 187) none (.ref 99) .none 0)), ⟨[]⟩⟩
noncomputable def o101 (_ : Params) : Obj := tO []
noncomputable def o102 (_ : Params) : Obj := fsO []
noncomputable def o103 (_ : Params) : Obj := tO [(vs "is_so" 311)]
noncomputable def o104 (_ : Params) : Obj := tO []
noncomputable def o105 (_ : Params) : Obj := ⟨.none, none, (.func (fO (sA 13) "truth" "truth" 0 [] .none .none .none .none none .none .none 0)), ⟨[]⟩⟩
noncomputable def o106 (_ : Params) : Obj := cO [(vs "truth" 308), (vs "truth" 309), (vs "/claim/cut.py" 310), (vi 68 0), (vi 1 0), (vi 0 0), (vi 0 0), (vi 3 0), (.ref 101), (.bool true), (vi 181 0), (.ref 102), .none, (.ref 103), (.ref 104), (.ref 105), (vi 312 0), (vi 68 0), (vs "/claim/cut.py" 313)]
noncomputable def o107 (_ : Params) : Obj := ⟨(.type "function"), none, (.func (fO (sA 13) "truth" "truth" 3 [] .none .none .none (vs "basicplus.values" 187) none (.ref 106) .none 0)), ⟨[]⟩⟩
noncomputable def o108 (_ : Params) : Obj := tO [(vi 1 317), (vi 0 318)]
noncomputable def o109 (_ : Params) : Obj := tO []
noncomputable def o110 (_ : Params) : Obj := fsO []
noncomputable def o111 (_ : Params) : Obj := tO [(vs "a" 325)]
noncomputable def o112 (_ : Params) : Obj := tO []
noncomputable def o113 (_ : Params) : Obj := ⟨.none, none, (.func (fO (sA 17) "d_negated" "d_negated" 0 [] .none .none .none .none none .none .none 0)), ⟨[]⟩⟩
noncomputable def o114 (_ : Params) : Obj := cO [(vs "d_negated" 322), (vs "d_negated" 323), (vs "/claim/cut.py" 324), (vi 73 0), (vi 1 0), (vi 0 0), (vi 0 0), (vi 3 0), (.ref 109), (.bool true), (vi 181 0), (.ref 110), .none, (.ref 111), (.ref 112), (.ref 113), (vi 326 0), (vi 73 0), (vs "/claim/cut.py" 327)]
noncomputable def o115 (_ : Params) : Obj := ⟨(.type "function"), none, (.func (fO (sA 17) "d_negated" "d_negated" 3 [] .none .none .none (vs "basicplus.decimals" 315) none (.ref 114) .none 0)), ⟨[]⟩⟩
noncomputable def o116 (_ : Params) : Obj := tO []
noncomputable def o117 (_ : Params) : Obj := fsO []
noncomputable def o118 (_ : Params) : Obj := tO [(vs "a" 332), (vs "b" 333), (vs "least" 334)]
noncomputable def o119 (_ : Params) : Obj := tO []
noncomputable def o120 (_ : Params) : Obj := ⟨.none, none, (.func (fO (sA 18) "alike" "alike" 0 [] .none .none .none .none none .none .none 0)), ⟨[]⟩⟩
noncomputable def o121 (_ : Params) : Obj := cO [(vs "alike" 329), (vs "alike" 330), (vs "/claim/cut.py" 331), (vi 75 0), (vi 2 0), (vi 0 0), (vi 0 0), (vi 3 0), (.ref 116), (.bool true), (vi 181 0), (.ref 117), .none, (.ref 118), (.ref 119), (.ref 120), (vi 335 0), (vi 75 0), (vs "/claim/cut.py" 336)]
noncomputable def o122 (_ : Params) : Obj := ⟨(.type "function"), none, (.func (fO (sA 18) "alike" "alike" 3 [] .none .none .none (vs "basicplus.decimals" 315) none (.ref 121) .none 0)), ⟨[]⟩⟩
noncomputable def o123 (_ : Params) : Obj := tO []
noncomputable def o124 (_ : Params) : Obj := fsO []
noncomputable def o125 (_ : Params) : Obj := tO [(vs "a" 341), (vs "b" 342), (vs "digits" 343), (vs "one" 344), (vs "other" 345), (vs "exponent" 346)]
noncomputable def o126 (_ : Params) : Obj := tO []
noncomputable def o127 (_ : Params) : Obj := ⟨.none, none, (.func (fO (sA 19) "d_add" "d_add" 0 [] .none .none .none .none none .none .none 0)), ⟨[]⟩⟩
noncomputable def o128 (_ : Params) : Obj := cO [(vs "d_add" 338), (vs "d_add" 339), (vs "/claim/cut.py" 340), (vi 78 0), (vi 3 0), (vi 0 0), (vi 0 0), (vi 3 0), (.ref 123), (.bool true), (vi 181 0), (.ref 124), .none, (.ref 125), (.ref 126), (.ref 127), (vi 347 0), (vi 78 0), (vs "/claim/cut.py" 348)]
noncomputable def o129 (_ : Params) : Obj := ⟨(.type "function"), none, (.func (fO (sA 19) "d_add" "d_add" 3 [] .none .none .none (vs "basicplus.decimals" 315) none (.ref 128) .none 0)), ⟨[]⟩⟩
noncomputable def o130 (_ : Params) : Obj := tO []
noncomputable def o131 (_ : Params) : Obj := fsO []
noncomputable def o132 (_ : Params) : Obj := tO [(vs "a" 353), (vs "b" 354), (vs "digits" 355)]
noncomputable def o133 (_ : Params) : Obj := tO []
noncomputable def o134 (_ : Params) : Obj := ⟨.none, none, (.func (fO (sA 20) "d_sub" "d_sub" 0 [] .none .none .none .none none .none .none 0)), ⟨[]⟩⟩
noncomputable def o135 (_ : Params) : Obj := cO [(vs "d_sub" 350), (vs "d_sub" 351), (vs "/claim/cut.py" 352), (vi 81 0), (vi 3 0), (vi 0 0), (vi 0 0), (vi 3 0), (.ref 130), (.bool true), (vi 181 0), (.ref 131), .none, (.ref 132), (.ref 133), (.ref 134), (vi 356 0), (vi 81 0), (vs "/claim/cut.py" 357)]
noncomputable def o136 (_ : Params) : Obj := ⟨(.type "function"), none, (.func (fO (sA 20) "d_sub" "d_sub" 3 [] .none .none .none (vs "basicplus.decimals" 315) none (.ref 135) .none 0)), ⟨[]⟩⟩
noncomputable def o137 (_ : Params) : Obj := tO []
noncomputable def o138 (_ : Params) : Obj := fsO []
noncomputable def o139 (_ : Params) : Obj := tO [(vs "a" 362), (vs "b" 363), (vs "digits" 364)]
noncomputable def o140 (_ : Params) : Obj := tO []
noncomputable def o141 (_ : Params) : Obj := ⟨.none, none, (.func (fO (sA 21) "d_mul" "d_mul" 0 [] .none .none .none .none none .none .none 0)), ⟨[]⟩⟩
noncomputable def o142 (_ : Params) : Obj := cO [(vs "d_mul" 359), (vs "d_mul" 360), (vs "/claim/cut.py" 361), (vi 83 0), (vi 3 0), (vi 0 0), (vi 0 0), (vi 3 0), (.ref 137), (.bool true), (vi 181 0), (.ref 138), .none, (.ref 139), (.ref 140), (.ref 141), (vi 365 0), (vi 83 0), (vs "/claim/cut.py" 366)]
noncomputable def o143 (_ : Params) : Obj := ⟨(.type "function"), none, (.func (fO (sA 21) "d_mul" "d_mul" 3 [] .none .none .none (vs "basicplus.decimals" 315) none (.ref 142) .none 0)), ⟨[]⟩⟩
noncomputable def o144 (_ : Params) : Obj := tO []
noncomputable def o145 (_ : Params) : Obj := fsO []
noncomputable def o146 (_ : Params) : Obj := tO [(vs "whole" 371), (vs "rest" 372), (vs "exponent" 373)]
noncomputable def o147 (_ : Params) : Obj := tO []
noncomputable def o148 (_ : Params) : Obj := ⟨.none, none, (.func (fO (sA 22) "with_rest" "with_rest" 0 [] .none .none .none .none none .none .none 0)), ⟨[]⟩⟩
noncomputable def o149 (_ : Params) : Obj := cO [(vs "with_rest" 368), (vs "with_rest" 369), (vs "/claim/cut.py" 370), (vi 85 0), (vi 3 0), (vi 0 0), (vi 0 0), (vi 3 0), (.ref 144), (.bool true), (vi 181 0), (.ref 145), .none, (.ref 146), (.ref 147), (.ref 148), (vi 374 0), (vi 85 0), (vs "/claim/cut.py" 375)]
noncomputable def o150 (_ : Params) : Obj := ⟨(.type "function"), none, (.func (fO (sA 22) "with_rest" "with_rest" 3 [] .none .none .none (vs "basicplus.decimals" 315) none (.ref 149) .none 0)), ⟨[]⟩⟩
noncomputable def o151 (_ : Params) : Obj := tO []
noncomputable def o152 (_ : Params) : Obj := fsO []
noncomputable def o153 (_ : Params) : Obj := tO [(vs "a" 380), (vs "b" 381), (vs "digits" 382), (vs "size" 383), (vs "below" 384), (vs "places" 385), (vs "whole" 386), (vs "exponent" 387)]
noncomputable def o154 (_ : Params) : Obj := tO []
noncomputable def o155 (_ : Params) : Obj := ⟨.none, none, (.func (fO (sA 23) "d_div" "d_div" 0 [] .none .none .none .none none .none .none 0)), ⟨[]⟩⟩
noncomputable def o156 (_ : Params) : Obj := cO [(vs "d_div" 377), (vs "d_div" 378), (vs "/claim/cut.py" 379), (vi 87 0), (vi 3 0), (vi 0 0), (vi 0 0), (vi 3 0), (.ref 151), (.bool true), (vi 181 0), (.ref 152), .none, (.ref 153), (.ref 154), (.ref 155), (vi 388 0), (vi 87 0), (vs "/claim/cut.py" 389)]
noncomputable def o157 (_ : Params) : Obj := ⟨(.type "function"), none, (.func (fO (sA 23) "d_div" "d_div" 3 [] .none .none .none (vs "basicplus.decimals" 315) none (.ref 156) .none 0)), ⟨[]⟩⟩
noncomputable def o158 (_ : Params) : Obj := tO []
noncomputable def o159 (_ : Params) : Obj := fsO []
noncomputable def o160 (_ : Params) : Obj := tO [(vs "a" 394), (vs "b" 395), (vs "one" 396), (vs "other" 397), (vs "exponent" 398)]
noncomputable def o161 (_ : Params) : Obj := tO []
noncomputable def o162 (_ : Params) : Obj := ⟨.none, none, (.func (fO (sA 24) "d_compare" "d_compare" 0 [] .none .none .none .none none .none .none 0)), ⟨[]⟩⟩
noncomputable def o163 (_ : Params) : Obj := cO [(vs "d_compare" 391), (vs "d_compare" 392), (vs "/claim/cut.py" 393), (vi 95 0), (vi 2 0), (vi 0 0), (vi 0 0), (vi 3 0), (.ref 158), (.bool true), (vi 181 0), (.ref 159), .none, (.ref 160), (.ref 161), (.ref 162), (vi 399 0), (vi 95 0), (vs "/claim/cut.py" 400)]
noncomputable def o164 (_ : Params) : Obj := ⟨(.type "function"), none, (.func (fO (sA 24) "d_compare" "d_compare" 3 [] .none .none .none (vs "basicplus.decimals" 315) none (.ref 163) .none 0)), ⟨[]⟩⟩
noncomputable def o165 (_ : Params) : Obj := tO []
noncomputable def o166 (_ : Params) : Obj := fsO []
noncomputable def o167 (_ : Params) : Obj := tO [(vs "a" 405), (vs "n" 406), (vs "digits" 407), (vs "work" 408), (vs "found" 409), (vs "left" 410)]
noncomputable def o168 (_ : Params) : Obj := tO []
noncomputable def o169 (_ : Params) : Obj := ⟨.none, none, (.func (fO (sA 25) "d_power" "d_power" 0 [] .none .none .none .none none .none .none 0)), ⟨[]⟩⟩
noncomputable def o170 (_ : Params) : Obj := cO [(vs "d_power" 402), (vs "d_power" 403), (vs "/claim/cut.py" 404), (vi 98 0), (vi 3 0), (vi 0 0), (vi 0 0), (vi 3 0), (.ref 165), (.bool true), (vi 181 0), (.ref 166), .none, (.ref 167), (.ref 168), (.ref 169), (vi 411 0), (vi 98 0), (vs "/claim/cut.py" 412)]
noncomputable def o171 (_ : Params) : Obj := ⟨(.type "function"), none, (.func (fO (sA 25) "d_power" "d_power" 3 [] .none .none .none (vs "basicplus.decimals" 315) none (.ref 170) .none 0)), ⟨[]⟩⟩
noncomputable def o172 (_ : Params) : Obj := tO []
noncomputable def o173 (_ : Params) : Obj := fsO []
noncomputable def o174 (_ : Params) : Obj := tO [(vs "a" 417), (vs "work" 418)]
noncomputable def o175 (_ : Params) : Obj := tO []
noncomputable def o176 (_ : Params) : Obj := ⟨.none, none, (.func (fO (sA 26) "square_or_end" "square_or_end" 0 [] .none .none .none .none none .none .none 0)), ⟨[]⟩⟩
noncomputable def o177 (_ : Params) : Obj := cO [(vs "square_or_end" 414), (vs "square_or_end" 415), (vs "/claim/cut.py" 416), (vi 112 0), (vi 2 0), (vi 0 0), (vi 0 0), (vi 3 0), (.ref 172), (.bool true), (vi 181 0), (.ref 173), .none, (.ref 174), (.ref 175), (.ref 176), (vi 419 0), (vi 112 0), (vs "/claim/cut.py" 420)]
noncomputable def o178 (_ : Params) : Obj := ⟨(.type "function"), none, (.func (fO (sA 26) "square_or_end" "square_or_end" 3 [] .none .none .none (vs "basicplus.decimals" 315) none (.ref 177) .none 0)), ⟨[]⟩⟩
noncomputable def o179 (_ : Params) : Obj := tO []
noncomputable def o180 (_ : Params) : Obj := fsO []
noncomputable def o181 (_ : Params) : Obj := tO [(vs "value" 427)]
noncomputable def o182 (_ : Params) : Obj := tO []
noncomputable def o183 (_ : Params) : Obj := ⟨.none, none, (.func (fO (sA 28) "is_whole" "is_whole" 0 [] .none .none .none .none none .none .none 0)), ⟨[]⟩⟩
noncomputable def o184 (_ : Params) : Obj := cO [(vs "is_whole" 424), (vs "is_whole" 425), (vs "/claim/cut.py" 426), (vi 115 0), (vi 1 0), (vi 0 0), (vi 0 0), (vi 3 0), (.ref 179), (.bool true), (vi 181 0), (.ref 180), .none, (.ref 181), (.ref 182), (.ref 183), (vi 428 0), (vi 115 0), (vs "/claim/cut.py" 429)]
noncomputable def o185 (_ : Params) : Obj := ⟨(.type "function"), none, (.func (fO (sA 28) "is_whole" "is_whole" 3 [] .none .none .none (vs "basicplus.arith" 422) none (.ref 184) .none 0)), ⟨[]⟩⟩
noncomputable def o186 (_ : Params) : Obj := tO []
noncomputable def o187 (_ : Params) : Obj := fsO []
noncomputable def o188 (_ : Params) : Obj := tO [(vs "number" 434), (vs "bits" 435), (vs "digits" 436)]
noncomputable def o189 (_ : Params) : Obj := tO []
noncomputable def o190 (_ : Params) : Obj := ⟨.none, none, (.func (fO (sA 29) "settled" "settled" 0 [] .none .none .none .none none .none .none 0)), ⟨[]⟩⟩
noncomputable def o191 (_ : Params) : Obj := cO [(vs "settled" 431), (vs "settled" 432), (vs "/claim/cut.py" 433), (vi 119 0), (vi 3 0), (vi 0 0), (vi 0 0), (vi 3 0), (.ref 186), (.bool true), (vi 181 0), (.ref 187), .none, (.ref 188), (.ref 189), (.ref 190), (vi 437 0), (vi 119 0), (vs "/claim/cut.py" 438)]
noncomputable def o192 (_ : Params) : Obj := ⟨(.type "function"), none, (.func (fO (sA 29) "settled" "settled" 3 [] .none .none .none (vs "basicplus.arith" 422) none (.ref 191) .none 0)), ⟨[]⟩⟩
noncomputable def o193 (_ : Params) : Obj := tO []
noncomputable def o194 (_ : Params) : Obj := fsO []
noncomputable def o195 (_ : Params) : Obj := tO [(vs "op" 443), (vs "a" 444), (vs "b" 445), (vs "bits" 446), (vs "digits" 447)]
noncomputable def o196 (_ : Params) : Obj := tO []
noncomputable def o197 (_ : Params) : Obj := ⟨.none, none, (.func (fO (sA 30) "whole_reckoned" "whole_reckoned" 0 [] .none .none .none .none none .none .none 0)), ⟨[]⟩⟩
noncomputable def o198 (_ : Params) : Obj := cO [(vs "whole_reckoned" 440), (vs "whole_reckoned" 441), (vs "/claim/cut.py" 442), (vi 121 0), (vi 5 0), (vi 0 0), (vi 0 0), (vi 3 0), (.ref 193), (.bool true), (vi 181 0), (.ref 194), .none, (.ref 195), (.ref 196), (.ref 197), (vi 448 0), (vi 121 0), (vs "/claim/cut.py" 449)]
noncomputable def o199 (_ : Params) : Obj := ⟨(.type "function"), none, (.func (fO (sA 30) "whole_reckoned" "whole_reckoned" 3 [] .none .none .none (vs "basicplus.arith" 422) none (.ref 198) .none 0)), ⟨[]⟩⟩
noncomputable def o200 (_ : Params) : Obj := tO []
noncomputable def o201 (_ : Params) : Obj := fsO []
noncomputable def o202 (_ : Params) : Obj := tO [(vs "a" 454), (vs "b" 455), (vs "found" 456)]
noncomputable def o203 (_ : Params) : Obj := tO []
noncomputable def o204 (_ : Params) : Obj := ⟨.none, none, (.func (fO (sA 31) "cut_quotient" "cut_quotient" 0 [] .none .none .none .none none .none .none 0)), ⟨[]⟩⟩
noncomputable def o205 (_ : Params) : Obj := cO [(vs "cut_quotient" 451), (vs "cut_quotient" 452), (vs "/claim/cut.py" 453), (vi 125 0), (vi 2 0), (vi 0 0), (vi 0 0), (vi 3 0), (.ref 200), (.bool true), (vi 181 0), (.ref 201), .none, (.ref 202), (.ref 203), (.ref 204), (vi 457 0), (vi 125 0), (vs "/claim/cut.py" 458)]
noncomputable def o206 (_ : Params) : Obj := ⟨(.type "function"), none, (.func (fO (sA 31) "cut_quotient" "cut_quotient" 3 [] .none .none .none (vs "basicplus.arith" 422) none (.ref 205) .none 0)), ⟨[]⟩⟩
noncomputable def o207 (_ : Params) : Obj := tO []
noncomputable def o208 (_ : Params) : Obj := fsO []
noncomputable def o209 (_ : Params) : Obj := tO [(vs "a" 463), (vs "b" 464)]
noncomputable def o210 (_ : Params) : Obj := tO []
noncomputable def o211 (_ : Params) : Obj := ⟨.none, none, (.func (fO (sA 32) "cut_rest" "cut_rest" 0 [] .none .none .none .none none .none .none 0)), ⟨[]⟩⟩
noncomputable def o212 (_ : Params) : Obj := cO [(vs "cut_rest" 460), (vs "cut_rest" 461), (vs "/claim/cut.py" 462), (vi 130 0), (vi 2 0), (vi 0 0), (vi 0 0), (vi 3 0), (.ref 207), (.bool true), (vi 181 0), (.ref 208), .none, (.ref 209), (.ref 210), (.ref 211), (vi 465 0), (vi 130 0), (vs "/claim/cut.py" 466)]
noncomputable def o213 (_ : Params) : Obj := ⟨(.type "function"), none, (.func (fO (sA 32) "cut_rest" "cut_rest" 3 [] .none .none .none (vs "basicplus.arith" 422) none (.ref 212) .none 0)), ⟨[]⟩⟩
noncomputable def o214 (_ : Params) : Obj := tO []
noncomputable def o215 (_ : Params) : Obj := fsO []
noncomputable def o216 (_ : Params) : Obj := tO [(vs "value" 471)]
noncomputable def o217 (_ : Params) : Obj := tO []
noncomputable def o218 (_ : Params) : Obj := ⟨.none, none, (.func (fO (sA 33) "exponent_of" "exponent_of" 0 [] .none .none .none .none none .none .none 0)), ⟨[]⟩⟩
noncomputable def o219 (_ : Params) : Obj := cO [(vs "exponent_of" 468), (vs "exponent_of" 469), (vs "/claim/cut.py" 470), (vi 132 0), (vi 1 0), (vi 0 0), (vi 0 0), (vi 3 0), (.ref 214), (.bool true), (vi 181 0), (.ref 215), .none, (.ref 216), (.ref 217), (.ref 218), (vi 472 0), (vi 132 0), (vs "/claim/cut.py" 473)]
noncomputable def o220 (_ : Params) : Obj := ⟨(.type "function"), none, (.func (fO (sA 33) "exponent_of" "exponent_of" 3 [] .none .none .none (vs "basicplus.arith" 422) none (.ref 219) .none 0)), ⟨[]⟩⟩
noncomputable def o221 (_ : Params) : Obj := tO []
noncomputable def o222 (_ : Params) : Obj := fsO []
noncomputable def o223 (_ : Params) : Obj := tO [(vs "a" 478), (vs "n" 479), (vs "bits" 480), (vs "digits" 481)]
noncomputable def o224 (_ : Params) : Obj := tO []
noncomputable def o225 (_ : Params) : Obj := ⟨.none, none, (.func (fO (sA 34) "whole_power" "whole_power" 0 [] .none .none .none .none none .none .none 0)), ⟨[]⟩⟩
noncomputable def o226 (_ : Params) : Obj := cO [(vs "whole_power" 475), (vs "whole_power" 476), (vs "/claim/cut.py" 477), (vi 138 0), (vi 4 0), (vi 0 0), (vi 0 0), (vi 3 0), (.ref 221), (.bool true), (vi 181 0), (.ref 222), .none, (.ref 223), (.ref 224), (.ref 225), (vi 482 0), (vi 138 0), (vs "/claim/cut.py" 483)]
noncomputable def o227 (_ : Params) : Obj := ⟨(.type "function"), none, (.func (fO (sA 34) "whole_power" "whole_power" 3 [] .none .none .none (vs "basicplus.arith" 422) none (.ref 226) .none 0)), ⟨[]⟩⟩
noncomputable def o228 (_ : Params) : Obj := tO []
noncomputable def o229 (_ : Params) : Obj := fsO []
noncomputable def o230 (_ : Params) : Obj := tO [(vs "a" 488), (vs "b" 489), (vs "bits" 490), (vs "digits" 491), (vs "n" 492)]
noncomputable def o231 (_ : Params) : Obj := tO []
noncomputable def o232 (_ : Params) : Obj := ⟨.none, none, (.func (fO (sA 35) "raised" "raised" 0 [] .none .none .none .none none .none .none 0)), ⟨[]⟩⟩
noncomputable def o233 (_ : Params) : Obj := cO [(vs "raised" 485), (vs "raised" 486), (vs "/claim/cut.py" 487), (vi 144 0), (vi 4 0), (vi 0 0), (vi 0 0), (vi 3 0), (.ref 228), (.bool true), (vi 181 0), (.ref 229), .none, (.ref 230), (.ref 231), (.ref 232), (vi 493 0), (vi 144 0), (vs "/claim/cut.py" 494)]
noncomputable def o234 (_ : Params) : Obj := ⟨(.type "function"), none, (.func (fO (sA 35) "raised" "raised" 3 [] .none .none .none (vs "basicplus.arith" 422) none (.ref 233) .none 0)), ⟨[]⟩⟩
noncomputable def o235 (_ : Params) : Obj := tO []
noncomputable def o236 (_ : Params) : Obj := fsO []
noncomputable def o237 (_ : Params) : Obj := tO [(vs "op" 499), (vs "a" 500), (vs "b" 501), (vs "bits" 502), (vs "digits" 503), (vs "is_first" 504), (vs "is_second" 505), (vs "work" 506), (vs "one" 507), (vs "other" 508)]
noncomputable def o238 (_ : Params) : Obj := tO []
noncomputable def o239 (_ : Params) : Obj := ⟨.none, none, (.func (fO (sA 36) "reckoned" "reckoned" 0 [] .none .none .none .none none .none .none 0)), ⟨[]⟩⟩
noncomputable def o240 (_ : Params) : Obj := cO [(vs "reckoned" 496), (vs "reckoned" 497), (vs "/claim/cut.py" 498), (vi 149 0), (vi 5 0), (vi 0 0), (vi 0 0), (vi 3 0), (.ref 235), (.bool true), (vi 181 0), (.ref 236), .none, (.ref 237), (.ref 238), (.ref 239), (vi 509 0), (vi 149 0), (vs "/claim/cut.py" 510)]
noncomputable def o241 (_ : Params) : Obj := ⟨(.type "function"), none, (.func (fO (sA 36) "reckoned" "reckoned" 3 [] .none .none .none (vs "basicplus.arith" 422) none (.ref 240) .none 0)), ⟨[]⟩⟩
noncomputable def o242 (_ : Params) : Obj := tO []
noncomputable def o243 (_ : Params) : Obj := fsO []
noncomputable def o244 (_ : Params) : Obj := tO [(vs "a" 515), (vs "bits" 516), (vs "digits" 517)]
noncomputable def o245 (_ : Params) : Obj := tO []
noncomputable def o246 (_ : Params) : Obj := ⟨.none, none, (.func (fO (sA 37) "negated" "negated" 0 [] .none .none .none .none none .none .none 0)), ⟨[]⟩⟩
noncomputable def o247 (_ : Params) : Obj := cO [(vs "negated" 512), (vs "negated" 513), (vs "/claim/cut.py" 514), (vi 164 0), (vi 3 0), (vi 0 0), (vi 0 0), (vi 3 0), (.ref 242), (.bool true), (vi 181 0), (.ref 243), .none, (.ref 244), (.ref 245), (.ref 246), (vi 518 0), (vi 164 0), (vs "/claim/cut.py" 519)]
noncomputable def o248 (_ : Params) : Obj := ⟨(.type "function"), none, (.func (fO (sA 37) "negated" "negated" 3 [] .none .none .none (vs "basicplus.arith" 422) none (.ref 247) .none 0)), ⟨[]⟩⟩
noncomputable def o249 (_ : Params) : Obj := tO []
noncomputable def o250 (_ : Params) : Obj := fsO []
noncomputable def o251 (_ : Params) : Obj := tO [(vs "a" 524), (vs "b" 525)]
noncomputable def o252 (_ : Params) : Obj := tO []
noncomputable def o253 (_ : Params) : Obj := ⟨.none, none, (.func (fO (sA 38) "order_of" "order_of" 0 [] .none .none .none .none none .none .none 0)), ⟨[]⟩⟩
noncomputable def o254 (_ : Params) : Obj := cO [(vs "order_of" 521), (vs "order_of" 522), (vs "/claim/cut.py" 523), (vi 166 0), (vi 2 0), (vi 0 0), (vi 0 0), (vi 3 0), (.ref 249), (.bool true), (vi 181 0), (.ref 250), .none, (.ref 251), (.ref 252), (.ref 253), (vi 526 0), (vi 166 0), (vs "/claim/cut.py" 527)]
noncomputable def o255 (_ : Params) : Obj := ⟨(.type "function"), none, (.func (fO (sA 38) "order_of" "order_of" 3 [] .none .none .none (vs "basicplus.arith" 422) none (.ref 254) .none 0)), ⟨[]⟩⟩
noncomputable def o256 (_ : Params) : Obj := tO []
noncomputable def o257 (_ : Params) : Obj := fsO []
noncomputable def o258 (_ : Params) : Obj := tO [(vs "a" 532), (vs "bits" 533)]
noncomputable def o259 (_ : Params) : Obj := tO []
noncomputable def o260 (_ : Params) : Obj := ⟨.none, none, (.func (fO (sA 39) "inverted" "inverted" 0 [] .none .none .none .none none .none .none 0)), ⟨[]⟩⟩
noncomputable def o261 (_ : Params) : Obj := cO [(vs "inverted" 529), (vs "inverted" 530), (vs "/claim/cut.py" 531), (vi 172 0), (vi 2 0), (vi 0 0), (vi 0 0), (vi 3 0), (.ref 256), (.bool true), (vi 181 0), (.ref 257), .none, (.ref 258), (.ref 259), (.ref 260), (vi 534 0), (vi 172 0), (vs "/claim/cut.py" 535)]
noncomputable def o262 (_ : Params) : Obj := ⟨(.type "function"), none, (.func (fO (sA 39) "inverted" "inverted" 3 [] .none .none .none (vs "basicplus.arith" 422) none (.ref 261) .none 0)), ⟨[]⟩⟩
noncomputable def o263 (_ : Params) : Obj := tO []
noncomputable def o264 (_ : Params) : Obj := fsO []
noncomputable def o265 (_ : Params) : Obj := tO [(vs "op" 540), (vs "a" 541), (vs "b" 542), (vs "bits" 543), (vs "one" 544), (vs "other" 545)]
noncomputable def o266 (_ : Params) : Obj := tO []
noncomputable def o267 (_ : Params) : Obj := ⟨.none, none, (.func (fO (sA 40) "logic" "logic" 0 [] .none .none .none .none none .none .none 0)), ⟨[]⟩⟩
noncomputable def o268 (_ : Params) : Obj := cO [(vs "logic" 537), (vs "logic" 538), (vs "/claim/cut.py" 539), (vi 174 0), (vi 4 0), (vi 0 0), (vi 0 0), (vi 3 0), (.ref 263), (.bool true), (vi 181 0), (.ref 264), .none, (.ref 265), (.ref 266), (.ref 267), (vi 546 0), (vi 174 0), (vs "/claim/cut.py" 547)]
noncomputable def o269 (_ : Params) : Obj := ⟨(.type "function"), none, (.func (fO (sA 40) "logic" "logic" 3 [] .none .none .none (vs "basicplus.arith" 422) none (.ref 268) .none 0)), ⟨[]⟩⟩
noncomputable def o270 (_ : Params) : Obj := tO []
noncomputable def o271 (_ : Params) : Obj := fsO []
noncomputable def o272 (_ : Params) : Obj := tO [(vs "tree" 554)]
noncomputable def o273 (_ : Params) : Obj := tO []
noncomputable def o274 (_ : Params) : Obj := ⟨.none, none, (.func (fO (sA 42) "parts_of_tree" "parts_of_tree" 0 [] .none .none .none .none none .none .none 0)), ⟨[]⟩⟩
noncomputable def o275 (_ : Params) : Obj := cO [(vs "parts_of_tree" 551), (vs "parts_of_tree" 552), (vs "/claim/cut.py" 553), (vi 184 0), (vi 1 0), (vi 0 0), (vi 0 0), (vi 3 0), (.ref 270), (.bool true), (vi 181 0), (.ref 271), .none, (.ref 272), (.ref 273), (.ref 274), (vi 555 0), (vi 184 0), (vs "/claim/cut.py" 556)]
noncomputable def o276 (_ : Params) : Obj := ⟨(.type "function"), none, (.func (fO (sA 42) "parts_of_tree" "parts_of_tree" 3 [] .none .none .none (vs "basicplus.exprread" 549) none (.ref 275) .none 0)), ⟨[]⟩⟩
noncomputable def o277 (_ : Params) : Obj := tO [(vs "AND" 560), (vs "OR" 561), (vs "XOR" 562), (vs "EQV" 563), (vs "IMP" 564)]
noncomputable def o278 (_ : Params) : Obj := tO [(vs "=" 566), (vs "<>" 567), (vs "<" 568), (vs ">" 569), (vs "<=" 570), (vs ">=" 571)]
noncomputable def o279 (_ : Params) : Obj := tO []
noncomputable def o280 (_ : Params) : Obj := fsO []
noncomputable def o281 (_ : Params) : Obj := tO [(vs "one" 576), (vs "other" 577)]
noncomputable def o282 (_ : Params) : Obj := tO []
noncomputable def o283 (_ : Params) : Obj := ⟨.none, none, (.func (fO (sA 46) "order_of_texts" "order_of_texts" 0 [] .none .none .none .none none .none .none 0)), ⟨[]⟩⟩
noncomputable def o284 (_ : Params) : Obj := cO [(vs "order_of_texts" 573), (vs "order_of_texts" 574), (vs "/claim/cut.py" 575), (vi 193 0), (vi 2 0), (vi 0 0), (vi 0 0), (vi 3 0), (.ref 279), (.bool true), (vi 181 0), (.ref 280), .none, (.ref 281), (.ref 282), (.ref 283), (vi 578 0), (vi 193 0), (vs "/claim/cut.py" 579)]
noncomputable def o285 (_ : Params) : Obj := ⟨(.type "function"), none, (.func (fO (sA 46) "order_of_texts" "order_of_texts" 3 [] .none .none .none (vs "basicplus.worth" 558) none (.ref 284) .none 0)), ⟨[]⟩⟩
noncomputable def o286 (_ : Params) : Obj := tO []
noncomputable def o287 (_ : Params) : Obj := fsO []
noncomputable def o288 (_ : Params) : Obj := tO [(vs "op" 584), (vs "order" 585)]
noncomputable def o289 (_ : Params) : Obj := tO []
noncomputable def o290 (_ : Params) : Obj := ⟨.none, none, (.func (fO (sA 47) "compared" "compared" 0 [] .none .none .none .none none .none .none 0)), ⟨[]⟩⟩
noncomputable def o291 (_ : Params) : Obj := cO [(vs "compared" 581), (vs "compared" 582), (vs "/claim/cut.py" 583), (vi 195 0), (vi 2 0), (vi 0 0), (vi 0 0), (vi 3 0), (.ref 286), (.bool true), (vi 181 0), (.ref 287), .none, (.ref 288), (.ref 289), (.ref 290), (vi 586 0), (vi 195 0), (vs "/claim/cut.py" 587)]
noncomputable def o292 (_ : Params) : Obj := ⟨(.type "function"), none, (.func (fO (sA 47) "compared" "compared" 3 [] .none .none .none (vs "basicplus.worth" 558) none (.ref 291) .none 0)), ⟨[]⟩⟩
noncomputable def o293 (_ : Params) : Obj := tO []
noncomputable def o294 (_ : Params) : Obj := fsO []
noncomputable def o295 (_ : Params) : Obj := tO [(vs "op" 592), (vs "one" 593), (vs "other" 594)]
noncomputable def o296 (_ : Params) : Obj := tO []
noncomputable def o297 (_ : Params) : Obj := ⟨.none, none, (.func (fO (sA 48) "worth_of_texts" "worth_of_texts" 0 [] .none .none .none .none none .none .none 0)), ⟨[]⟩⟩
noncomputable def o298 (_ : Params) : Obj := cO [(vs "worth_of_texts" 589), (vs "worth_of_texts" 590), (vs "/claim/cut.py" 591), (vi 201 0), (vi 3 0), (vi 0 0), (vi 0 0), (vi 3 0), (.ref 293), (.bool true), (vi 181 0), (.ref 294), .none, (.ref 295), (.ref 296), (.ref 297), (vi 595 0), (vi 201 0), (vs "/claim/cut.py" 596)]
noncomputable def o299 (_ : Params) : Obj := ⟨(.type "function"), none, (.func (fO (sA 48) "worth_of_texts" "worth_of_texts" 3 [] .none .none .none (vs "basicplus.worth" 558) none (.ref 298) .none 0)), ⟨[]⟩⟩
noncomputable def o300 (_ : Params) : Obj := tO []
noncomputable def o301 (_ : Params) : Obj := fsO []
noncomputable def o302 (_ : Params) : Obj := ⟨.none, none, (.func (fO (sA 49) "worth_of_two" "worth_of_two" 0 [] .none .none .none .none none .none .none 0)), ⟨[]⟩⟩
noncomputable def o303 (_ : Params) : Obj := cO [(vs "worth_of_two" 598), (vs "worth_of_two" 599), (vs "/claim/cut.py" 600), (vi 207 0), (vi 5 0), (vi 0 0), (vi 0 0), (vi 3 0), (.ref 300), (.bool true), (vi 181 0), (.ref 301), .none, .none, .none, (.ref 302), (vi 601 0), (vi 207 0), (vs "/claim/cut.py" 602)]
noncomputable def o304 (_ : Params) : Obj := ⟨(.type "function"), none, (.func (fO (sA 49) "worth_of_two" "worth_of_two" 3 [] .none .none .none (vs "basicplus.worth" 558) none (.ref 303) .none 0)), ⟨[]⟩⟩
noncomputable def o305 (_ : Params) : Obj := tO []
noncomputable def o306 (_ : Params) : Obj := fsO []
noncomputable def o307 (_ : Params) : Obj := tO [(vs "op" 607), (vs "value" 608), (vs "bits" 609), (vs "digits" 610)]
noncomputable def o308 (_ : Params) : Obj := tO []
noncomputable def o309 (_ : Params) : Obj := ⟨.none, none, (.func (fO (sA 50) "worth_of_one" "worth_of_one" 0 [] .none .none .none .none none .none .none 0)), ⟨[]⟩⟩
noncomputable def o310 (_ : Params) : Obj := cO [(vs "worth_of_one" 604), (vs "worth_of_one" 605), (vs "/claim/cut.py" 606), (vi 218 0), (vi 4 0), (vi 0 0), (vi 0 0), (vi 3 0), (.ref 305), (.bool true), (vi 181 0), (.ref 306), .none, (.ref 307), (.ref 308), (.ref 309), (vi 611 0), (vi 218 0), (vs "/claim/cut.py" 612)]
noncomputable def o311 (_ : Params) : Obj := ⟨(.type "function"), none, (.func (fO (sA 50) "worth_of_one" "worth_of_one" 3 [] .none .none .none (vs "basicplus.worth" 558) none (.ref 310) .none 0)), ⟨[]⟩⟩
noncomputable def o312 (_ : Params) : Obj := tO []
noncomputable def o313 (_ : Params) : Obj := fsO []
noncomputable def o314 (_ : Params) : Obj := tO [(vs "tree" 617), (vs "bits" 618), (vs "digits" 619), (vs "kind" 620), (vs "value" 621)]
noncomputable def o315 (_ : Params) : Obj := tO []
noncomputable def o316 (_ : Params) : Obj := ⟨.none, none, (.func (fO (sA 51) "worth_of_leaf" "worth_of_leaf" 0 [] .none .none .none .none none .none .none 0)), ⟨[]⟩⟩
noncomputable def o317 (_ : Params) : Obj := cO [(vs "worth_of_leaf" 614), (vs "worth_of_leaf" 615), (vs "/claim/cut.py" 616), (vi 222 0), (vi 3 0), (vi 0 0), (vi 0 0), (vi 3 0), (.ref 312), (.bool true), (vi 181 0), (.ref 313), .none, (.ref 314), (.ref 315), (.ref 316), (vi 622 0), (vi 222 0), (vs "/claim/cut.py" 623)]
noncomputable def o318 (_ : Params) : Obj := ⟨(.type "function"), none, (.func (fO (sA 51) "worth_of_leaf" "worth_of_leaf" 3 [] .none .none .none (vs "basicplus.worth" 558) none (.ref 317) .none 0)), ⟨[]⟩⟩
noncomputable def o319 (_ : Params) : Obj := tO []
noncomputable def o320 (_ : Params) : Obj := fsO []
noncomputable def o321 (_ : Params) : Obj := tO [(vs "tree" 628), (vs "parts" 629), (vs "hooks" 630), (vs "kind" 631)]
noncomputable def o322 (_ : Params) : Obj := tO []
noncomputable def o323 (_ : Params) : Obj := ⟨.none, none, (.func (fO (sA 52) "worth_of_tree" "worth_of_tree" 0 [] .none .none .none .none none .none .none 0)), ⟨[]⟩⟩
noncomputable def o324 (_ : Params) : Obj := cO [(vs "worth_of_tree" 625), (vs "worth_of_tree" 626), (vs "/claim/cut.py" 627), (vi 227 0), (vi 3 0), (vi 0 0), (vi 0 0), (vi 3 0), (.ref 319), (.bool true), (vi 181 0), (.ref 320), .none, (.ref 321), (.ref 322), (.ref 323), (vi 632 0), (vi 227 0), (vs "/claim/cut.py" 633)]
noncomputable def o325 (_ : Params) : Obj := ⟨(.type "function"), none, (.func (fO (sA 52) "worth_of_tree" "worth_of_tree" 3 [] .none .none .none (vs "basicplus.worth" 558) none (.ref 324) .none 0)), ⟨[]⟩⟩
noncomputable def o326 (_ : Params) : Obj := tO []
noncomputable def o327 (_ : Params) : Obj := fsO []
noncomputable def o328 (_ : Params) : Obj := ⟨.none, none, (.func (fO (sA 53) "worth" "worth" 0 [] .none .none .none .none none .none .none 0)), ⟨[]⟩⟩
noncomputable def o329 (_ : Params) : Obj := cO [(vs "worth" 635), (vs "worth" 636), (vs "/claim/cut.py" 637), (vi 240 0), (vi 2 0), (vi 0 0), (vi 0 0), (vi 3 0), (.ref 326), (.bool true), (vi 181 0), (.ref 327), .none, .none, .none, (.ref 328), (vi 638 0), (vi 240 0), (vs "/claim/cut.py" 639)]
noncomputable def o330 (_ : Params) : Obj := ⟨(.type "function"), none, (.func (fO (sA 53) "worth" "worth" 3 [] .none .none .none (vs "basicplus.worth" 558) none (.ref 329) .none 0)), ⟨[]⟩⟩
noncomputable def T54 (P : Params) : BT := (.node (boot_o_0 P) (.node (boot_o_1 P) (.node (o3v2 P) (.node (boot_o_7 P) (.node (o15 P) (.node (o31 P) (.node (o63 P) (.node (o127 P) (.node (o255 P) .nil .nil) .nil) (.node (o191 P) (.node (o319 P) .nil .nil) .nil)) (.node (o95 P) (.node (o159 P) (.node (o287 P) .nil .nil) .nil) (.node (o223 P) .nil .nil))) (.node (o47 P) (.node (o79 P) (.node (o143 P) (.node (o271 P) .nil .nil) .nil) (.node (o207 P) .nil .nil)) (.node (o111 P) (.node (o175 P) (.node (o303 P) .nil .nil) .nil) (.node (o239 P) .nil .nil)))) (.node (o23 P) (.node (o39 P) (.node (o71 P) (.node (o135 P) (.node (o263 P) .nil .nil) .nil) (.node (o199 P) (.node (o327 P) .nil .nil) .nil)) (.node (o103 P) (.node (o167 P) (.node (o295 P) .nil .nil) .nil) (.node (o231 P) .nil .nil))) (.node (o55 P) (.node (o87 P) (.node (o151 P) (.node (o279 P) .nil .nil) .nil) (.node (o215 P) .nil .nil)) (.node (o119 P) (.node (o183 P) (.node (o311 P) .nil .nil) .nil) (.node (o247 P) .nil .nil))))) (.node (o11 P) (.node (o19 P) (.node (o35 P) (.node (o67 P) (.node (o131 P) (.node (o259 P) .nil .nil) .nil) (.node (o195 P) (.node (o323 P) .nil .nil) .nil)) (.node (o99 P) (.node (o163 P) (.node (o291 P) .nil .nil) .nil) (.node (o227 P) .nil .nil))) (.node (o51 P) (.node (o83 P) (.node (o147 P) (.node (o275 P) .nil .nil) .nil) (.node (o211 P) .nil .nil)) (.node (o115 P) (.node (o179 P) (.node (o307 P) .nil .nil) .nil) (.node (o243 P) .nil .nil)))) (.node (o27 P) (.node (o43 P) (.node (o75 P) (.node (o139 P) (.node (o267 P) .nil .nil) .nil) (.node (o203 P) .nil .nil)) (.node (o107 P) (.node (o171 P) (.node (o299 P) .nil .nil) .nil) (.node (o235 P) .nil .nil))) (.node (o59 P) (.node (o91 P) (.node (o155 P) (.node (o283 P) .nil .nil) .nil) (.node (o219 P) .nil .nil)) (.node (o123 P) (.node (o187 P) (.node (o315 P) .nil .nil) .nil) (.node (o251 P) .nil .nil)))))) (.node (boot_o_5 P) (.node (boot_o_9 P) (.node (o17 P) (.node (o33 P) (.node (o65 P) (.node (o129 P) (.node (o257 P) .nil .nil) .nil) (.node (o193 P) (.node (o321 P) .nil .nil) .nil)) (.node (o97 P) (.node (o161 P) (.node (o289 P) .nil .nil) .nil) (.node (o225 P) .nil .nil))) (.node (o49 P) (.node (o81 P) (.node (o145 P) (.node (o273 P) .nil .nil) .nil) (.node (o209 P) .nil .nil)) (.node (o113 P) (.node (o177 P) (.node (o305 P) .nil .nil) .nil) (.node (o241 P) .nil .nil)))) (.node (o25 P) (.node (o41 P) (.node (o73 P) (.node (o137 P) (.node (o265 P) .nil .nil) .nil) (.node (o201 P) (.node (o329 P) .nil .nil) .nil)) (.node (o105 P) (.node (o169 P) (.node (o297 P) .nil .nil) .nil) (.node (o233 P) .nil .nil))) (.node (o57 P) (.node (o89 P) (.node (o153 P) (.node (o281 P) .nil .nil) .nil) (.node (o217 P) .nil .nil)) (.node (o121 P) (.node (o185 P) (.node (o313 P) .nil .nil) .nil) (.node (o249 P) .nil .nil))))) (.node (o13 P) (.node (o21 P) (.node (o37 P) (.node (o69 P) (.node (o133 P) (.node (o261 P) .nil .nil) .nil) (.node (o197 P) (.node (o325 P) .nil .nil) .nil)) (.node (o101 P) (.node (o165 P) (.node (o293 P) .nil .nil) .nil) (.node (o229 P) .nil .nil))) (.node (o53 P) (.node (o85 P) (.node (o149 P) (.node (o277 P) .nil .nil) .nil) (.node (o213 P) .nil .nil)) (.node (o117 P) (.node (o181 P) (.node (o309 P) .nil .nil) .nil) (.node (o245 P) .nil .nil)))) (.node (o29 P) (.node (o45 P) (.node (o77 P) (.node (o141 P) (.node (o269 P) .nil .nil) .nil) (.node (o205 P) .nil .nil)) (.node (o109 P) (.node (o173 P) (.node (o301 P) .nil .nil) .nil) (.node (o237 P) .nil .nil))) (.node (o61 P) (.node (o93 P) (.node (o157 P) (.node (o285 P) .nil .nil) .nil) (.node (o221 P) .nil .nil)) (.node (o125 P) (.node (o189 P) (.node (o317 P) .nil .nil) .nil) (.node (o253 P) .nil .nil))))))) (.node (o2v1 P) (.node (boot_o_4 P) (.node (boot_o_8 P) (.node (o16 P) (.node (o32 P) (.node (o64 P) (.node (o128 P) (.node (o256 P) .nil .nil) .nil) (.node (o192 P) (.node (o320 P) .nil .nil) .nil)) (.node (o96 P) (.node (o160 P) (.node (o288 P) .nil .nil) .nil) (.node (o224 P) .nil .nil))) (.node (o48 P) (.node (o80 P) (.node (o144 P) (.node (o272 P) .nil .nil) .nil) (.node (o208 P) .nil .nil)) (.node (o112 P) (.node (o176 P) (.node (o304 P) .nil .nil) .nil) (.node (o240 P) .nil .nil)))) (.node (o24 P) (.node (o40 P) (.node (o72 P) (.node (o136 P) (.node (o264 P) .nil .nil) .nil) (.node (o200 P) (.node (o328 P) .nil .nil) .nil)) (.node (o104 P) (.node (o168 P) (.node (o296 P) .nil .nil) .nil) (.node (o232 P) .nil .nil))) (.node (o56 P) (.node (o88 P) (.node (o152 P) (.node (o280 P) .nil .nil) .nil) (.node (o216 P) .nil .nil)) (.node (o120 P) (.node (o184 P) (.node (o312 P) .nil .nil) .nil) (.node (o248 P) .nil .nil))))) (.node (o12v2 P) (.node (o20 P) (.node (o36 P) (.node (o68 P) (.node (o132 P) (.node (o260 P) .nil .nil) .nil) (.node (o196 P) (.node (o324 P) .nil .nil) .nil)) (.node (o100 P) (.node (o164 P) (.node (o292 P) .nil .nil) .nil) (.node (o228 P) .nil .nil))) (.node (o52 P) (.node (o84 P) (.node (o148 P) (.node (o276 P) .nil .nil) .nil) (.node (o212 P) .nil .nil)) (.node (o116 P) (.node (o180 P) (.node (o308 P) .nil .nil) .nil) (.node (o244 P) .nil .nil)))) (.node (o28 P) (.node (o44 P) (.node (o76 P) (.node (o140 P) (.node (o268 P) .nil .nil) .nil) (.node (o204 P) .nil .nil)) (.node (o108 P) (.node (o172 P) (.node (o300 P) .nil .nil) .nil) (.node (o236 P) .nil .nil))) (.node (o60 P) (.node (o92 P) (.node (o156 P) (.node (o284 P) .nil .nil) .nil) (.node (o220 P) .nil .nil)) (.node (o124 P) (.node (o188 P) (.node (o316 P) .nil .nil) .nil) (.node (o252 P) .nil .nil)))))) (.node (boot_o_6 P) (.node (boot_o_10 P) (.node (o18 P) (.node (o34 P) (.node (o66 P) (.node (o130 P) (.node (o258 P) .nil .nil) .nil) (.node (o194 P) (.node (o322 P) .nil .nil) .nil)) (.node (o98 P) (.node (o162 P) (.node (o290 P) .nil .nil) .nil) (.node (o226 P) .nil .nil))) (.node (o50 P) (.node (o82 P) (.node (o146 P) (.node (o274 P) .nil .nil) .nil) (.node (o210 P) .nil .nil)) (.node (o114 P) (.node (o178 P) (.node (o306 P) .nil .nil) .nil) (.node (o242 P) .nil .nil)))) (.node (o26 P) (.node (o42 P) (.node (o74 P) (.node (o138 P) (.node (o266 P) .nil .nil) .nil) (.node (o202 P) (.node (o330 P) .nil .nil) .nil)) (.node (o106 P) (.node (o170 P) (.node (o298 P) .nil .nil) .nil) (.node (o234 P) .nil .nil))) (.node (o58 P) (.node (o90 P) (.node (o154 P) (.node (o282 P) .nil .nil) .nil) (.node (o218 P) .nil .nil)) (.node (o122 P) (.node (o186 P) (.node (o314 P) .nil .nil) .nil) (.node (o250 P) .nil .nil))))) (.node (o14 P) (.node (o22 P) (.node (o38 P) (.node (o70 P) (.node (o134 P) (.node (o262 P) .nil .nil) .nil) (.node (o198 P) (.node (o326 P) .nil .nil) .nil)) (.node (o102 P) (.node (o166 P) (.node (o294 P) .nil .nil) .nil) (.node (o230 P) .nil .nil))) (.node (o54 P) (.node (o86 P) (.node (o150 P) (.node (o278 P) .nil .nil) .nil) (.node (o214 P) .nil .nil)) (.node (o118 P) (.node (o182 P) (.node (o310 P) .nil .nil) .nil) (.node (o246 P) .nil .nil)))) (.node (o30 P) (.node (o46 P) (.node (o78 P) (.node (o142 P) (.node (o270 P) .nil .nil) .nil) (.node (o206 P) .nil .nil)) (.node (o110 P) (.node (o174 P) (.node (o302 P) .nil .nil) .nil) (.node (o238 P) .nil .nil))) (.node (o62 P) (.node (o94 P) (.node (o158 P) (.node (o286 P) .nil .nil) .nil) (.node (o222 P) .nil .nil)) (.node (o126 P) (.node (o190 P) (.node (o318 P) .nil .nil) .nil) (.node (o254 P) .nil .nil))))))))
noncomputable def S54 (w : World) (os : OsState) : SharedT := ⟨T54 w.params, 331, lifeM, ⟨[]⟩, ⟨0, 0, 0, 0⟩, 641, os⟩
noncomputable def o3v3 (P : Params) : Obj := dO 59 ((de P "__name__" 165 (vs "basicplus.hooks" 641)) :: (mE P).take 58)
noncomputable def o12v3 (_ : Params) : Obj := fsO (lE.take 132)
noncomputable def o331 (_ : Params) : Obj := tO []
noncomputable def o332 (_ : Params) : Obj := ⟨(.type "builtin_function_or_method"), none, (.fields ⟨[(.builtin "type.__prepare__"), (.type "type")]⟩), ⟨[]⟩⟩
noncomputable def o333 (P : Params) : Obj := dO 10 [de P "__module__" 650 (vs "basicplus.hooks" 641), de P "__qualname__" 652 (vs "PlainHooks" 651), de P "__firstlineno__" 654 (vi 254 653), de P "__init__" 664 (.ref 344), de P "value_of_name" 672 (.ref 351), de P "told" 683 (.ref 358), de P "item_of" 692 (.ref 365), de P "call" 701 (.ref 372), de P "fn" 710 (.ref 379), de P "__static_attributes__" 715 (.ref 380)]
noncomputable def o334 (_ : Params) : Obj := tO []
noncomputable def o335 (_ : Params) : Obj := fsO [(vi 256 0), (vi 4 0), (.ref 343), (vi 262 0), (vi 4 0), (.ref 350), (vi 268 0), (vi 4 0), (.ref 357), (vi 275 0), (vi 4 0), (.ref 364), (vi 278 0), (vi 4 0), (.ref 371), (vi 281 0), (vi 4 0), (.ref 378)]
noncomputable def o336 (_ : Params) : Obj := cO [(vs "PlainHooks" 645), (vs "PlainHooks" 646), (vs "/claim/cut.py" 647), (vi 254 0), (vi 0 0), (vi 0 0), (vi 0 0), (vi 0 0), (.ref 334), (.bool false), (vi 181 0), (.ref 335), .none, .none, .none, .none, (vi 648 0), (vi 254 0), (vs "/claim/cut.py" 649)]
noncomputable def o337 (_ : Params) : Obj := ⟨(.type "frame"), none, .plain, ⟨[some (.ref 336), some (.ref 3), some (.ref 333), none, some (vs "basicplus.hooks" 641), none, some (.ref 0)]⟩⟩
noncomputable def o338 (_ : Params) : Obj := tO []
noncomputable def o339 (_ : Params) : Obj := fsO []
noncomputable def o340 (_ : Params) : Obj := tO [(vs "self" 658), (vs "values" 659), (vs "bits" 660), (vs "digits" 661)]
noncomputable def o341 (_ : Params) : Obj := tO []
noncomputable def o342 (_ : Params) : Obj := ⟨.none, none, (.func (fO (sM 55 0) "__init__" "PlainHooks.__init__" 0 [] .none .none .none .none none .none .none 0)), ⟨[]⟩⟩
noncomputable def o343 (_ : Params) : Obj := cO [(vs "__init__" 655), (vs "PlainHooks.__init__" 656), (vs "/claim/cut.py" 657), (vi 256 0), (vi 4 0), (vi 0 0), (vi 0 0), (vi 3 0), (.ref 338), (.bool true), (vi 181 0), (.ref 339), .none, (.ref 340), (.ref 341), (.ref 342), (vi 662 0), (vi 256 0), (vs "/claim/cut.py" 663)]
noncomputable def o344 (_ : Params) : Obj := ⟨(.type "function"), none, (.func (fO (sM 55 0) "__init__" "PlainHooks.__init__" 3 [] .none .none .none (vs "basicplus.hooks" 641) none (.ref 343) .none 0)), ⟨[]⟩⟩
noncomputable def o345 (_ : Params) : Obj := tO []
noncomputable def o346 (_ : Params) : Obj := fsO []
noncomputable def o347 (_ : Params) : Obj := tO [(vs "self" 668), (vs "word" 669)]
noncomputable def o348 (_ : Params) : Obj := tO []
noncomputable def o349 (_ : Params) : Obj := ⟨.none, none, (.func (fO (sM 55 1) "value_of_name" "PlainHooks.value_of_name" 0 [] .none .none .none .none none .none .none 0)), ⟨[]⟩⟩
noncomputable def o350 (_ : Params) : Obj := cO [(vs "value_of_name" 665), (vs "PlainHooks.value_of_name" 666), (vs "/claim/cut.py" 667), (vi 262 0), (vi 2 0), (vi 0 0), (vi 0 0), (vi 3 0), (.ref 345), (.bool true), (vi 181 0), (.ref 346), .none, (.ref 347), (.ref 348), (.ref 349), (vi 670 0), (vi 262 0), (vs "/claim/cut.py" 671)]
noncomputable def o351 (_ : Params) : Obj := ⟨(.type "function"), none, (.func (fO (sM 55 1) "value_of_name" "PlainHooks.value_of_name" 3 [] .none .none .none (vs "basicplus.hooks" 641) none (.ref 350) .none 0)), ⟨[]⟩⟩
noncomputable def o352 (_ : Params) : Obj := tO []
noncomputable def o353 (_ : Params) : Obj := fsO []
noncomputable def o354 (_ : Params) : Obj := tO [(vs "self" 676), (vs "word" 677), (vs "args" 678), (vs "code" 679), (vs "key" 680)]
noncomputable def o355 (_ : Params) : Obj := tO []
noncomputable def o356 (_ : Params) : Obj := ⟨.none, none, (.func (fO (sM 55 2) "told" "PlainHooks.told" 0 [] .none .none .none .none none .none .none 0)), ⟨[]⟩⟩
noncomputable def o357 (_ : Params) : Obj := cO [(vs "told" 673), (vs "PlainHooks.told" 674), (vs "/claim/cut.py" 675), (vi 268 0), (vi 4 0), (vi 0 0), (vi 0 0), (vi 3 0), (.ref 352), (.bool true), (vi 181 0), (.ref 353), .none, (.ref 354), (.ref 355), (.ref 356), (vi 681 0), (vi 268 0), (vs "/claim/cut.py" 682)]
noncomputable def o358 (_ : Params) : Obj := ⟨(.type "function"), none, (.func (fO (sM 55 2) "told" "PlainHooks.told" 3 [] .none .none .none (vs "basicplus.hooks" 641) none (.ref 357) .none 0)), ⟨[]⟩⟩
noncomputable def o359 (_ : Params) : Obj := tO []
noncomputable def o360 (_ : Params) : Obj := fsO []
noncomputable def o361 (_ : Params) : Obj := tO [(vs "self" 687), (vs "word" 688), (vs "subs" 689)]
noncomputable def o362 (_ : Params) : Obj := tO []
noncomputable def o363 (_ : Params) : Obj := ⟨.none, none, (.func (fO (sM 55 3) "item_of" "PlainHooks.item_of" 0 [] .none .none .none .none none .none .none 0)), ⟨[]⟩⟩
noncomputable def o364 (_ : Params) : Obj := cO [(vs "item_of" 684), (vs "PlainHooks.item_of" 685), (vs "/claim/cut.py" 686), (vi 275 0), (vi 3 0), (vi 0 0), (vi 0 0), (vi 3 0), (.ref 359), (.bool true), (vi 181 0), (.ref 360), .none, (.ref 361), (.ref 362), (.ref 363), (vi 690 0), (vi 275 0), (vs "/claim/cut.py" 691)]
noncomputable def o365 (_ : Params) : Obj := ⟨(.type "function"), none, (.func (fO (sM 55 3) "item_of" "PlainHooks.item_of" 3 [] .none .none .none (vs "basicplus.hooks" 641) none (.ref 364) .none 0)), ⟨[]⟩⟩
noncomputable def o366 (_ : Params) : Obj := tO []
noncomputable def o367 (_ : Params) : Obj := fsO []
noncomputable def o368 (_ : Params) : Obj := tO [(vs "self" 696), (vs "word" 697), (vs "args" 698)]
noncomputable def o369 (_ : Params) : Obj := tO []
noncomputable def o370 (_ : Params) : Obj := ⟨.none, none, (.func (fO (sM 55 4) "call" "PlainHooks.call" 0 [] .none .none .none .none none .none .none 0)), ⟨[]⟩⟩
noncomputable def o371 (_ : Params) : Obj := cO [(vs "call" 693), (vs "PlainHooks.call" 694), (vs "/claim/cut.py" 695), (vi 278 0), (vi 3 0), (vi 0 0), (vi 0 0), (vi 3 0), (.ref 366), (.bool true), (vi 181 0), (.ref 367), .none, (.ref 368), (.ref 369), (.ref 370), (vi 699 0), (vi 278 0), (vs "/claim/cut.py" 700)]
noncomputable def o372 (_ : Params) : Obj := ⟨(.type "function"), none, (.func (fO (sM 55 4) "call" "PlainHooks.call" 3 [] .none .none .none (vs "basicplus.hooks" 641) none (.ref 371) .none 0)), ⟨[]⟩⟩
noncomputable def o373 (_ : Params) : Obj := tO []
noncomputable def o374 (_ : Params) : Obj := fsO []
noncomputable def o375 (_ : Params) : Obj := tO [(vs "self" 705), (vs "word" 706), (vs "args" 707)]
noncomputable def o376 (_ : Params) : Obj := tO []
noncomputable def o377 (_ : Params) : Obj := ⟨.none, none, (.func (fO (sM 55 5) "fn" "PlainHooks.fn" 0 [] .none .none .none .none none .none .none 0)), ⟨[]⟩⟩
noncomputable def o378 (_ : Params) : Obj := cO [(vs "fn" 702), (vs "PlainHooks.fn" 703), (vs "/claim/cut.py" 704), (vi 281 0), (vi 3 0), (vi 0 0), (vi 0 0), (vi 3 0), (.ref 373), (.bool true), (vi 181 0), (.ref 374), .none, (.ref 375), (.ref 376), (.ref 377), (vi 708 0), (vi 281 0), (vs "/claim/cut.py" 709)]
noncomputable def o379 (_ : Params) : Obj := ⟨(.type "function"), none, (.func (fO (sM 55 5) "fn" "PlainHooks.fn" 3 [] .none .none .none (vs "basicplus.hooks" 641) none (.ref 378) .none 0)), ⟨[]⟩⟩
noncomputable def o380 (_ : Params) : Obj := tO [(vs "asked" 711), (vs "bits" 712), (vs "digits" 713), (vs "values" 714)]
noncomputable def o381 (P : Params) : Obj := dO 4 [de P "__module__" 650 (vs "basicplus.hooks" 641), de P "__firstlineno__" 654 (vi 254 653), de P "__init__" 664 (.ref 344), de P "value_of_name" 672 (.ref 351), de P "told" 683 (.ref 358), de P "item_of" 692 (.ref 365), de P "call" 701 (.ref 372), de P "fn" 710 (.ref 379), de P "__static_attributes__" 715 (.ref 380), de P "__dict__" 717 (.ref 383), de P "__weakref__" 719 (.ref 384), de P "__doc__" 720 .none]
noncomputable def o382 (_ : Params) : Obj := ⟨(.type "type"), none, (.cls ⟨Str.ofString "PlainHooks", [(.type "object")], [(.ref 382), (.type "object")], 381, Str.ofString "PlainHooks", true, [], [], false, none, false⟩), ⟨[none, none, some (vs "PlainHooks" 643), some (vs "PlainHooks" 651), some (.builtin "object.__new__"), some (.bool true)]⟩⟩
noncomputable def o383 (_ : Params) : Obj := ⟨(.type "getset_descriptor"), none, (.fields ⟨[(vs "__dict__" 716), (.ref 382), (.builtin "function.__dict__"), (.builtin "function.__dict__#set")]⟩), ⟨[]⟩⟩
noncomputable def o384 (_ : Params) : Obj := ⟨(.type "getset_descriptor"), none, (.fields ⟨[(vs "__weakref__" 718), (.ref 382), (.builtin "ExceptionGroup.__weakref__"), .none]⟩), ⟨[]⟩⟩
noncomputable def o385 (_ : Params) : Obj := ⟨(.type "super"), none, (.fields ⟨[(.ref 382), (.ref 382), (.ref 382)]⟩), ⟨[]⟩⟩
noncomputable def o386 (_ : Params) : Obj := ⟨(.type "builtin_function_or_method"), none, (.fields ⟨[(.builtin "object.__init_subclass__"), (.ref 382)]⟩), ⟨[]⟩⟩
noncomputable def T56 (P : Params) : BT := (.node (boot_o_0 P) (.node (boot_o_1 P) (.node (o3v3 P) (.node (boot_o_7 P) (.node (o15 P) (.node (o31 P) (.node (o63 P) (.node (o127 P) (.node (o255 P) .nil .nil) (.node (o383 P) .nil .nil)) (.node (o191 P) (.node (o319 P) .nil .nil) .nil)) (.node (o95 P) (.node (o159 P) (.node (o287 P) .nil .nil) .nil) (.node (o223 P) (.node (o351 P) .nil .nil) .nil))) (.node (o47 P) (.node (o79 P) (.node (o143 P) (.node (o271 P) .nil .nil) .nil) (.node (o207 P) (.node (o335 P) .nil .nil) .nil)) (.node (o111 P) (.node (o175 P) (.node (o303 P) .nil .nil) .nil) (.node (o239 P) (.node (o367 P) .nil .nil) .nil)))) (.node (o23 P) (.node (o39 P) (.node (o71 P) (.node (o135 P) (.node (o263 P) .nil .nil) .nil) (.node (o199 P) (.node (o327 P) .nil .nil) .nil)) (.node (o103 P) (.node (o167 P) (.node (o295 P) .nil .nil) .nil) (.node (o231 P) (.node (o359 P) .nil .nil) .nil))) (.node (o55 P) (.node (o87 P) (.node (o151 P) (.node (o279 P) .nil .nil) .nil) (.node (o215 P) (.node (o343 P) .nil .nil) .nil)) (.node (o119 P) (.node (o183 P) (.node (o311 P) .nil .nil) .nil) (.node (o247 P) (.node (o375 P) .nil .nil) .nil))))) (.node (o11 P) (.node (o19 P) (.node (o35 P) (.node (o67 P) (.node (o131 P) (.node (o259 P) .nil .nil) .nil) (.node (o195 P) (.node (o323 P) .nil .nil) .nil)) (.node (o99 P) (.node (o163 P) (.node (o291 P) .nil .nil) .nil) (.node (o227 P) (.node (o355 P) .nil .nil) .nil))) (.node (o51 P) (.node (o83 P) (.node (o147 P) (.node (o275 P) .nil .nil) .nil) (.node (o211 P) (.node (o339 P) .nil .nil) .nil)) (.node (o115 P) (.node (o179 P) (.node (o307 P) .nil .nil) .nil) (.node (o243 P) (.node (o371 P) .nil .nil) .nil)))) (.node (o27 P) (.node (o43 P) (.node (o75 P) (.node (o139 P) (.node (o267 P) .nil .nil) .nil) (.node (o203 P) (.node (o331 P) .nil .nil) .nil)) (.node (o107 P) (.node (o171 P) (.node (o299 P) .nil .nil) .nil) (.node (o235 P) (.node (o363 P) .nil .nil) .nil))) (.node (o59 P) (.node (o91 P) (.node (o155 P) (.node (o283 P) .nil .nil) .nil) (.node (o219 P) (.node (o347 P) .nil .nil) .nil)) (.node (o123 P) (.node (o187 P) (.node (o315 P) .nil .nil) .nil) (.node (o251 P) (.node (o379 P) .nil .nil) .nil)))))) (.node (boot_o_5 P) (.node (boot_o_9 P) (.node (o17 P) (.node (o33 P) (.node (o65 P) (.node (o129 P) (.node (o257 P) .nil .nil) (.node (o385 P) .nil .nil)) (.node (o193 P) (.node (o321 P) .nil .nil) .nil)) (.node (o97 P) (.node (o161 P) (.node (o289 P) .nil .nil) .nil) (.node (o225 P) (.node (o353 P) .nil .nil) .nil))) (.node (o49 P) (.node (o81 P) (.node (o145 P) (.node (o273 P) .nil .nil) .nil) (.node (o209 P) (.node (o337 P) .nil .nil) .nil)) (.node (o113 P) (.node (o177 P) (.node (o305 P) .nil .nil) .nil) (.node (o241 P) (.node (o369 P) .nil .nil) .nil)))) (.node (o25 P) (.node (o41 P) (.node (o73 P) (.node (o137 P) (.node (o265 P) .nil .nil) .nil) (.node (o201 P) (.node (o329 P) .nil .nil) .nil)) (.node (o105 P) (.node (o169 P) (.node (o297 P) .nil .nil) .nil) (.node (o233 P) (.node (o361 P) .nil .nil) .nil))) (.node (o57 P) (.node (o89 P) (.node (o153 P) (.node (o281 P) .nil .nil) .nil) (.node (o217 P) (.node (o345 P) .nil .nil) .nil)) (.node (o121 P) (.node (o185 P) (.node (o313 P) .nil .nil) .nil) (.node (o249 P) (.node (o377 P) .nil .nil) .nil))))) (.node (o13 P) (.node (o21 P) (.node (o37 P) (.node (o69 P) (.node (o133 P) (.node (o261 P) .nil .nil) .nil) (.node (o197 P) (.node (o325 P) .nil .nil) .nil)) (.node (o101 P) (.node (o165 P) (.node (o293 P) .nil .nil) .nil) (.node (o229 P) (.node (o357 P) .nil .nil) .nil))) (.node (o53 P) (.node (o85 P) (.node (o149 P) (.node (o277 P) .nil .nil) .nil) (.node (o213 P) (.node (o341 P) .nil .nil) .nil)) (.node (o117 P) (.node (o181 P) (.node (o309 P) .nil .nil) .nil) (.node (o245 P) (.node (o373 P) .nil .nil) .nil)))) (.node (o29 P) (.node (o45 P) (.node (o77 P) (.node (o141 P) (.node (o269 P) .nil .nil) .nil) (.node (o205 P) (.node (o333 P) .nil .nil) .nil)) (.node (o109 P) (.node (o173 P) (.node (o301 P) .nil .nil) .nil) (.node (o237 P) (.node (o365 P) .nil .nil) .nil))) (.node (o61 P) (.node (o93 P) (.node (o157 P) (.node (o285 P) .nil .nil) .nil) (.node (o221 P) (.node (o349 P) .nil .nil) .nil)) (.node (o125 P) (.node (o189 P) (.node (o317 P) .nil .nil) .nil) (.node (o253 P) (.node (o381 P) .nil .nil) .nil))))))) (.node (o2v1 P) (.node (boot_o_4 P) (.node (boot_o_8 P) (.node (o16 P) (.node (o32 P) (.node (o64 P) (.node (o128 P) (.node (o256 P) .nil .nil) (.node (o384 P) .nil .nil)) (.node (o192 P) (.node (o320 P) .nil .nil) .nil)) (.node (o96 P) (.node (o160 P) (.node (o288 P) .nil .nil) .nil) (.node (o224 P) (.node (o352 P) .nil .nil) .nil))) (.node (o48 P) (.node (o80 P) (.node (o144 P) (.node (o272 P) .nil .nil) .nil) (.node (o208 P) (.node (o336 P) .nil .nil) .nil)) (.node (o112 P) (.node (o176 P) (.node (o304 P) .nil .nil) .nil) (.node (o240 P) (.node (o368 P) .nil .nil) .nil)))) (.node (o24 P) (.node (o40 P) (.node (o72 P) (.node (o136 P) (.node (o264 P) .nil .nil) .nil) (.node (o200 P) (.node (o328 P) .nil .nil) .nil)) (.node (o104 P) (.node (o168 P) (.node (o296 P) .nil .nil) .nil) (.node (o232 P) (.node (o360 P) .nil .nil) .nil))) (.node (o56 P) (.node (o88 P) (.node (o152 P) (.node (o280 P) .nil .nil) .nil) (.node (o216 P) (.node (o344 P) .nil .nil) .nil)) (.node (o120 P) (.node (o184 P) (.node (o312 P) .nil .nil) .nil) (.node (o248 P) (.node (o376 P) .nil .nil) .nil))))) (.node (o12v3 P) (.node (o20 P) (.node (o36 P) (.node (o68 P) (.node (o132 P) (.node (o260 P) .nil .nil) .nil) (.node (o196 P) (.node (o324 P) .nil .nil) .nil)) (.node (o100 P) (.node (o164 P) (.node (o292 P) .nil .nil) .nil) (.node (o228 P) (.node (o356 P) .nil .nil) .nil))) (.node (o52 P) (.node (o84 P) (.node (o148 P) (.node (o276 P) .nil .nil) .nil) (.node (o212 P) (.node (o340 P) .nil .nil) .nil)) (.node (o116 P) (.node (o180 P) (.node (o308 P) .nil .nil) .nil) (.node (o244 P) (.node (o372 P) .nil .nil) .nil)))) (.node (o28 P) (.node (o44 P) (.node (o76 P) (.node (o140 P) (.node (o268 P) .nil .nil) .nil) (.node (o204 P) (.node (o332 P) .nil .nil) .nil)) (.node (o108 P) (.node (o172 P) (.node (o300 P) .nil .nil) .nil) (.node (o236 P) (.node (o364 P) .nil .nil) .nil))) (.node (o60 P) (.node (o92 P) (.node (o156 P) (.node (o284 P) .nil .nil) .nil) (.node (o220 P) (.node (o348 P) .nil .nil) .nil)) (.node (o124 P) (.node (o188 P) (.node (o316 P) .nil .nil) .nil) (.node (o252 P) (.node (o380 P) .nil .nil) .nil)))))) (.node (boot_o_6 P) (.node (boot_o_10 P) (.node (o18 P) (.node (o34 P) (.node (o66 P) (.node (o130 P) (.node (o258 P) .nil .nil) (.node (o386 P) .nil .nil)) (.node (o194 P) (.node (o322 P) .nil .nil) .nil)) (.node (o98 P) (.node (o162 P) (.node (o290 P) .nil .nil) .nil) (.node (o226 P) (.node (o354 P) .nil .nil) .nil))) (.node (o50 P) (.node (o82 P) (.node (o146 P) (.node (o274 P) .nil .nil) .nil) (.node (o210 P) (.node (o338 P) .nil .nil) .nil)) (.node (o114 P) (.node (o178 P) (.node (o306 P) .nil .nil) .nil) (.node (o242 P) (.node (o370 P) .nil .nil) .nil)))) (.node (o26 P) (.node (o42 P) (.node (o74 P) (.node (o138 P) (.node (o266 P) .nil .nil) .nil) (.node (o202 P) (.node (o330 P) .nil .nil) .nil)) (.node (o106 P) (.node (o170 P) (.node (o298 P) .nil .nil) .nil) (.node (o234 P) (.node (o362 P) .nil .nil) .nil))) (.node (o58 P) (.node (o90 P) (.node (o154 P) (.node (o282 P) .nil .nil) .nil) (.node (o218 P) (.node (o346 P) .nil .nil) .nil)) (.node (o122 P) (.node (o186 P) (.node (o314 P) .nil .nil) .nil) (.node (o250 P) (.node (o378 P) .nil .nil) .nil))))) (.node (o14 P) (.node (o22 P) (.node (o38 P) (.node (o70 P) (.node (o134 P) (.node (o262 P) .nil .nil) .nil) (.node (o198 P) (.node (o326 P) .nil .nil) .nil)) (.node (o102 P) (.node (o166 P) (.node (o294 P) .nil .nil) .nil) (.node (o230 P) (.node (o358 P) .nil .nil) .nil))) (.node (o54 P) (.node (o86 P) (.node (o150 P) (.node (o278 P) .nil .nil) .nil) (.node (o214 P) (.node (o342 P) .nil .nil) .nil)) (.node (o118 P) (.node (o182 P) (.node (o310 P) .nil .nil) .nil) (.node (o246 P) (.node (o374 P) .nil .nil) .nil)))) (.node (o30 P) (.node (o46 P) (.node (o78 P) (.node (o142 P) (.node (o270 P) .nil .nil) .nil) (.node (o206 P) (.node (o334 P) .nil .nil) .nil)) (.node (o110 P) (.node (o174 P) (.node (o302 P) .nil .nil) .nil) (.node (o238 P) (.node (o366 P) .nil .nil) .nil))) (.node (o62 P) (.node (o94 P) (.node (o158 P) (.node (o286 P) .nil .nil) .nil) (.node (o222 P) (.node (o350 P) .nil .nil) .nil)) (.node (o126 P) (.node (o190 P) (.node (o318 P) .nil .nil) .nil) (.node (o254 P) (.node (o382 P) .nil .nil) .nil))))))))
noncomputable def S56 (w : World) (os : OsState) : SharedT := ⟨T56 w.params, 387, lifeM, ⟨[]⟩, ⟨0, 0, 0, 0⟩, 723, os⟩
noncomputable def o3v4 (P : Params) : Obj := dO 68 ((de P "__name__" 165 (vs "law_xm0020_01" 723)) :: (mE P).take 67)
noncomputable def o12v4 (_ : Params) : Obj := fsO (lE.take 159)
noncomputable def o387 (_ : Params) : Obj := tO []
noncomputable def o388 (_ : Params) : Obj := fsO []
noncomputable def o389 (_ : Params) : Obj := tO [(vs "bag" 728), (vs "below" 729), (vs "spot" 730)]
noncomputable def o390 (_ : Params) : Obj := tO []
noncomputable def o391 (_ : Params) : Obj := ⟨.none, none, (.func (fO (sA 57) "_law_number_of" "_law_number_of" 0 [] .none .none .none .none none .none .none 0)), ⟨[]⟩⟩
noncomputable def o392 (_ : Params) : Obj := cO [(vs "_law_number_of" 725), (vs "_law_number_of" 726), (vs "/claim/cut.py" 727), (vi 284 0), (vi 2 0), (vi 0 0), (vi 0 0), (vi 3 0), (.ref 387), (.bool true), (vi 181 0), (.ref 388), .none, (.ref 389), (.ref 390), (.ref 391), (vi 731 0), (vi 284 0), (vs "/claim/cut.py" 732)]
noncomputable def o393 (_ : Params) : Obj := ⟨(.type "function"), none, (.func (fO (sA 57) "_law_number_of" "_law_number_of" 3 [] .none .none .none (vs "law_xm0020_01" 723) none (.ref 392) .none 0)), ⟨[]⟩⟩
noncomputable def o394 (_ : Params) : Obj := tO []
noncomputable def o395 (_ : Params) : Obj := fsO []
noncomputable def o396 (_ : Params) : Obj := ⟨.none, none, (.func (fO (sA 58) "_law_logic_tree" "_law_logic_tree" 0 [] .none .none .none .none none .none .none 0)), ⟨[]⟩⟩
noncomputable def o397 (_ : Params) : Obj := cO [(vs "_law_logic_tree" 734), (vs "_law_logic_tree" 735), (vs "/claim/cut.py" 736), (vi 288 0), (vi 1 0), (vi 0 0), (vi 0 0), (vi 3 0), (.ref 394), (.bool true), (vi 181 0), (.ref 395), .none, .none, .none, (.ref 396), (vi 737 0), (vi 288 0), (vs "/claim/cut.py" 738)]
noncomputable def o398 (_ : Params) : Obj := ⟨(.type "function"), none, (.func (fO (sA 58) "_law_logic_tree" "_law_logic_tree" 3 [] .none .none .none (vs "law_xm0020_01" 723) none (.ref 397) .none 0)), ⟨[]⟩⟩
noncomputable def o399 (_ : Params) : Obj := tO []
noncomputable def o400 (_ : Params) : Obj := fsO []
noncomputable def o401 (_ : Params) : Obj := tO [(vs "tree" 743), (vs "numbers" 744)]
noncomputable def o402 (_ : Params) : Obj := tO []
noncomputable def o403 (_ : Params) : Obj := ⟨.none, none, (.func (fO (sA 59) "_law_worth_at" "_law_worth_at" 0 [] .none .none .none .none none .none .none 0)), ⟨[]⟩⟩
noncomputable def o404 (_ : Params) : Obj := cO [(vs "_law_worth_at" 740), (vs "_law_worth_at" 741), (vs "/claim/cut.py" 742), (vi 296 0), (vi 2 0), (vi 0 0), (vi 0 0), (vi 3 0), (.ref 399), (.bool true), (vi 181 0), (.ref 400), .none, (.ref 401), (.ref 402), (.ref 403), (vi 745 0), (vi 296 0), (vs "/claim/cut.py" 746)]
noncomputable def o405 (_ : Params) : Obj := ⟨(.type "function"), none, (.func (fO (sA 59) "_law_worth_at" "_law_worth_at" 3 [] .none .none .none (vs "law_xm0020_01" 723) none (.ref 404) .none 0)), ⟨[]⟩⟩
noncomputable def o406 (_ : Params) : Obj := tO []
noncomputable def o407 (_ : Params) : Obj := fsO []
noncomputable def o408 (_ : Params) : Obj := tO [(vs "tree" 751), (vs "which" 752), (vs "one" 753), (vs "other" 754)]
noncomputable def o409 (_ : Params) : Obj := tO []
noncomputable def o410 (_ : Params) : Obj := ⟨.none, none, (.func (fO (sA 60) "_law_truth" "_law_truth" 0 [] .none .none .none .none none .none .none 0)), ⟨[]⟩⟩
noncomputable def o411 (_ : Params) : Obj := cO [(vs "_law_truth" 748), (vs "_law_truth" 749), (vs "/claim/cut.py" 750), (vi 298 0), (vi 2 0), (vi 0 0), (vi 0 0), (vi 3 0), (.ref 406), (.bool true), (vi 181 0), (.ref 407), .none, (.ref 408), (.ref 409), (.ref 410), (vi 755 0), (vi 298 0), (vs "/claim/cut.py" 756)]
noncomputable def o412 (_ : Params) : Obj := ⟨(.type "function"), none, (.func (fO (sA 60) "_law_truth" "_law_truth" 3 [] .none .none .none (vs "law_xm0020_01" 723) none (.ref 411) .none 0)), ⟨[]⟩⟩
noncomputable def o413 (_ : Params) : Obj := tO []
noncomputable def o414 (_ : Params) : Obj := fsO []
noncomputable def o415 (_ : Params) : Obj := tO [(vs "table" 761), (vs "stride" 762), (vs "mask" 763)]
noncomputable def o416 (_ : Params) : Obj := tO []
noncomputable def o417 (_ : Params) : Obj := ⟨.none, none, (.func (fO (sA 61) "_law_coefficients" "_law_coefficients" 0 [] .none .none .none .none none .none .none 0)), ⟨[]⟩⟩
noncomputable def o418 (_ : Params) : Obj := cO [(vs "_law_coefficients" 758), (vs "_law_coefficients" 759), (vs "/claim/cut.py" 760), (vi 309 0), (vi 1 0), (vi 0 0), (vi 0 0), (vi 3 0), (.ref 413), (.bool true), (vi 181 0), (.ref 414), .none, (.ref 415), (.ref 416), (.ref 417), (vi 764 0), (vi 309 0), (vs "/claim/cut.py" 765)]
noncomputable def o419 (_ : Params) : Obj := ⟨(.type "function"), none, (.func (fO (sA 61) "_law_coefficients" "_law_coefficients" 3 [] .none .none .none (vs "law_xm0020_01" 723) none (.ref 418) .none 0)), ⟨[]⟩⟩
noncomputable def o420 (_ : Params) : Obj := tO []
noncomputable def o421 (_ : Params) : Obj := fsO []
noncomputable def o422 (_ : Params) : Obj := ⟨.none, none, (.func (fO (sA 62) "_law_product" "_law_product" 0 [] .none .none .none .none none .none .none 0)), ⟨[]⟩⟩
noncomputable def o423 (_ : Params) : Obj := cO [(vs "_law_product" 767), (vs "_law_product" 768), (vs "/claim/cut.py" 769), (vi 313 0), (vi 1 0), (vi 0 0), (vi 0 0), (vi 3 0), (.ref 420), (.bool true), (vi 181 0), (.ref 421), .none, .none, .none, (.ref 422), (vi 770 0), (vi 313 0), (vs "/claim/cut.py" 771)]
noncomputable def o424 (_ : Params) : Obj := ⟨(.type "function"), none, (.func (fO (sA 62) "_law_product" "_law_product" 3 [] .none .none .none (vs "law_xm0020_01" 723) none (.ref 423) .none 0)), ⟨[]⟩⟩
noncomputable def o425 (_ : Params) : Obj := tO []
noncomputable def o426 (_ : Params) : Obj := fsO []
noncomputable def o427 (_ : Params) : Obj := tO [(vs "coefficients" 776), (vs "found" 777), (vs "which" 778)]
noncomputable def o428 (_ : Params) : Obj := tO []
noncomputable def o429 (_ : Params) : Obj := ⟨.none, none, (.func (fO (sA 63) "_law_sum" "_law_sum" 0 [] .none .none .none .none none .none .none 0)), ⟨[]⟩⟩
noncomputable def o430 (_ : Params) : Obj := cO [(vs "_law_sum" 773), (vs "_law_sum" 774), (vs "/claim/cut.py" 775), (vi 321 0), (vi 1 0), (vi 0 0), (vi 0 0), (vi 3 0), (.ref 425), (.bool true), (vi 181 0), (.ref 426), .none, (.ref 427), (.ref 428), (.ref 429), (vi 779 0), (vi 321 0), (vs "/claim/cut.py" 780)]
noncomputable def o431 (_ : Params) : Obj := ⟨(.type "function"), none, (.func (fO (sA 63) "_law_sum" "_law_sum" 3 [] .none .none .none (vs "law_xm0020_01" 723) none (.ref 430) .none 0)), ⟨[]⟩⟩
noncomputable def o432 (_ : Params) : Obj := tO []
noncomputable def o433 (_ : Params) : Obj := fsO []
noncomputable def o434 (_ : Params) : Obj := tO [(vs "tree" 785), (vs "one" 786), (vs "other" 787)]
noncomputable def o435 (_ : Params) : Obj := tO []
noncomputable def o436 (_ : Params) : Obj := ⟨.none, none, (.func (fO (sA 64) "_law_dual" "_law_dual" 0 [] .none .none .none .none none .none .none 0)), ⟨[]⟩⟩
noncomputable def o437 (_ : Params) : Obj := cO [(vs "_law_dual" 782), (vs "_law_dual" 783), (vs "/claim/cut.py" 784), (vi 327 0), (vi 1 0), (vi 0 0), (vi 0 0), (vi 3 0), (.ref 432), (.bool true), (vi 181 0), (.ref 433), .none, (.ref 434), (.ref 435), (.ref 436), (vi 788 0), (vi 327 0), (vs "/claim/cut.py" 789)]
noncomputable def o438 (_ : Params) : Obj := ⟨(.type "function"), none, (.func (fO (sA 64) "_law_dual" "_law_dual" 3 [] .none .none .none (vs "law_xm0020_01" 723) none (.ref 437) .none 0)), ⟨[]⟩⟩
noncomputable def o439 (_ : Params) : Obj := tO []
noncomputable def o440 (_ : Params) : Obj := fsO []
noncomputable def o441 (_ : Params) : Obj := ⟨.none, none, (.func (fO (sA 65) "law" "law" 0 [] .none .none .none .none none .none .none 0)), ⟨[]⟩⟩
noncomputable def o442 (_ : Params) : Obj := cO [(vs "law" 791), (vs "law" 792), (vs "/claim/cut.py" 793), (vi 336 0), (vi 1 0), (vi 0 0), (vi 0 0), (vi 3 0), (.ref 439), (.bool true), (vi 181 0), (.ref 440), .none, .none, .none, (.ref 441), (vi 794 0), (vi 336 0), (vs "/claim/cut.py" 795)]
noncomputable def o443 (_ : Params) : Obj := ⟨(.type "function"), none, (.func (fO (sA 65) "law" "law" 3 [] .none .none .none (vs "law_xm0020_01" 723) none (.ref 442) .none 0)), ⟨[]⟩⟩
noncomputable def T66 (P : Params) : BT := (.node (boot_o_0 P) (.node (boot_o_1 P) (.node (o3v4 P) (.node (boot_o_7 P) (.node (o15 P) (.node (o31 P) (.node (o63 P) (.node (o127 P) (.node (o255 P) .nil .nil) (.node (o383 P) .nil .nil)) (.node (o191 P) (.node (o319 P) .nil .nil) .nil)) (.node (o95 P) (.node (o159 P) (.node (o287 P) .nil .nil) (.node (o415 P) .nil .nil)) (.node (o223 P) (.node (o351 P) .nil .nil) .nil))) (.node (o47 P) (.node (o79 P) (.node (o143 P) (.node (o271 P) .nil .nil) (.node (o399 P) .nil .nil)) (.node (o207 P) (.node (o335 P) .nil .nil) .nil)) (.node (o111 P) (.node (o175 P) (.node (o303 P) .nil .nil) (.node (o431 P) .nil .nil)) (.node (o239 P) (.node (o367 P) .nil .nil) .nil)))) (.node (o23 P) (.node (o39 P) (.node (o71 P) (.node (o135 P) (.node (o263 P) .nil .nil) (.node (o391 P) .nil .nil)) (.node (o199 P) (.node (o327 P) .nil .nil) .nil)) (.node (o103 P) (.node (o167 P) (.node (o295 P) .nil .nil) (.node (o423 P) .nil .nil)) (.node (o231 P) (.node (o359 P) .nil .nil) .nil))) (.node (o55 P) (.node (o87 P) (.node (o151 P) (.node (o279 P) .nil .nil) (.node (o407 P) .nil .nil)) (.node (o215 P) (.node (o343 P) .nil .nil) .nil)) (.node (o119 P) (.node (o183 P) (.node (o311 P) .nil .nil) (.node (o439 P) .nil .nil)) (.node (o247 P) (.node (o375 P) .nil .nil) .nil))))) (.node (o11 P) (.node (o19 P) (.node (o35 P) (.node (o67 P) (.node (o131 P) (.node (o259 P) .nil .nil) (.node (o387 P) .nil .nil)) (.node (o195 P) (.node (o323 P) .nil .nil) .nil)) (.node (o99 P) (.node (o163 P) (.node (o291 P) .nil .nil) (.node (o419 P) .nil .nil)) (.node (o227 P) (.node (o355 P) .nil .nil) .nil))) (.node (o51 P) (.node (o83 P) (.node (o147 P) (.node (o275 P) .nil .nil) (.node (o403 P) .nil .nil)) (.node (o211 P) (.node (o339 P) .nil .nil) .nil)) (.node (o115 P) (.node (o179 P) (.node (o307 P) .nil .nil) (.node (o435 P) .nil .nil)) (.node (o243 P) (.node (o371 P) .nil .nil) .nil)))) (.node (o27 P) (.node (o43 P) (.node (o75 P) (.node (o139 P) (.node (o267 P) .nil .nil) (.node (o395 P) .nil .nil)) (.node (o203 P) (.node (o331 P) .nil .nil) .nil)) (.node (o107 P) (.node (o171 P) (.node (o299 P) .nil .nil) (.node (o427 P) .nil .nil)) (.node (o235 P) (.node (o363 P) .nil .nil) .nil))) (.node (o59 P) (.node (o91 P) (.node (o155 P) (.node (o283 P) .nil .nil) (.node (o411 P) .nil .nil)) (.node (o219 P) (.node (o347 P) .nil .nil) .nil)) (.node (o123 P) (.node (o187 P) (.node (o315 P) .nil .nil) (.node (o443 P) .nil .nil)) (.node (o251 P) (.node (o379 P) .nil .nil) .nil)))))) (.node (boot_o_5 P) (.node (boot_o_9 P) (.node (o17 P) (.node (o33 P) (.node (o65 P) (.node (o129 P) (.node (o257 P) .nil .nil) (.node (o385 P) .nil .nil)) (.node (o193 P) (.node (o321 P) .nil .nil) .nil)) (.node (o97 P) (.node (o161 P) (.node (o289 P) .nil .nil) (.node (o417 P) .nil .nil)) (.node (o225 P) (.node (o353 P) .nil .nil) .nil))) (.node (o49 P) (.node (o81 P) (.node (o145 P) (.node (o273 P) .nil .nil) (.node (o401 P) .nil .nil)) (.node (o209 P) (.node (o337 P) .nil .nil) .nil)) (.node (o113 P) (.node (o177 P) (.node (o305 P) .nil .nil) (.node (o433 P) .nil .nil)) (.node (o241 P) (.node (o369 P) .nil .nil) .nil)))) (.node (o25 P) (.node (o41 P) (.node (o73 P) (.node (o137 P) (.node (o265 P) .nil .nil) (.node (o393 P) .nil .nil)) (.node (o201 P) (.node (o329 P) .nil .nil) .nil)) (.node (o105 P) (.node (o169 P) (.node (o297 P) .nil .nil) (.node (o425 P) .nil .nil)) (.node (o233 P) (.node (o361 P) .nil .nil) .nil))) (.node (o57 P) (.node (o89 P) (.node (o153 P) (.node (o281 P) .nil .nil) (.node (o409 P) .nil .nil)) (.node (o217 P) (.node (o345 P) .nil .nil) .nil)) (.node (o121 P) (.node (o185 P) (.node (o313 P) .nil .nil) (.node (o441 P) .nil .nil)) (.node (o249 P) (.node (o377 P) .nil .nil) .nil))))) (.node (o13 P) (.node (o21 P) (.node (o37 P) (.node (o69 P) (.node (o133 P) (.node (o261 P) .nil .nil) (.node (o389 P) .nil .nil)) (.node (o197 P) (.node (o325 P) .nil .nil) .nil)) (.node (o101 P) (.node (o165 P) (.node (o293 P) .nil .nil) (.node (o421 P) .nil .nil)) (.node (o229 P) (.node (o357 P) .nil .nil) .nil))) (.node (o53 P) (.node (o85 P) (.node (o149 P) (.node (o277 P) .nil .nil) (.node (o405 P) .nil .nil)) (.node (o213 P) (.node (o341 P) .nil .nil) .nil)) (.node (o117 P) (.node (o181 P) (.node (o309 P) .nil .nil) (.node (o437 P) .nil .nil)) (.node (o245 P) (.node (o373 P) .nil .nil) .nil)))) (.node (o29 P) (.node (o45 P) (.node (o77 P) (.node (o141 P) (.node (o269 P) .nil .nil) (.node (o397 P) .nil .nil)) (.node (o205 P) (.node (o333 P) .nil .nil) .nil)) (.node (o109 P) (.node (o173 P) (.node (o301 P) .nil .nil) (.node (o429 P) .nil .nil)) (.node (o237 P) (.node (o365 P) .nil .nil) .nil))) (.node (o61 P) (.node (o93 P) (.node (o157 P) (.node (o285 P) .nil .nil) (.node (o413 P) .nil .nil)) (.node (o221 P) (.node (o349 P) .nil .nil) .nil)) (.node (o125 P) (.node (o189 P) (.node (o317 P) .nil .nil) .nil) (.node (o253 P) (.node (o381 P) .nil .nil) .nil))))))) (.node (o2v1 P) (.node (boot_o_4 P) (.node (boot_o_8 P) (.node (o16 P) (.node (o32 P) (.node (o64 P) (.node (o128 P) (.node (o256 P) .nil .nil) (.node (o384 P) .nil .nil)) (.node (o192 P) (.node (o320 P) .nil .nil) .nil)) (.node (o96 P) (.node (o160 P) (.node (o288 P) .nil .nil) (.node (o416 P) .nil .nil)) (.node (o224 P) (.node (o352 P) .nil .nil) .nil))) (.node (o48 P) (.node (o80 P) (.node (o144 P) (.node (o272 P) .nil .nil) (.node (o400 P) .nil .nil)) (.node (o208 P) (.node (o336 P) .nil .nil) .nil)) (.node (o112 P) (.node (o176 P) (.node (o304 P) .nil .nil) (.node (o432 P) .nil .nil)) (.node (o240 P) (.node (o368 P) .nil .nil) .nil)))) (.node (o24 P) (.node (o40 P) (.node (o72 P) (.node (o136 P) (.node (o264 P) .nil .nil) (.node (o392 P) .nil .nil)) (.node (o200 P) (.node (o328 P) .nil .nil) .nil)) (.node (o104 P) (.node (o168 P) (.node (o296 P) .nil .nil) (.node (o424 P) .nil .nil)) (.node (o232 P) (.node (o360 P) .nil .nil) .nil))) (.node (o56 P) (.node (o88 P) (.node (o152 P) (.node (o280 P) .nil .nil) (.node (o408 P) .nil .nil)) (.node (o216 P) (.node (o344 P) .nil .nil) .nil)) (.node (o120 P) (.node (o184 P) (.node (o312 P) .nil .nil) (.node (o440 P) .nil .nil)) (.node (o248 P) (.node (o376 P) .nil .nil) .nil))))) (.node (o12v4 P) (.node (o20 P) (.node (o36 P) (.node (o68 P) (.node (o132 P) (.node (o260 P) .nil .nil) (.node (o388 P) .nil .nil)) (.node (o196 P) (.node (o324 P) .nil .nil) .nil)) (.node (o100 P) (.node (o164 P) (.node (o292 P) .nil .nil) (.node (o420 P) .nil .nil)) (.node (o228 P) (.node (o356 P) .nil .nil) .nil))) (.node (o52 P) (.node (o84 P) (.node (o148 P) (.node (o276 P) .nil .nil) (.node (o404 P) .nil .nil)) (.node (o212 P) (.node (o340 P) .nil .nil) .nil)) (.node (o116 P) (.node (o180 P) (.node (o308 P) .nil .nil) (.node (o436 P) .nil .nil)) (.node (o244 P) (.node (o372 P) .nil .nil) .nil)))) (.node (o28 P) (.node (o44 P) (.node (o76 P) (.node (o140 P) (.node (o268 P) .nil .nil) (.node (o396 P) .nil .nil)) (.node (o204 P) (.node (o332 P) .nil .nil) .nil)) (.node (o108 P) (.node (o172 P) (.node (o300 P) .nil .nil) (.node (o428 P) .nil .nil)) (.node (o236 P) (.node (o364 P) .nil .nil) .nil))) (.node (o60 P) (.node (o92 P) (.node (o156 P) (.node (o284 P) .nil .nil) (.node (o412 P) .nil .nil)) (.node (o220 P) (.node (o348 P) .nil .nil) .nil)) (.node (o124 P) (.node (o188 P) (.node (o316 P) .nil .nil) .nil) (.node (o252 P) (.node (o380 P) .nil .nil) .nil)))))) (.node (boot_o_6 P) (.node (boot_o_10 P) (.node (o18 P) (.node (o34 P) (.node (o66 P) (.node (o130 P) (.node (o258 P) .nil .nil) (.node (o386 P) .nil .nil)) (.node (o194 P) (.node (o322 P) .nil .nil) .nil)) (.node (o98 P) (.node (o162 P) (.node (o290 P) .nil .nil) (.node (o418 P) .nil .nil)) (.node (o226 P) (.node (o354 P) .nil .nil) .nil))) (.node (o50 P) (.node (o82 P) (.node (o146 P) (.node (o274 P) .nil .nil) (.node (o402 P) .nil .nil)) (.node (o210 P) (.node (o338 P) .nil .nil) .nil)) (.node (o114 P) (.node (o178 P) (.node (o306 P) .nil .nil) (.node (o434 P) .nil .nil)) (.node (o242 P) (.node (o370 P) .nil .nil) .nil)))) (.node (o26 P) (.node (o42 P) (.node (o74 P) (.node (o138 P) (.node (o266 P) .nil .nil) (.node (o394 P) .nil .nil)) (.node (o202 P) (.node (o330 P) .nil .nil) .nil)) (.node (o106 P) (.node (o170 P) (.node (o298 P) .nil .nil) (.node (o426 P) .nil .nil)) (.node (o234 P) (.node (o362 P) .nil .nil) .nil))) (.node (o58 P) (.node (o90 P) (.node (o154 P) (.node (o282 P) .nil .nil) (.node (o410 P) .nil .nil)) (.node (o218 P) (.node (o346 P) .nil .nil) .nil)) (.node (o122 P) (.node (o186 P) (.node (o314 P) .nil .nil) (.node (o442 P) .nil .nil)) (.node (o250 P) (.node (o378 P) .nil .nil) .nil))))) (.node (o14 P) (.node (o22 P) (.node (o38 P) (.node (o70 P) (.node (o134 P) (.node (o262 P) .nil .nil) (.node (o390 P) .nil .nil)) (.node (o198 P) (.node (o326 P) .nil .nil) .nil)) (.node (o102 P) (.node (o166 P) (.node (o294 P) .nil .nil) (.node (o422 P) .nil .nil)) (.node (o230 P) (.node (o358 P) .nil .nil) .nil))) (.node (o54 P) (.node (o86 P) (.node (o150 P) (.node (o278 P) .nil .nil) (.node (o406 P) .nil .nil)) (.node (o214 P) (.node (o342 P) .nil .nil) .nil)) (.node (o118 P) (.node (o182 P) (.node (o310 P) .nil .nil) (.node (o438 P) .nil .nil)) (.node (o246 P) (.node (o374 P) .nil .nil) .nil)))) (.node (o30 P) (.node (o46 P) (.node (o78 P) (.node (o142 P) (.node (o270 P) .nil .nil) (.node (o398 P) .nil .nil)) (.node (o206 P) (.node (o334 P) .nil .nil) .nil)) (.node (o110 P) (.node (o174 P) (.node (o302 P) .nil .nil) (.node (o430 P) .nil .nil)) (.node (o238 P) (.node (o366 P) .nil .nil) .nil))) (.node (o62 P) (.node (o94 P) (.node (o158 P) (.node (o286 P) .nil .nil) (.node (o414 P) .nil .nil)) (.node (o222 P) (.node (o350 P) .nil .nil) .nil)) (.node (o126 P) (.node (o190 P) (.node (o318 P) .nil .nil) .nil) (.node (o254 P) (.node (o382 P) .nil .nil) .nil))))))))
noncomputable def S66 (w : World) (os : OsState) : SharedT := ⟨T66 w.params, 444, lifeM, ⟨[]⟩, ⟨0, 0, 0, 0⟩, 797, os⟩
noncomputable def envM : Env := { scope := Pg.main.scope, locals := mainNs, globals := mainNs, cells := [], code := (.ref 13), frame := some 14 }
noncomputable def cM : Code := .body bE envM
noncomputable def qM : Pos := ⟨0, 0, 0, 0⟩
noncomputable def p0M : Pos := ⟨0, 0, 0, 0⟩
noncomputable def pBM : Pos := ⟨0, 0, 0, 0⟩
-- ann some (PySem.Value.ref 6) pre 12 block 0 fin 1; drawn0 0 toks0 181
noncomputable def p1M : Pos := ⟨4, 0, 9, 24⟩
noncomputable def l1 : List Stmt := (bE.drop 0).take 4
theorem piece1 (w : World) (os : OsState) : segRunT treeTable Pg w 11 annM 1 276 (Sa w os) (piecesOf l1 envM cM pBM [topFrame qM]) = some (.next, S4 w os, cM, p1M) := by kernel_rfl
noncomputable def p2M : Pos := ⟨240, 0, 252, 20⟩
noncomputable def l2 : List Stmt := (bE.drop 4).take 50
theorem piece2 (w : World) (os : OsState) : segRunT treeTable Pg w 11 annM 1 1397 (S4 w os) (piecesOf l2 envM cM p1M [topFrame qM]) = some (.next, S54 w os, cM, p2M) := by kernel_rfl
noncomputable def p3M : Pos := ⟨254, 0, 282, 42⟩
noncomputable def l3 : List Stmt := (bE.drop 54).take 2
theorem piece3 (w : World) (os : OsState) : segRunT treeTable Pg w 11 annM 1 403 (S54 w os) (piecesOf l3 envM cM p2M [topFrame qM]) = some (.next, S56 w os, cM, p3M) := by kernel_rfl
noncomputable def p4M : Pos := ⟨336, 0, 346, 110⟩
noncomputable def l4 : List Stmt := (bE.drop 56).take 10
theorem piece4 (w : World) (os : OsState) : segRunT treeTable Pg w 11 annM 1 274 (S56 w os) (piecesOf l4 envM cM p3M [topFrame qM]) = some (.next, S66 w os, cM, p4M) := by kernel_rfl
-- steps #[276, 1397, 403, 274]
theorem pre_run (w : World) (os : OsState) : topGo treeTable Pg w 11 annM 12 ⟨boot_heap w.params, #[], boot_drawn, boot_toks, os⟩ (topStub Pg) = some ((Sa w os).abs, ⟨denote treeTable cM, cM, p0M, [topFrame qM]⟩) := by kernel_rfl
theorem blk_run (w : World) (os : OsState) : segRun treeTable Pg w 11 annM 1 1 (Sa w os).abs (blockOf bE envM cM p0M [topFrame qM]) = some (.next, (Sa w os).abs, cM, pBM) := by kernel_rfl
theorem fin_run (w : World) (os : OsState) : topRun treeTable Pg w 11 annM 2 (S66 w os).abs ⟨doneF .next, cM, p4M, [topFrame qM]⟩ = some (S66 w os).abs := by kernel_rfl
theorem bE_is : bE = l1 ++ (l2 ++ (l3 ++ (l4 ++ []))) := by kernel_rfl
theorem run_all (w : World) (os : OsState) : topRun treeTable Pg w 11 annM (12 + (1 + (276 + (1397 + (403 + (274 + 2)))))) ⟨boot_heap w.params, #[], boot_drawn, boot_toks, os⟩ (topStub Pg) = some (S66 w os).abs := by
  refine go_top (pre_run w os) (piece_block (blk_run w os) ?_)
  have h := piece_app (rest := []) (segRun_of (piece4 w os)) (piece_nil (fin_run w os))
  have h := piece_app (segRun_of (piece3 w os)) h
  have h := piece_app (segRun_of (piece2 w os)) h
  have h := piece_app (segRun_of (piece1 w os)) h
  have e := congrArg (fun l => restOf l envM cM pBM [topFrame qM]) bE_is
  exact (congrArg (topRun treeTable Pg w 11 annM _ (Sa w os).abs) e).trans h
end HH
noncomputable def vw : Program := view PySem.Challenge.rw_xm0020_01.row.prog [1, 2, 3, 4, 5, 6, 7, 8, 9, 10, 11, 12, 13, 15, 16, 17, 18, 19, 20, 21, 22, 23, 24, 25, 26, 28, 29, 30, 31, 32, 33, 34, 35, 36, 37, 38, 39, 40, 42, 44, 45, 46, 47, 48, 49, 50, 51, 52, 53, 55, 57, 58, 59, 60, 61, 62, 63, 64, 65]
noncomputable def xt (s : Shared) : Bool := xlAt vw [] s && recOk (RowW.records (OpenRow.toRowW (OpenLaw.row PySem.Challenge.rw_xm0020_01))) s
noncomputable abbrev hF (P : Params) : Heap := absHeap (HH.T66 P) 444 HH.lifeM
noncomputable abbrev sF (w : World) (os : OsState) : Shared := ⟨hF w.params, ⟨[]⟩, ⟨0, 0, 0, 0⟩, 797, os⟩
theorem looks1 (w : World) (os : OsState) : (staticsOk (importedModules Pg.main.body) (boot_heap w.params) (hF w.params) && namesBound Pg (hF w.params) && gensDone (sF w os) && laidKept (boot_heap w.params) (hF w.params)) = true := by kernel_rfl
theorem looks2 (w : World) (os : OsState) : seen ((recsOf vw).map (·.name)) (ownsOf vw) [] { sF w os with gens := #[] } = expectedOf vw := by kernel_rfl
theorem looks3 (w : World) (os : OsState) : (openSeen vw [Str.ofString "BasicError"] (importedModules Pg.main.body) xt true (sF w os)).2 = (openGood vw [Str.ofString "BasicError"]).2 := by kernel_rfl
theorem opened : ∀ w : World, (fencedOpening treeTable Pg w 4818).map (fun s => (s.heap, s.gens, s.drawn, s.toks)) = some (boot_heap w.params, Array.mk [], boot_drawn, boot_toks) := boot_open (by kernel_rfl) (by decide +kernel) (fun _ => by kernel_rfl)
theorem left_of (H : Hook) (y : ∀ w : World, (fun os => H.obs (sF w os)) = fun _ => H.val w) : LeftO Pg vw [Str.ofString "BasicError"] xt H.obs H.val 4818 :=
  LeftO.of_pieces (H₁ := hF) (gs₁ := ⟨[]⟩) (d₁ := ⟨0, 0, 0, 0⟩) (k₁ := 797) (m₀ := 11) (ann := HH.annM) opened (fun _ => by kernel_rfl) HH.run_all (by decide +kernel)
    (fun w => funext fun os => Prod.ext (looks1 w os) (Prod.ext (Prod.ext (looks2 w os) (looks3 w os)) (congrFun (y w) os)))
theorem lo1 : (sreFenced Pg.main && ((moduleNames Pg.main.body).isEmpty || lookedIntoSs (moduleNames Pg.main.body) Pg.main.body)) = true := by kernel_rfl
theorem lo2 : namesResolve Pg = true := by kernel_rfl
theorem lo3 : (Pg.boundNames.all (fun n => !worldNames.contains n)) = true := by kernel_rfl
theorem lo4 : noRoadLSs { strict := !(importedModules Pg.main.body).all cThrough.contains, foot := none, bare := (["vars", "dir", "locals"] : List Str).filter (readsOut Pg Pg.main.body) } Pg.main.body = true := by kernel_rfl
theorem lo5 : (namesMeet Pg Pg.main.body fun _ n => attrL n) = true := by kernel_rfl
theorem lo_all : looksOpen Pg = true := by
  unfold looksOpen
  exact look_both (look_both (look_both (look_both lo1 lo2) lo3) lo4) lo5
theorem part_said : PySem.Challenge.rw_xm0020_01.row.partSaid = true := by
  unfold OpenRow.partSaid
  rw [lo_all]
  kernel_rfl
theorem ws1 : PySem.Challenge.rw_xm0020_01.row.wellSaid = true := by
  unfold OpenRow.wellSaid
  rw [part_said]
  kernel_rfl
theorem ws_all : PySem.Challenge.rw_xm0020_01.wellSaid = true := by
  unfold OpenLaw.wellSaid
  rw [ws1]
  kernel_rfl
theorem ok1 : (chainsOk vw && opensWell Pg && (frees PySem.Challenge.rw_xm0020_01.row.toRowW && PySem.Challenge.rw_xm0020_01.row.toRowW.within.isEmpty)) = true := by kernel_rfl
theorem bare1 : Pg.bare := ⟨rfl, rfl, rfl, rfl, rfl, by decide +kernel⟩
theorem xt_xl : ∀ s, xt s = true → XL vw [] (s.heap.nsMap mainGlobals) s.heap := fun s e => xl_of s (Bool.and_eq_true_iff.mp e).1
theorem xt_rec : ∀ s, xt s = true → RecFacts PySem.Challenge.rw_xm0020_01.row.toRowW.records s.heap := fun _ e => recFacts_of (Bool.and_eq_true_iff.mp e).2
local macro_rules | `(tactic| o_law) => `(tactic| refine holds_law ws_all fun said => ?_)
local macro_rules | `(tactic| k_qdec) => `(tactic| kernel_rfl)
local macro_rules | `(tactic| o_head $H) => `(tactic| refine holds_open (YP := Hook.says $H) (left_of $H fun _ => by kernel_rfl) (Hook.of $H) (Hook.keeps $H) xt_xl XL.keeps (by rfl) (by rfl) (by rfl) xt_rec (by rfl) ws1 ok1 bare1 ?hw ?hc)
open_top hd for PySem.Challenge.rw_xm0020_01
end PartHd
section PartBase
open PySem PySem.W PyProof.Rows PySem.Spec PySem.Calls

theorem room_of {dp k n : Nat} (h : dp + k < recursionLimit) (hn : n ≤ k) : dp + n < recursionLimit := Nat.lt_of_le_of_lt (Nat.add_le_add_left hn dp) h
theorem room_of1 {dp k m n : Nat} (h : dp + k < recursionLimit) (hn : m + n ≤ k) : dp + m + n < recursionLimit := by rw [Nat.add_assoc]; exact room_of h hn
theorem units_of {un k n : Nat} (h : un + k < cLine) (hn : n ≤ k) : un + n < cLine := Nat.lt_of_le_of_lt (Nat.add_le_add_left hn un) h
theorem units_of1 {un k m n : Nat} (h : un + k < cLine) (hn : m + n ≤ k) : un + m + n < cLine := by rw [Nat.add_assoc]; exact units_of h hn
inductive Op where | and | or | xor | eqv | imp
noncomputable def Op.str : Op → Str
  | .and => Str.ofString "AND" | .or => Str.ofString "OR" | .xor => Str.ofString "XOR" | .eqv => Str.ofString "EQV" | .imp => Str.ofString "IMP"
inductive Nm where | a | b | c
noncomputable def Nm.str : Nm → Str
  | .a => Str.ofString "A" | .b => Str.ofString "B" | .c => Str.ofString "C"
noncomputable def Nm.num : Nm → Nat
  | .a => 0 | .b => 1 | .c => 2
/-- a tree of logic -/
inductive Tr where
  | nm (n : Nm)
  | zero
  | not (t : Tr)
  | two (o : Op) (l r : Tr)
noncomputable def Tr.size : Tr → Nat
  | .nm _ => 1 | .zero => 1 | .not t => t.size + 1 | .two _ l r => l.size + r.size + 1
noncomputable abbrev tupO (vs : Array Value) (n : Nat) : Obj := { cls := .type "tuple", data := .seq vs n }
/-- the ledger bears the tree at v -/
inductive TrIn (news : List (Addr × Obj)) : Value → Tr → Prop where
  | nm {a : Addr} {t u : Tok} {n : Nat} (x : Nm) : (a, ({ cls := .type "tuple", data := .seq #[.str (Str.ofString "name") t, .str x.str u] n } : Obj)) ∈ news → TrIn news (.ref a) (.nm x)
  | zero {a : Addr} {t u : Tok} {n : Nat} : (a, ({ cls := .type "tuple", data := .seq #[.str (Str.ofString "whole") t, .int 0 u] n } : Obj)) ∈ news → TrIn news (.ref a) .zero
  | not {a : Addr} {t : Tok} {v : Value} {n : Nat} {x : Tr} : (a, ({ cls := .type "tuple", data := .seq #[.str (Str.ofString "not") t, v] n } : Obj)) ∈ news → TrIn news v x → TrIn news (.ref a) (.not x)
  | two {a : Addr} {t u : Tok} {v w : Value} {n : Nat} {l r : Tr} (o : Op) : (a, ({ cls := .type "tuple", data := .seq #[.str (Str.ofString "two") t, .str o.str u, v, w] n } : Obj)) ∈ news → TrIn news v l → TrIn news w r → TrIn news (.ref a) (.two o l r)
theorem TrIn.mono {news news' : List (Addr × Obj)} {v : Value} {t : Tr} (h : TrIn news v t) (hs : ∀ p ∈ news, p ∈ news') : TrIn news' v t := by
  induction h with
  | nm x hm => exact .nm x (hs _ hm)
  | zero hm => exact .zero (hs _ hm)
  | not hm _ ih => exact .not (hs _ hm) ih
  | two o hm _ _ ih1 ih2 => exact .two o (hs _ hm) ih1 ih2

noncomputable abbrev LL : List Str := looseW vw [Str.ofString "BasicError"]

/-- the truth at a row of the table -/
noncomputable def Op.tr : Op → Int → Int → Int
  | .and, x, y => x * y
  | .or, x, y => if y > x then y else x
  | .imp, x, y => if y > 1 - x then y else 1 - x
  | .eqv, x, y => if x = y then 1 else 0
  | .xor, x, y => if x = y then 0 else 1
noncomputable def Tr.truth (k : Int) : Tr → Int
  | .nm n => k / (2 ^ n.num) % 2
  | .zero => 0
  | .not t => 1 - t.truth k
  | .two o l r => o.tr (l.truth k) (r.truth k)
theorem news_sub {h₀ h : Heap} {L : Addr} {a b : List (Addr × Obj)} (N : News h₀ L h b) (hs : ∀ p ∈ a, p ∈ b) : News h₀ L h a := fun p hp => N p (hs p hp)
theorem ord_cons {news tl tl' : List (Addr × Obj)} {a : Addr} {o : Obj} (h : AllLt a (news ++ tl')) (k : ∀ q ∈ news, ∀ p ∈ tl, q.1 < p.1) : ∀ q ∈ news, ∀ p ∈ (a, o) :: tl, q.1 < p.1 := by
  intro q hq p hp
  rcases List.mem_cons.mp hp with rfl | hp
  · exact ktn_ltOf h q (List.mem_append_left _ hq)
  · exact k q hq p hp
theorem mem2 {q r : Addr × Obj} {news tl : List (Addr × Obj)} : r ∈ news ++ (q :: r :: tl) := List.mem_append.mpr (.inr (.tail _ (.head _)))
theorem sub2 {q r : Addr × Obj} {news tl : List (Addr × Obj)} : ∀ p ∈ news ++ tl, p ∈ news ++ (q :: r :: tl) := fun _ hp => (List.mem_append.mp hp).elim (fun h => List.mem_append.mpr (.inl h)) fun h => List.mem_append.mpr (.inr (.tail _ (.tail _ h)))
theorem sub2D {q r : Addr × Obj} {news tl tl' : List (Addr × Obj)} : ∀ p ∈ news ++ tl, p ∈ news ++ (q :: r :: (tl ++ tl')) := fun p hp => sub2 p (ktn_subC p hp)
theorem tl_keep1 {h₀ h : Heap} {L : Addr} {q : Addr × Obj} {pre news tl : List (Addr × Obj)} (N : News h₀ L h (q :: (pre ++ (news ++ tl)))) : News h₀ L h (news ++ (q :: tl)) := news_sub N (by
  intro p hp
  simp only [List.mem_append, List.mem_cons] at hp ⊢
  rcases hp with h | h | h <;> simp only [h, true_or, or_true])
theorem tl_keep2 {h₀ h : Heap} {L : Addr} {q r : Addr × Obj} {pre news tl : List (Addr × Obj)} (N : News h₀ L h (q :: r :: (pre ++ (news ++ tl)))) : News h₀ L h (news ++ (q :: r :: tl)) := news_sub N (by
  intro p hp
  simp only [List.mem_append, List.mem_cons] at hp ⊢
  rcases hp with h | h | h | h <;> simp only [h, true_or, or_true])
theorem news_drop {h₀ h : Heap} {L : Addr} (pre : List (Addr × Obj)) {news : List (Addr × Obj)} (N : News h₀ L h (pre ++ news)) : News h₀ L h news := news_sub N fun _ hp => List.mem_append_right _ hp
theorem eq_same {prog : Program} {w : World} {A : Around} {E : Value → Shared → Prop} {s : Shared} {x : Str} {t u : Tok} {Q : Value → Shared → Prop} (k : Q (.bool true) s) : wpAny (model prog w) A (compareOp .Eq (.str x t) (.str x u)) Q E s := PyProof.Rows.eq_str (by rw [beq_self_eq_true]; exact k)
theorem eq_diff {prog : Program} {w : World} {A : Around} {E : Value → Shared → Prop} {s : Shared} {x y : Str} {t u : Tok} {Q : Value → Shared → Prop} (h : (x == y) = false) (k : Q (.bool false) s) : wpAny (model prog w) A (compareOp .Eq (.str x t) (.str y u)) Q E s := PyProof.Rows.eq_str (by rw [h]; exact k)
theorem item_lit {prog : Program} {w : World} {A : Around} {E : Value → Shared → Prop} {s : Shared} {h₀ : Heap} {L l : Addr} {news : List (Addr × Obj)} {n : Nat} {value slice : PySem.Expr} {k : Int} {x : Value} {vs : List Value} {u : Tok} {Q : Value → Shared → Prop} (N : News h₀ L s.heap news) (hm : (l, listOf vs.toArray n) ∈ news)
    (h0 : 0 ≤ k) (h1 : k < 2 ^ 63) (hx : vs[k.toNat]? = some x) (h : Q x s)
    (hs : subscripted slice false (.ref l) (.int k u) = operate [.ref l, .int k u] (getItem (.ref l) (.int k u)) := by with_unfolding_all rfl) (hg : ∀ r, letTemporaryGo value (.ref l) r = pure () := by intro _; with_unfolding_all rfl) :
    wpAny (model prog w) A (subscriptTail value slice (.ref l) (.int k u)) Q E s :=
  item_listL (News.isList N hm) h0 h1 hx h hs hg
theorem z0 {α : Type} {l : List α} (h : l.length ≤ 199999) : l.length ≤ 200000 := Nat.le_succ_of_le h
theorem z1 {α : Type} {l : List α} {x : α} (h : l.length ≤ 199999) : (l ++ [x]).length ≤ 200000 := by rw [List.length_append, List.length_singleton]; omega
theorem qa {k : Int} (h : 0 ≤ k) : 0 ≤ k + 1 := by omega
theorem qb {k : Int} (h : 0 ≤ k) : 0 ≤ k + 1 + 1 := by omega
theorem qc {k : Int} (h : k ≤ 100) : k ≤ 1000 := by omega
theorem qd {k : Int} (h : k ≤ 100) : k + 1 ≤ 1000 := by omega
theorem qe {k : Int} (h : k ≤ 100) : k + 1 + 1 ≤ 1000 := by omega
theorem qf {n : Nat} : (1 : Int) ≤ (n : Int) + 1 := by omega
theorem qg {n : Nat} (h : n ≤ 6) : (n : Int) + 1 ≤ 65536 := by omega
theorem q2l : (1 : Int) ≤ 2 := by decide
theorem q2h : (2 : Int) ≤ 65536 := by decide
theorem q6l : (1 : Int) ≤ 6 := by decide
theorem q6h : (6 : Int) ≤ 65536 := by decide
end PartBase
local macro_rules | `(tactic| walk_at "my r") => `(tactic| ((iterate 15 (try (first | with_reducible assumption | apply And.right))); done))
local macro_rules | `(tactic| walk_at "my conj") => `(tactic| first
  | with_reducible assumption
  | (apply And.left; walk_at "my r")
  | (apply And.right; walk_at "my r")
  | (apply And.left; apply And.left; walk_at "my r")
  | (apply And.left; apply And.right; apply And.left; walk_at "my r")
  | (apply And.right; apply And.right; apply And.left; walk_at "my r"))
local macro_rules | `(tactic| k_ne) => `(tactic| (refine neN ?_; (try dsimp only); first | with_reducible assumption | exact Ne.symm (by with_reducible assumption) | exact Nat.ne_of_gt (by walk_at "my conj") | exact Nat.ne_of_lt (by walk_at "my conj") | walk_at "my conj" | exact Ne.symm (by walk_at "my conj") | omega))
local macro_rules | `(tactic| ktr_room) => `(tactic| first | exact room_of (by assumption) (Nat.le_of_ble_eq_true rfl) | exact room_of1 (by assumption) (Nat.le_of_ble_eq_true rfl) | fail "room")
local macro_rules | `(tactic| ktr_units) => `(tactic| first | exact units_of (by assumption) (Nat.le_of_ble_eq_true rfl) | exact units_of1 (by assumption) (Nat.le_of_ble_eq_true rfl) | fail "units")
local macro_rules | `(tactic| k_qdec) => `(tactic| kernel_rfl)
local macro_rules | `(tactic| walk_at "exec If") => `(tactic| (k_here; refine wpAny_If ?_))
local macro_rules | `(tactic| walk_at "my D") => `(tactic| (intro D' h' F' N' l1; (try k_lt l1); (try k_sweep)))
local macro_rules | `(tactic| walk_at "my z") => `(tactic| first | exact z0 (by with_reducible assumption) | exact z1 (by with_reducible assumption) | omega | (simp only [List.length_append, List.length_cons, List.length_nil]; omega))
local macro_rules | `(tactic| walk_at "my ForV") => `(tactic| (k_here; (rename Fr _ _ _ _ => lF'); (with_unfolding_all refine' For_invVF lF' ?k1 ?k2 ?_; (case k1 | k2 => exact rfl); k_whole)))
local macro_rules | `(tactic| walk_at "my nt") => `(tactic| (k_here; k_dflt (refine' kup_newTuple ?F ?N ?_ ?z; (case F | N => k_asm); (case z => kmk_size)); walk_at "my D"))
local macro_rules | `(tactic| walk_at "my d2") => `(tactic| (intro h' tk' d' o' F' N' l1 lo' hd' hf' ap'; (try k_lt l1); (try dsimp only [List.map_cons, List.map_nil] at hd' hf')))
local macro_rules | `(tactic| walk_at "my CE") => `(tactic| (k_dflt (first
  | (refine' compEnd0 ?F ?N ?o ?S ?_; (case F | N | o => assumption); (case S => lcg_src))
  | (refine' compEnd1 ?F ?N ?o ?S ?_; (case F | N => assumption); (case o => (refine And.intro ⟨by k_ne, by k_ne, by k_ne⟩ ?_; assumption)); (case S => lcg_src)))))
local macro_rules | `(tactic| walk_at "subscriptTail Name Constant ref int") => `(tactic| (k_here; (with_reducible show wpAny _ _ (subscriptTail _ _ (Value.ref _) (Value.int _ _)) _ _ _); k_dflt (refine' item_tupleT ?t ?a ?b ?c ?d ?_; (case t => exact News.isTup (by k_asm) (by kd_lift)); (case a | b => decide); (case c | d => rfl); k_whole)))
local macro_rules | `(tactic| walk_at "compareOp Eq str str") => `(tactic| (k_here; first | refine eq_same ?_ | (refine eq_diff ?h ?_; (case h => kernel_rfl))))
local macro_rules | `(tactic| walk_at "ite") => `(tactic| first | refine ite_tt ?_ | refine ite_ff ?_)
local macro_rules | `(tactic| walk_at "my q") => `(tactic| first | with_reducible first | assumption | exact q2l | exact q2h | exact q6l | exact q6h | exact qc (by assumption) | exact qa (by assumption) | exact qd (by assumption) | exact qb (by assumption) | exact qe (by assumption) | exact qf | exact qg (by assumption) | omega)
local macro_rules | `(tactic| walk_at "my name") => `(tactic| (k_here; k_dflt (refine' nameX_L ?F ?v ?_ ?a ?b; (case b => kernel_rfl); (case a => rfl); (case F => k_asm); (case v => rfl); k_whole)))
section PartCTruth
open PySem PySem.W PyProof.Rows PySem.Spec PySem.Calls
noncomputable def noZero : Tr → Prop
  | .nm _ => True | .zero => False | .not t => noZero t | .two _ l r => noZero l ∧ noZero r
theorem truth01 (k : Int) : ∀ t : Tr, 0 ≤ t.truth k ∧ t.truth k ≤ 1
  | .nm n => by unfold Tr.truth; omega
  | .zero => by unfold Tr.truth; omega
  | .not t => by have := truth01 k t; unfold Tr.truth; omega
  | .two o l r => by
    have h1 := truth01 k l
    have h2 := truth01 k r
    unfold Tr.truth
    generalize l.truth k = x at *
    generalize r.truth k = y at *
    have hx : x = 0 ∨ x = 1 := by omega
    have hy : y = 0 ∨ y = 1 := by omega
    rcases hx with rfl | rfl <;> rcases hy with rfl | rfl <;> cases o <;> decide
theorem fd_nm {k : Int} (h0 : 0 ≤ k) (h8 : k < 8) (n : Nat) (hn : n < 3) : (k.fdiv (2 ^ n)).fmod 2 = k / 2 ^ n % 2 := by
  rw [Int.fdiv_eq_ediv_of_nonneg _ (Int.pow_nonneg (show (0:Int) ≤ 2 by decide)), Int.fmod_eq_emod_of_nonneg _ (by decide)]
theorem tr_b {x y : Int} {u v : Str} {b : Bool} (h : ((x == y) == (u == v)) = b) (hs : (u == v) = false) : (x = y ↔ b = false) := by
  rw [hs] at h
  rw [← h]
  simp
theorem tr_c {x y : Int} {u v : Str} {b : Bool} (h : ((x == y) == (u == v)) = b) (hs : (u == v) = true) : (x = y ↔ b = true) := by
  rw [hs] at h
  rw [← h]
  simp
theorem tr_x1 {x y : Int} (h : ((x == y) == (Str.ofString "XOR" == Str.ofString "EQV")) = true) : 1 = Op.tr .xor x y := by
  have := tr_b h (by decide +kernel)
  show 1 = if x = y then 0 else 1
  rw [if_neg (by simp [this])]
theorem tr_x0 {x y : Int} (h : ((x == y) == (Str.ofString "XOR" == Str.ofString "EQV")) = false) : 0 = Op.tr .xor x y := by
  have := tr_b h (by decide +kernel)
  show 0 = if x = y then 0 else 1
  rw [if_pos (by simp [this])]
theorem tr_e1 {x y : Int} (h : ((x == y) == (Str.ofString "EQV" == Str.ofString "EQV")) = true) : 1 = Op.tr .eqv x y := by
  have := tr_c h (by decide +kernel)
  show 1 = if x = y then 1 else 0
  rw [if_pos (by simp [this])]
theorem tr_e0 {x y : Int} (h : ((x == y) == (Str.ofString "EQV" == Str.ofString "EQV")) = false) : 0 = Op.tr .eqv x y := by
  have := tr_c h (by decide +kernel)
  show 0 = if x = y then 1 else 0
  rw [if_neg (by simp [this])]
inductive TruthIn (news : List (Addr × Obj)) : List Value → Tr × Int → Prop where
  | mk {v : Value} {k : Int} {tk : Tok} {t : Tr} : TrIn news v t → 0 ≤ k → k < 8 → noZero t → TruthIn news [v, .int k tk] (t, k)
noncomputable abbrev truthT : ToldN (Tr × Int) where
  Rel := TruthIn
  Ok := fun _ => True
  size := fun d => d.1.size
  Tl := fun tl => tl = []
  Out := fun _ r d => ∃ tk, r = .int (d.1.truth d.2) tk
theorem c_truth (w : World) (mean : ExcName → Option Value) (mg mb : Str → Option Value) : ∀ d, TellsN PySem.Challenge.rw_xm0020_01.row.prog w (hd.heap_1 w.params) vw (looseW vw [Str.ofString "BasicError"]) mean mg mb 412 truthT d := by
  refine tellsN_of fun d IH => ?_
  unfold TellsN
  k_fill
  w_top off
  k_with_none
  k_with "call ref" => ktn_call (Str.ofString "_law_truth") truthT
  k_with "tree" => simp only [truthT, Tr.size] at *
  intro dp un gd cn cs a ccd cl outer A₀ base h₀ L m news s vs Q E B F X N T hk hR hok hd hu hret
  have hKd := kdMark
  cases hR with
  | mk hT hk0 hk8 hz => ?_
  cases hT with
  | zero _ => exact hz.elim
  | nm x hm =>
    cases x
    all_goals (
    dsimp only [Nm.str] at hm
    refine wpAny_call ?_
    k_dflt ktr_enter
    k_steps
    all_goals simp only [show Txt.find (Str.ofString "ABC") (Str.ofString "A") = 0 from by decide +kernel, show Txt.find (Str.ofString "ABC") (Str.ofString "B") = 1 from by decide +kernel, show Txt.find (Str.ofString "ABC") (Str.ofString "C") = 2 from by decide +kernel] at *
    all_goals (try (exact absurd (by assumption) (by decide)))
    k_steps
    refine hret _ _ _ _ (by k_asm) (ktn_tl0 (by k_asm)) ktn_ord0 rfl ?_
    exact ktn_int (fd_nm hk0 hk8 _ (by decide)))
  | not hm hT1 =>
    replace hz : noZero _ := hz
    unfold noZero at hz
    refine wpAny_call ?_
    k_dflt ktr_enter
    k_steps
    refine hret _ _ _ _ (by k_asm) (ktn_tl0 (by k_asm)) ktn_ord0 rfl ?_
    exact ktn_int rfl
  | @two _ _ _ _ _ _ l r o hm hT1 hT2 =>
    obtain ⟨hz1, hz2⟩ := hz
    obtain ⟨hb1, hb2⟩ := truth01 (by assumption) l
    obtain ⟨hb3, hb4⟩ := truth01 (by assumption) r
    cases o
    all_goals (
    dsimp only [Op.str] at hm
    refine wpAny_call ?_
    k_dflt ktr_enter
    k_steps)
    all_goals refine hret _ [] _ _ (by k_asm) (by first | exact ktn_tl0 (by k_asm) | exact ktn_tl0 (news_drop [_] (by k_asm))) ktn_ord0 rfl ?_
    all_goals first | exact ktn_int rfl | exact ktn_int (tr_x1 (by assumption)) | exact ktn_int (tr_x0 (by assumption)) | exact ktn_int (tr_e1 (by assumption)) | exact ktn_int (tr_e0 (by assumption))
end PartCTruth
section PartCDual
open PySem PySem.W PyProof.Rows PySem.Spec PySem.Calls
noncomputable def Tr.dual : Tr → Tr
  | .nm n => .nm n
  | .zero => .zero
  | .not t => .not t.dual
  | .two .imp l r => .not (.two .imp r.dual l.dual)
  | .two .and l r => .two .or l.dual r.dual
  | .two .or l r => .two .and l.dual r.dual
  | .two .xor l r => .two .eqv l.dual r.dual
  | .two .eqv l r => .two .xor l.dual r.dual
inductive DualIn (news : List (Addr × Obj)) : List Value → Tr → Prop where
  | mk {v : Value} {t : Tr} : TrIn news v t → noZero t → DualIn news [v] t
noncomputable abbrev dualT : ToldN Tr where
  Rel := DualIn
  Ok := fun _ => True
  size := fun d => d.size
  Tl := ktnAny
  Out := fun news r d => TrIn news r d.dual
local macro_rules | `(tactic| walk_at "call type:dict") => `(tactic| (k_here; (with_reducible show wpAny _ _ (call (Value.type "dict") [Value.ref _]) _ _ _); k_dflt (refine' dict_pairs_K [(_, _, _), (_, _, _), (_, _, _), (_, _, _)] ?A ?F ?N ?b ?l ?p ?hk ?hn ?hv ?z ?_; (case A => exact rfl); (case F | N => k_asm); (case b => exact Top.nolimit (by k_asm)); (case l => k_mem); (case p => (repeat' (first | exact List.forall_mem_nil _ | refine List.forall_mem_cons.mpr ⟨?_, ?_⟩ | k_mem))); (case hk => rfl); (case hn => exact of_decide_eq_true (by rfl)); (case hv => rfl); (case z => size_fits); k_whole); walk_at "my d2"))
local macro_rules | `(tactic| walk_at "newTuple") => `(tactic| walk_at "my nt")
theorem c_dual (w : World) (mean : ExcName → Option Value) (mg mb : Str → Option Value) : ∀ d, TellsN PySem.Challenge.rw_xm0020_01.row.prog w (hd.heap_1 w.params) vw (looseW vw [Str.ofString "BasicError"]) mean mg mb 438 dualT d := by
  refine tellsN_of fun d IH => ?_
  unfold TellsN
  k_fill
  w_top off
  k_with_none
  k_with "call ref" => ktn_call (Str.ofString "_law_dual") dualT
  k_with "tree" => simp only [dualT, Tr.size] at *
  intro dp un gd cn cs a ccd cl outer A₀ base h₀ L m news s vs Q E B F X N T hk hR hok hd hu hret
  have hKd := kdMark
  cases hR with
  | mk hT hz => ?_
  cases hT with
  | zero _ => exact hz.elim
  | nm x hm =>
    refine wpAny_call ?_
    k_dflt ktr_enter
    k_steps
    exact hret _ _ _ _ (by k_asm) (ktn_tl0 (by k_asm)) ktn_ord0 trivial (TrIn.nm x (List.mem_append_left _ hm))
  | not hm hT1 =>
    replace hz : noZero _ := hz
    unfold noZero at hz
    refine wpAny_call ?_
    k_dflt ktr_enter
    k_steps
    exact hret _ _ _ _ (by k_asm) (ktn_tl2 (by k_asm)) (ktn_ord2 (by first | tbn_find | ktn_lt) (by assumption)) trivial (TrIn.not ktn_new (TrIn.mono (by assumption) ktn_subB))
  | @two _ _ _ _ _ _ l r o hm hT1 hT2 =>
    obtain ⟨hz1, hz2⟩ := hz
    cases o
    all_goals (
    dsimp only [Op.str] at hm
    refine wpAny_call ?_
    k_dflt ktr_enter
    k_steps)
    · exact hret _ _ _ _ (by k_asm) (tl_keep1 (pre := [_, _, _, _, _, _, _]) (by assumption)) (ktn_ord2 (by tbn_find) (ktn_ordA (by assumption) (by assumption))) trivial (TrIn.two .or ktn_new (TrIn.mono (by assumption) ktn_subD) (TrIn.mono (by assumption) ktn_subB))
    · exact hret _ _ _ _ (by k_asm) (tl_keep1 (pre := [_, _, _, _, _, _, _]) (by assumption)) (ktn_ord2 (by tbn_find) (ktn_ordA (by assumption) (by assumption))) trivial (TrIn.two .and ktn_new (TrIn.mono (by assumption) ktn_subD) (TrIn.mono (by assumption) ktn_subB))
    · exact hret _ _ _ _ (by k_asm) (tl_keep1 (pre := [_, _, _, _, _, _, _]) (by assumption)) (ktn_ord2 (by tbn_find) (ktn_ordA (by assumption) (by assumption))) trivial (TrIn.two .eqv ktn_new (TrIn.mono (by assumption) ktn_subD) (TrIn.mono (by assumption) ktn_subB))
    · exact hret _ _ _ _ (by k_asm) (tl_keep1 (pre := [_, _, _, _, _, _, _]) (by assumption)) (ktn_ord2 (by tbn_find) (ktn_ordA (by assumption) (by assumption))) trivial (TrIn.two .xor ktn_new (TrIn.mono (by assumption) ktn_subD) (TrIn.mono (by assumption) ktn_subB))
    · exact hret _ _ _ _ (by k_asm) (tl_keep2 (pre := [_]) (by assumption)) (ord_cons (by tbn_find) (ord_cons (by tbn_find) (ktn_ordA (by assumption) (by assumption)))) trivial (TrIn.not ktn_new (TrIn.two .imp mem2 (TrIn.mono (by assumption) sub2) (TrIn.mono (by assumption) sub2D)))
end PartCDual
section PartCFits
open PySem PySem.W PyProof.Rows PySem.Spec PySem.Calls
theorem p15 : ((1 : Int) * 2 ^ ((16 : Int) - 1).toNat) = 32768 := by decide
theorem p15' : ((2 : Int) ^ ((16 : Int) - 1).toNat) = 32768 := by decide
inductive FitsIn (news : List (Addr × Obj)) : List Value → Int → Prop where
  | mk {t1 t3 : Tok} {x : Int} : -32768 ≤ x → x < 32768 → FitsIn news [.int x t1, .int 16 t3] x
noncomputable abbrev fitsT : ToldN Int where
  Rel := FitsIn
  Ok := fun _ => True
  size := fun _ => 1
  Tl := fun tl => tl = []
  Out := fun _ r _ => ∃ _ : Unit, r = .bool true
theorem c_fits (w : World) (mean : ExcName → Option Value) (mg mb : Str → Option Value) : ∀ d, TellsN PySem.Challenge.rw_xm0020_01.row.prog w (hd.heap_1 w.params) vw (looseW vw [Str.ofString "BasicError"]) mean mg mb 79 fitsT d := by
  refine tellsN_of fun d IH => ?_
  unfold TellsN
  k_fill
  w_top off
  k_with_none
  intro dp un gd cn cs a ccd cl outer A₀ base h₀ L m news s vs Q E B F X N T hk hR hok hd hu hret
  dsimp only [fitsT] at hd hu
  cases hR with
  | mk hx1 hx2 => ?_
  refine wpAny_call ?_
  k_dflt ktr_enter
  k_steps
  · exact hret _ _ _ _ (by k_asm) (ktn_tl0 (by k_asm)) ktn_ord0 rfl ⟨(), by rw [p15, decide_eq_true hx2]⟩
  · have hh : -((1 : Int) * 2 ^ ((16 : Int) - 1).toNat) ≤ d := by rw [p15]; exact hx1
    exact absurd hh (by assumption)
inductive WholeIn (news : List (Addr × Obj)) : List Value → Int → Prop where
  | mk {t1 t3 : Tok} {x : Int} : -32768 ≤ x → x < 32768 → WholeIn news [.int x t1, .int 16 t3] x
noncomputable abbrev wholeT : ToldN Int where
  Rel := WholeIn
  Ok := fun _ => True
  size := fun _ => 2
  Tl := fun tl => tl = []
  Out := fun _ r d => ∃ tk, r = .int d tk
local macro_rules | `(tactic| k_room) => `(tactic| ktr_room)
theorem c_whole (w : World) (mean : ExcName → Option Value) (mg mb : Str → Option Value) : ∀ d, TellsN PySem.Challenge.rw_xm0020_01.row.prog w (hd.heap_1 w.params) vw (looseW vw [Str.ofString "BasicError"]) mean mg mb 86 wholeT d := by
  refine tellsN_of fun d IH => ?_
  unfold TellsN
  k_fill
  w_top off
  k_with_none
  have Cf := c_fits w mean mg mb
  k_with "call ref" => ktn_call (Str.ofString "fits") fitsT
  k_with "tree" => simp only [fitsT] at *
  intro dp un gd cn cs a ccd cl outer A₀ base h₀ L m news s vs Q E B F X N T hk hR hok hd hu hret
  dsimp only [wholeT] at hd hu
  cases hR with
  | mk hx1 hx2 => ?_
  refine wpAny_call ?_
  k_dflt ktr_enter
  k_steps
  exact hret _ _ _ _ (by k_asm) (ktn_tl0 (by k_asm)) ktn_ord0 rfl ⟨_, rfl⟩
end PartCFits
section PartCLogic
open PySem PySem.W PyProof.Rows PySem.Spec PySem.Calls
/-- k is the operator's name -/
structure IsOp (k : Str) (o : Op) : Prop where
  is : k = o.str
inductive LogicIn (news : List (Addr × Obj)) : List Value → Op × Int × Int → Prop where
  | mk {k : Str} {t t1 t2 t3 : Tok} {x y : Int} (o : Op) : IsOp k o → -32768 ≤ x → x < 32768 → -32768 ≤ y → y < 32768 → LogicIn news [.str k t, .int x t1, .int y t2, .int 16 t3] (o, x, y)
noncomputable def Op.val : Op → Int → Int → Int
  | .and, x, y => Builtin.bitAnd x y
  | .or, x, y => Builtin.bitOr x y
  | .xor, x, y => Builtin.bitXor x y
  | .eqv, x, y => -1 - Builtin.bitXor x y
  | .imp, x, y => Builtin.bitOr (-1 - x) y
noncomputable abbrev logicT : ToldN (Op × Int × Int) where
  Rel := LogicIn
  Ok := fun _ => True
  size := fun _ => 10
  Tl := fun tl => tl = []
  Out := fun _ r d => ∃ tk, r = .int (d.1.val d.2.1 d.2.2) tk
local macro_rules | `(tactic| k_room) => `(tactic| ktr_room)
theorem c_logic (w : World) (mean : ExcName → Option Value) (mg mb : Str → Option Value) : ∀ d, TellsN PySem.Challenge.rw_xm0020_01.row.prog w (hd.heap_1 w.params) vw (looseW vw [Str.ofString "BasicError"]) mean mg mb 269 logicT d := by
  refine tellsN_of fun d IH => ?_
  unfold TellsN
  k_fill
  w_top off
  k_with_none
  have Cw := c_whole w mean mg mb
  k_with "call ref" => ktn_call (Str.ofString "whole_of") wholeT
  k_with "tree" => simp only [wholeT] at *
  intro dp un gd cn cs a ccd cl outer A₀ base h₀ L m news s vs Q E B F X N T hk hR hok hd hu hret
  have hKd := kdMark
  dsimp only [logicT] at hd hu
  cases hR with
  | @mk _ _ _ _ _ x y o ho hx1 hx2 hy1 hy2 => ?_
  cases o
  all_goals (
    have hk1 := ho.is
    dsimp only [Op.str] at hk1
    subst hk1
    refine wpAny_call ?_
    k_dflt ktr_enter
    k_steps)
  all_goals exact hret _ _ _ _ (by k_asm) (ktn_tl0 (news_drop [_] (by k_asm))) ktn_ord0 rfl ⟨_, rfl⟩
inductive InvIn (news : List (Addr × Obj)) : List Value → Int → Prop where
  | mk {t1 t3 : Tok} {x : Int} : -32768 ≤ x → x < 32768 → InvIn news [.int x t1, .int 16 t3] x
noncomputable abbrev invT : ToldN Int where
  Rel := InvIn
  Ok := fun _ => True
  size := fun _ => 10
  Tl := fun tl => tl = []
  Out := fun _ r d => ∃ tk, r = .int (-1 - d) tk
theorem c_inv (w : World) (mean : ExcName → Option Value) (mg mb : Str → Option Value) : ∀ d, TellsN PySem.Challenge.rw_xm0020_01.row.prog w (hd.heap_1 w.params) vw (looseW vw [Str.ofString "BasicError"]) mean mg mb 262 invT d := by
  refine tellsN_of fun d IH => ?_
  unfold TellsN
  k_fill
  w_top off
  k_with_none
  have Cw := c_whole w mean mg mb
  k_with "call ref" => ktn_call (Str.ofString "whole_of") wholeT
  k_with "tree" => simp only [wholeT] at *
  intro dp un gd cn cs a ccd cl outer A₀ base h₀ L m news s vs Q E B F X N T hk hR hok hd hu hret
  have hKd := kdMark
  dsimp only [invT] at hd hu
  cases hR with
  | mk hx1 hx2 => ?_
  refine wpAny_call ?_
  k_dflt ktr_enter
  k_steps
  all_goals exact hret _ _ _ _ (by k_asm) (ktn_tl0 (by k_asm)) ktn_ord0 rfl ⟨_, rfl⟩
end PartCLogic
section PartBits
open PySem PySem.W PyProof.Rows PySem.Calls
open PySem.Builtin (bitAnd bitOr bitXor bitNot)
theorem not_is (x : Int) : bitNot x = -1 - x := by unfold bitNot; omega
theorem and_half (x y : Int) : bitAnd x y = 2 * bitAnd (x / 2) (y / 2) + (if x % 2 = 1 ∧ y % 2 = 1 then 1 else 0) := kbt_halves x y
theorem or_is (x y : Int) : bitOr x y = -1 - bitAnd (-1 - x) (-1 - y) := by unfold bitOr; rw [not_is, not_is, not_is]
theorem xor_is (x y : Int) : bitXor x y = bitOr x y - bitAnd x y := rfl
theorem and_range (n : Nat) : ∀ x y : Int, -(2 ^ n) ≤ x → x < 2 ^ n → -(2 ^ n) ≤ y → y < 2 ^ n → -(2 ^ n) ≤ bitAnd x y ∧ bitAnd x y < 2 ^ n := by
  induction n with
  | zero =>
    intro x y h1 h2 h3 h4
    have hx : x = -1 ∨ x = 0 := by omega
    have hy : y = -1 ∨ y = 0 := by omega
    rcases hx with rfl | rfl <;> rcases hy with rfl | rfl <;> decide
  | succ n ih =>
    intro x y h1 h2 h3 h4
    have hp : (2 : Int) ^ (n + 1) = 2 * 2 ^ n := by rw [Int.pow_succ]; omega
    rw [hp] at h1 h2 h3 h4 ⊢
    have := ih (x / 2) (y / 2) (by omega) (by omega) (by omega) (by omega)
    rw [and_half x y]
    split <;> omega
theorem xor_half (x y : Int) : bitXor x y = 2 * bitXor (x / 2) (y / 2) + (if x % 2 = y % 2 then 0 else 1) := by
  rw [xor_is, xor_is, or_is, or_is, and_half x y, and_half (-1 - x) (-1 - y)]
  have e1 : (-1 - x) / 2 = -1 - x / 2 := by omega
  have e2 : (-1 - y) / 2 = -1 - y / 2 := by omega
  rw [e1, e2]
  generalize bitAnd (-1 - x / 2) (-1 - y / 2) = p
  generalize bitAnd (x / 2) (y / 2) = q
  split <;> split <;> split <;> omega
theorem xor_range (n : Nat) : ∀ x y : Int, -(2 ^ n) ≤ x → x < 2 ^ n → -(2 ^ n) ≤ y → y < 2 ^ n → -(2 ^ n) ≤ bitXor x y ∧ bitXor x y < 2 ^ n := by
  induction n with
  | zero =>
    intro x y h1 h2 h3 h4
    have hx : x = -1 ∨ x = 0 := by omega
    have hy : y = -1 ∨ y = 0 := by omega
    rcases hx with rfl | rfl <;> rcases hy with rfl | rfl <;> decide
  | succ n ih =>
    intro x y h1 h2 h3 h4
    have hp : (2 : Int) ^ (n + 1) = 2 * 2 ^ n := by rw [Int.pow_succ]; omega
    rw [hp] at h1 h2 h3 h4 ⊢
    have := ih (x / 2) (y / 2) (by omega) (by omega) (by omega) (by omega)
    rw [xor_half x y]
    split <;> omega
theorem or_range (n : Nat) (x y : Int) (h1 : -(2 ^ n) ≤ x) (h2 : x < 2 ^ n) (h3 : -(2 ^ n) ≤ y) (h4 : y < 2 ^ n) : -(2 ^ n) ≤ bitOr x y ∧ bitOr x y < 2 ^ n := by
  have := and_range n (-1 - x) (-1 - y) (by omega) (by omega) (by omega) (by omega)
  rw [or_is]
  omega
theorem val16 {x y : Int} (o : Op) (h1 : -32768 ≤ x) (h2 : x < 32768) (h3 : -32768 ≤ y) (h4 : y < 32768) : -32768 ≤ o.val x y ∧ o.val x y < 32768 := by
  cases o
  · exact and_range 15 x y h1 h2 h3 h4
  · exact or_range 15 x y h1 h2 h3 h4
  · exact xor_range 15 x y h1 h2 h3 h4
  · have := xor_range 15 x y h1 h2 h3 h4
    show -32768 ≤ -1 - bitXor x y ∧ -1 - bitXor x y < 32768
    have e : (2 : Int) ^ 15 = 32768 := by decide
    rw [e] at this
    omega
  · exact or_range 15 (-1 - x) y (by omega) (by omega) h3 h4
end PartBits
section PartCReck
open PySem PySem.W PyProof.Rows PySem.Spec PySem.Calls
local macro_rules | `(tactic| k_room) => `(tactic| ktr_room)
local macro_rules | `(tactic| walk_at "newTuple") => `(tactic| walk_at "my nt")
inductive ReckIn (news : List (Addr × Obj)) : List Value → Int × Int → Prop where
  | mk {t t1 t2 t3 t4 : Tok} {x y : Int} : 0 ≤ x → x ≤ 16 → 0 ≤ y → y ≤ 255 → x * y < 32768 → ReckIn news [.str (Str.ofString "*") t, .int x t1, .int y t2, .int 16 t3, .int 9 t4] (x, y)
noncomputable abbrev reckT : ToldN (Int × Int) where
  Rel := ReckIn
  Ok := fun _ => True
  size := fun _ => 10
  Tl := fun tl => tl = []
  Out := fun _ r d => ∃ tk, r = .int (d.1 * d.2) tk
theorem c_reck (w : World) (mean : ExcName → Option Value) (mg mb : Str → Option Value) : ∀ d, TellsN PySem.Challenge.rw_xm0020_01.row.prog w (hd.heap_1 w.params) vw (looseW vw [Str.ofString "BasicError"]) mean mg mb 241 reckT d := by
  refine tellsN_of fun d IH => ?_
  unfold TellsN
  k_fill
  w_top off
  k_with_none
  have Cf := c_fits w mean mg mb
  k_with "call ref" => ktn_call (Str.ofString "fits") fitsT
  k_with "tree" => simp only [fitsT] at *
  intro dp un gd cn cs ad ccd cl outer A₀ base h₀ L m news s vs Q E B F X N T hk hR hok hd hu hret
  have hKd := kdMark
  dsimp only [reckT] at hd hu
  cases hR with
  | @mk _ _ _ _ _ x y hx0 hx1 hy0 hy1 hz => ?_
  have p1 : -32768 ≤ x * y := by have := Int.mul_nonneg hx0 hy0; omega
  refine wpAny_call ?_
  k_dflt ktr_enter
  k_steps
  all_goals exact hret _ _ _ _ (by k_asm) (ktn_tl0 (news_drop [_] (by k_asm))) ktn_ord0 rfl ⟨_, rfl⟩
end PartCReck
section PartCTwo
open PySem PySem.W PyProof.Rows PySem.Spec PySem.Calls
inductive TwoIn (news : List (Addr × Obj)) : List Value → Op × Int × Int → Prop where
  | mk {k : Str} {t t1 t2 t3 t4 : Tok} {x y : Int} (o : Op) : IsOp k o → -32768 ≤ x → x < 32768 → -32768 ≤ y → y < 32768 → TwoIn news [.str k t, .int x t1, .int y t2, .int 16 t3, .int 9 t4] (o, x, y)
noncomputable abbrev twoT : ToldN (Op × Int × Int) where
  Rel := TwoIn
  Ok := fun _ => True
  size := fun _ => 20
  Tl := fun tl => tl = []
  Out := fun _ r d => ∃ tk, r = .int (d.1.val d.2.1 d.2.2) tk
local macro_rules | `(tactic| k_room) => `(tactic| ktr_room)
local macro_rules | `(tactic| walk_at "exec Assign cons ListComp") => `(tactic| (k_here; k_dflt (refine comp_assign (_F := by k_asm) (by rfl) (by with_unfolding_all rfl) (by with_unfolding_all rfl) (by decide) (by rfl) (by decide) (by rfl) (by rfl) (by rfl) ?_)))
local macro_rules | `(tactic| walk_at "SrcG") => `(tactic| (k_here; k_dflt (first
  | (refine srcG_tuple (by rfl) (by k_asm) (by k_asm) (by k_mem) (by first | size_fits | exact Nat.le_of_ble_eq_true rfl) ?_; intro g'; lcg_lit)
  | (refine srcG_str (by rfl) (by k_asm) (by k_asm) (by first | size_fits | exact Nat.le_of_ble_eq_true rfl) (by rfl) ?_; intro g'; lcg_lit))))
local macro_rules | `(tactic| lcg_src) => `(tactic| k_mem)
local macro_rules | `(tactic| walk_at "CompEnd") => `(tactic| walk_at "my CE")
noncomputable def strsOf : List Value → List Str
  | .str x _ :: r => x :: strsOf r
  | _ => []
noncomputable def allStrs : List Value → Bool
  | .str _ _ :: r => allStrs r
  | [] => true
  | _ => false
theorem strsAre_of : ∀ vs : List Value, allStrs vs = true → StrsAre vs (strsOf vs)
  | [], _ => .nil
  | .str x t :: r, h => .cons x t (strsAre_of r h)
  | .none :: _, h | .ellipsis :: _, h | .notImplemented :: _, h | .bool _ :: _, h | .int _ _ :: _, h | .float _ _ :: _, h | .bytes _ _ :: _, h | .type _ :: _, h | .builtin _ :: _, h | .ref _ :: _, h => by simp [allStrs] at h
theorem in_K_strs {prog : Program} {w : World} {A : Around} {E : Value → Shared → Prop} {s : Shared} {K : Frag} {a : Addr} {vs : List Value} {n : Nat} {od : Option Addr} {sl : Array (Option Value)} {k : Str} {t : Tok} {Q : Value → Shared → Prop} (b : Bool) (X : K.In s.heap) (e : K.lookup a = some ⟨.type "tuple", od, .seq vs.toArray n, sl⟩) (hi : allStrs vs = true) (hb : (strsOf vs).any (· == k) = b) (h : Q (.bool b) s) :
    wpAny (model prog w) A (compareOp .In (.str k t) (.ref a)) Q E s := in_tuple_strs ⟨_, X _ _ e, rfl, n, rfl⟩ (strsAre_of vs hi) (by rw [hb]; exact h)
theorem op_any {l : List Str} {b : Bool} {k : Str} {o : Op} (hk : IsOp k o) (h : ∀ o : Op, l.any (· == o.str) = b) : l.any (· == k) = b := by rw [hk.is]; exact h o
local macro_rules | `(tactic| walk_at "subscriptTail Name Constant ref int") => `(tactic| (k_here; (with_reducible show wpAny _ _ (subscriptTail _ _ (Value.ref _) (Value.int _ _)) _ _ _); k_dflt (refine' item_lit ?N ?m ?z ?y ?x ?_ ?a ?b; (case N => k_asm); (case m => k_mem); (case z | y => decide); (case x => rfl); (case a => with_unfolding_all rfl); (case b => (intro _; with_unfolding_all rfl)))))
local macro_rules | `(tactic| walk_at "compareOp In str ref") => `(tactic| (k_here; (with_reducible show wpAny _ _ (compareOp _ _ (Value.ref 278)) _ _ _); k_dflt (refine' in_K_strs false ?X ?e ?i ?b ?_; (case X => k_in); (case e => k_is); (case i => rfl); (case b => exact op_any (by assumption) (by intro o9; cases o9 <;> decide +kernel)); k_whole)))
local macro_rules | `(tactic| walk_at "compareOp In str ref") => `(tactic| (k_here; (with_reducible show wpAny _ _ (compareOp _ _ (Value.ref 277)) _ _ _); k_dflt (refine' in_K_strs true ?X ?e ?i ?b ?_; (case X => k_in); (case e => k_is); (case i => rfl); (case b => exact op_any (by assumption) (by intro o9; cases o9 <;> decide +kernel)); k_whole)))
theorem c_two (w : World) (mean : ExcName → Option Value) (mg mb : Str → Option Value) : ∀ d, TellsN PySem.Challenge.rw_xm0020_01.row.prog w (hd.heap_1 w.params) vw (looseW vw [Str.ofString "BasicError"]) mean mg mb 304 twoT d := by
  refine tellsN_of fun d IH => ?_
  unfold TellsN
  k_fill
  w_top off
  k_with_none
  have Cl := c_logic w mean mg mb
  k_with "call ref" => ktn_call (Str.ofString "logic") logicT
  k_with "tree" => simp only [logicT] at *
  intro dp un gd cn cs a ccd cl outer A₀ base h₀ L m news s vs Q E B F X N T hk hR hok hd hu hret
  have hKd := kdMark
  dsimp only [twoT] at hd hu
  cases hR with
  | @mk _ _ _ _ _ _ x y o ho hx1 hx2 hy1 hy2 => ?_
  refine wpAny_call ?_
  k_dflt ktr_enter
  k_steps
  exact hret _ _ _ _ (by k_asm) (ktn_tl0 (news_drop [_, _] (by k_asm))) ktn_ord0 rfl ⟨_, rfl⟩
inductive OneIn (news : List (Addr × Obj)) : List Value → Int → Prop where
  | mk {t t1 t3 t4 : Tok} {x : Int} : -32768 ≤ x → x < 32768 → OneIn news [.str (Str.ofString "not") t, .int x t1, .int 16 t3, .int 9 t4] x
noncomputable abbrev oneT : ToldN Int where
  Rel := OneIn
  Ok := fun _ => True
  size := fun _ => 20
  Tl := fun tl => tl = []
  Out := fun _ r d => ∃ tk, r = .int (-1 - d) tk
theorem c_one (w : World) (mean : ExcName → Option Value) (mg mb : Str → Option Value) : ∀ d, TellsN PySem.Challenge.rw_xm0020_01.row.prog w (hd.heap_1 w.params) vw (looseW vw [Str.ofString "BasicError"]) mean mg mb 311 oneT d := by
  refine tellsN_of fun d IH => ?_
  unfold TellsN
  k_fill
  w_top off
  k_with_none
  have Ci := c_inv w mean mg mb
  k_with "call ref" => ktn_call (Str.ofString "inverted") invT
  k_with "tree" => simp only [invT] at *
  intro dp un gd cn cs a ccd cl outer A₀ base h₀ L m news s vs Q E B F X N T hk hR hok hd hu hret
  have hKd := kdMark
  dsimp only [oneT] at hd hu
  cases hR with
  | mk hx1 hx2 => ?_
  refine wpAny_call ?_
  k_dflt ktr_enter
  k_steps
  exact hret _ _ _ _ (by k_asm) (ktn_tl0 (by k_asm)) ktn_ord0 rfl ⟨_, rfl⟩
end PartCTwo
section PartWLoop
open PySem PySem.W PyProof.Rows PySem.Spec PySem.Calls
noncomputable def Nm.of (a b c : Int) : Nm → Int
  | .a => a | .b => b | .c => c
noncomputable def Tr.eval (a b c : Int) : Tr → Int
  | .nm n => n.of a b c
  | .zero => 0
  | .not t => -1 - t.eval a b c
  | .two o l r => o.val (l.eval a b c) (r.eval a b c)
/-- the stack's list bears the stack, its top first -/
inductive StkIn (tl : List (Addr × Obj)) : List Value → List (Tr × Bool) → Prop where
  | nil : StkIn tl [] []
  | snoc {ws : List Value} {st : List (Tr × Bool)} {a : Addr} {v : Value} {b : Bool} {n : Nat} {t : Tr} : StkIn tl ws st → (a, ({ cls := .type "tuple", data := .seq #[v, .bool b] n } : Obj)) ∈ tl → TrIn tl v t → StkIn tl (ws ++ [.ref a]) ((t, b) :: st)
theorem StkIn.mono {tl tl' : List (Addr × Obj)} (hs : ∀ p ∈ tl, p ∈ tl') {ws : List Value} {st : List (Tr × Bool)} (h : StkIn tl ws st) : StkIn tl' ws st := by
  induction h with
  | nil => exact .nil
  | snoc _ hm ht ih => exact .snoc ih (hs _ hm) (ht.mono hs)
theorem StkIn.length {tl : List (Addr × Obj)} {ws : List Value} {st : List (Tr × Bool)} (h : StkIn tl ws st) : ws.length = st.length := by
  induction h with
  | nil => rfl
  | snoc _ _ _ ih => rw [List.length_append, List.length_singleton, List.length_cons, ih]
/-- what the machine's run yields -/
inductive Den (a b c : Int) : List (Tr × Bool) → List Int → Int → Prop where
  | done {r : Int} : Den a b c [] [r] r
  | op {t : Tr} {W : List (Tr × Bool)} {V : List Int} {r : Int} : Den a b c W (V ++ [t.eval a b c]) r → Den a b c ((t, false) :: W) V r
  | not {t : Tr} {W : List (Tr × Bool)} {V : List Int} {x r : Int} : Den a b c W (V ++ [-1 - x]) r → Den a b c ((.not t, true) :: W) (V ++ [x]) r
  | two {o : Op} {t u : Tr} {W : List (Tr × Bool)} {V : List Int} {x y r : Int} : Den a b c W (V ++ [o.val x y]) r → Den a b c ((.two o t u, true) :: W) (V ++ [x, y]) r
theorem den_not {a b c : Int} {t : Tr} {W : List (Tr × Bool)} {V : List Int} {r : Int} (h : Den a b c ((.not t, false) :: W) V r) : Den a b c ((t, false) :: (.not t, true) :: W) V r := by
  cases h with
  | op h => exact .op (.not h)
theorem den_two {a b c : Int} {o : Op} {t u : Tr} {W : List (Tr × Bool)} {V : List Int} {r : Int} (h : Den a b c ((.two o t u, false) :: W) V r) : Den a b c ((t, false) :: (u, false) :: (.two o t u, true) :: W) V r := by
  cases h with
  | op h =>
    refine .op (.op ?_)
    rw [List.append_assoc]
    exact .two h
noncomputable def wt : List (Tr × Bool) → Nat
  | [] => 0
  | (_, true) :: r => 1 + wt r
  | (t, false) :: r => 2 * t.size + wt r
theorem size_pos : ∀ t : Tr, 1 ≤ t.size
  | .nm _ => Nat.le_refl _ | .zero => Nat.le_refl _ | .not t => by unfold Tr.size; omega | .two _ l r => by unfold Tr.size; omega
theorem len_wt : ∀ st : List (Tr × Bool), st.length ≤ wt st
  | [] => Nat.le_refl _
  | (_, true) :: r => by have := len_wt r; simp only [wt, List.length_cons]; omega
  | (t, false) :: r => by have := len_wt r; have := size_pos t; simp only [wt, List.length_cons]; omega
structure WSt where
  ws : List Value
  nw : Nat
  vl : Addr
  vs : List Value
  nv : Nat
  as : List Value
  na : Nat
  tl : List (Addr × Obj)
  stk : List (Tr × Bool)
  V : List Int
noncomputable def wStored : List Str := [Str.ofString "here", Str.ofString "is_ready", Str.ofString "parts", Str.ofString "begin", Str.ofString "found"]
structure WInv (nb : List (Addr × Obj)) (wl al x d dv : Addr) (es : List DictEntry) (od : Obj) (a b c r : Int) (m₀ : Str → Option Value) (s : WSt) (m : Str → Option Value) (nx : List (Addr × Obj)) : Prop where
  led : ∀ p ∈ (wl, listOf s.ws.toArray s.nw) :: (s.vl, listOf s.vs.toArray s.nv) :: (al, listOf s.as.toArray s.na) :: (x, instObj 382 d) :: (d, dictOf es 4) :: (dv, od) :: s.tl, p ∈ nx
  vals : m (Str.ofString "values") = some (.ref s.vl)
  rest : ∀ z, z ≠ Str.ofString "values" → wStored.contains z = false → m z = m₀ z
  stk : StkIn s.tl s.ws s.stk
  are : IntsAre s.vs s.V
  in16 : ∀ i ∈ s.V, -32768 ≤ i ∧ i < 32768
  den : Den a b c s.stk s.V r
  off : OwnOff s.tl [wl, al]
  sub : ∀ p ∈ nb, p ∈ s.tl
  ne1 : @Ne Nat s.vl wl
  ne2 : @Ne Nat s.vl al
  len : s.V.length + s.as.length + wt s.stk ≤ 200000
noncomputable def WEnd (h₀ : Heap) (L : Addr) (s : Shared) (nb : List (Addr × Obj)) (wl al x d dv : Addr) (es : List DictEntry) (od : Obj) (a b c r : Int) (m₀ : Str → Option Value) (k : Nat) (s₂ : Shared) : Prop :=
  ∃ c' h' tk m' nx, s₂ = { s with heap := h', toks := tk } ∧ Fr h₀ L h' m' ∧ News h₀ L h' nx ∧ WInv nb wl al x d dv es od a b c r m₀ c' m' nx ∧ wt c'.stk < k
noncomputable def WPost (h₀ : Heap) (L : Addr) (s : Shared) (nb : List (Addr × Obj)) (wl al x d dv : Addr) (es : List DictEntry) (od : Obj) (a b c r : Int) (m₀ : Str → Option Value) (k : Nat) (Q : Flow → Shared → Prop) (f : Flow) (s₂ : Shared) : Prop :=
  match f with
  | .ret v => Q (.ret v) s₂
  | .brk => Q .next s₂
  | _ => WEnd h₀ L s nb wl al x d dv es od a b c r m₀ k s₂
section
variable {prog : Program} {w : World} {A : Around} {E : Value → Shared → Prop} {Q : Flow → Shared → Prop} {s : Shared} {env : Env} {h₀ : Heap} {L : Addr}
/-- the loop, a turn at a time -/
theorem while_worth {test : Expr} {body : List Stmt} {pos : Pos} {m₀ : Str → Option Value} {news nb : List (Addr × Obj)} {wl al x d dv : Addr} {es : List DictEntry} {od : Obj} {a b c r : Int} (c₀ : WSt)
    (F : Fr h₀ L s.heap m₀) (N : News h₀ L s.heap news) (h0 : WInv nb wl al x d dv es od a b c r m₀ c₀ m₀ news)
    (turn : ∀ (ws : List Value) (nw : Nat) (vl : Addr) (vs : List Value) (nv : Nat) (as : List Value) (na : Nat) (tl : List (Addr × Obj)) (stk : List (Tr × Bool)) (V : List Int) (u : Str → Option Value) h tk,
      StkIn tl ws stk → IntsAre vs V → (∀ i ∈ V, -32768 ≤ i ∧ i < 32768) → Den a b c stk V r → OwnOff tl [wl, al] → (∀ p ∈ nb, p ∈ tl) → @Ne Nat vl wl → @Ne Nat vl al → V.length + as.length + wt stk ≤ 200000 →
      Fr h₀ L h (fun y => if y = Str.ofString "values" then some (.ref vl) else if wStored.contains y then u y else m₀ y) →
      News h₀ L h ((wl, listOf ws.toArray nw) :: (vl, listOf vs.toArray nv) :: (al, listOf as.toArray na) :: (x, instObj 382 d) :: (d, dictOf es 4) :: (dv, od) :: tl) →
      wpAny (model prog w) A (isTrue test env (eval test env)) (fun bb s₂ =>
        if bb = true then wpAny (model prog w) A (execs body env) (WPost h₀ L s nb wl al x d dv es od a b c r m₀ (wt stk) Q) E s₂ else Q .next s₂) E { s with heap := h, toks := tk })
    (hE : PassesOwn (model prog w) A env E := by passes_own) :
    wpAny (model prog w) A (exec (.While test body [] pos) env) Q E s := by
  refine While_inv2 (fun n m nx => ∃ c' : WSt, wt c'.stk = n ∧ WInv nb wl al x d dv es od a b c r m₀ c' m nx) F N ⟨c₀, rfl, h0⟩ ?_ hE
  rintro n m₁ nx h tk F₁ N₁ ⟨c', hn, I⟩
  have em : m₁ = fun y => if y = Str.ofString "values" then some (.ref c'.vl) else if wStored.contains y then m₁ y else m₀ y := by
    funext y
    by_cases h1 : y = Str.ofString "values"
    · rw [if_pos h1, h1]; exact I.vals
    · rw [if_neg h1]
      cases h3 : wStored.contains y with
      | true => simp
      | false => simp only [Bool.false_eq_true, if_false]; exact I.rest y h1 h3
  rw [em] at F₁
  rw [← hn]
  refine wpAny_mono (turn c'.ws c'.nw c'.vl c'.vs c'.nv c'.as c'.na c'.tl c'.stk c'.V m₁ h tk I.stk I.are I.in16 I.den I.off I.sub I.ne1 I.ne2 I.len F₁ (fun p hp => N₁ p (I.led p hp))) (fun bb s₂ p => ?_) fun _ _ x => x
  cases bb with
  | false => simpa using p
  | true =>
    simp only [if_true] at p ⊢
    refine wpAny_mono p (fun f s₃ q => ?_) fun _ _ x => x
    cases f with
    | ret v => exact q
    | brk => exact q
    | next =>
      obtain ⟨c2, h', tk', m', nx', rfl, F', N', I', hm⟩ := q
      exact ⟨h', tk', m', nx', wt c2.stk, rfl, F', N', hm, c2, rfl, I'⟩
    | cont =>
      obtain ⟨c2, h', tk', m', nx', rfl, F', N', I', hm⟩ := q
      exact ⟨h', tk', m', nx', wt c2.stk, rfl, F', N', hm, c2, rfl, I'⟩
end
theorem worth_start {h₀ : Heap} {L : Addr} {h : Heap} {D p wl al x d dv vl : Addr} {v : Value} {t : Tr} {oD : Obj} {es : List DictEntry} {od : Obj} {a b c : Int} {m₀ : Str → Option Value} {q1 q2 q3 q4 : Addr × Obj} {news : List (Addr × Obj)}
    (_N : News h₀ L h ((D, oD) :: (vl, listOf #[] 0) :: (wl, listOf #[.ref p] 0) :: (p, ({ cls := .type "tuple", data := .seq #[v, .bool false] } : Obj)) :: (al, listOf #[] 0) :: (x, instObj 382 d) :: (d, dictOf es 4) :: (dv, od) :: q1 :: q2 :: q3 :: q4 :: news))
    (h1 : @LT.lt Nat _ al p) (h2 : @LT.lt Nat _ p wl) (h3 : @LT.lt Nat _ wl vl) (h4 : AllLt al news) (hT : TrIn news v t) (hz : t.size ≤ 50000) (hm : m₀ (Str.ofString "values") = some (.ref vl)) :
    WInv news wl al x d dv es od a b c (t.eval a b c) m₀ ⟨[.ref p], 0, vl, [], 0, [], 0, (p, { cls := .type "tuple", data := .seq #[v, .bool false] }) :: news, [(t, false)], []⟩ m₀
      ((D, oD) :: (vl, listOf #[] 0) :: (wl, listOf #[.ref p] 0) :: (p, ({ cls := .type "tuple", data := .seq #[v, .bool false] } : Obj)) :: (al, listOf #[] 0) :: (x, instObj 382 d) :: (d, dictOf es 4) :: (dv, od) :: q1 :: q2 :: q3 :: q4 :: news) where
  led := by
    intro q hq
    simp only [List.mem_cons] at hq ⊢
    rcases hq with h | h | h | h | h | h | h | h <;> simp only [h, true_or, or_true]
  vals := hm
  rest := fun _ _ _ => rfl
  stk := StkIn.snoc (ws := []) .nil (.head _) (hT.mono fun _ h => .tail _ h)
  are := .nil
  in16 := fun _ h => nomatch h
  den := .op .done
  off := by
    intro q hq b9 hb
    have l : ∀ q ∈ news, @LT.lt Nat _ q.1 al := ktn_ltOf h4
    rcases List.mem_cons.mp hq with rfl | hq
    · rcases List.mem_cons.mp hb with rfl | hb
      · exact Nat.ne_of_lt h2
      · rw [List.mem_singleton.mp hb]; exact Nat.ne_of_gt h1
    · have := l q hq
      rcases List.mem_cons.mp hb with rfl | hb
      · exact Nat.ne_of_lt (Nat.lt_trans this (Nat.lt_trans h1 h2))
      · rw [List.mem_singleton.mp hb]; exact Nat.ne_of_lt this
  sub := fun _ h => .tail _ h
  ne1 := Nat.ne_of_gt h3
  ne2 := Nat.ne_of_gt (Nat.lt_trans h1 (Nat.lt_trans h2 h3))
  len := by simp only [wt, List.length_nil]; omega
theorem look_nm {a b c : Int} {t1 t2 t3 u1 u2 u3 : Tok} : ∀ n : Nm, lookup (.str n.str) (strData [(.str (Str.ofString "A") t1, .int a u1), (.str (Str.ofString "B") t2, .int b u2), (.str (Str.ofString "C") t3, .int c u3)]) = some (.int (n.of a b c))
  | .a => rfl
  | .b => rfl
  | .c => rfl
section
variable {prog : Program} {w : World} {A : Around} {E : Value → Shared → Prop} {s : Shared} {d : Addr} {D : List (PyData × PyData)}
theorem notin_nm {n : Nm} {t : Tok} {i : Int} {Q : Value → Shared → Prop} (T : StrTab prog w s.heap d D) (hl : lookup (.str n.str) D = some (.int i)) (h : Q (.bool false) { s with toks := s.toks + 1 }) :
    wpAny (model prog w) A (compareOp .NotIn (.str n.str t) (.ref d)) Q E s := notin_strTab T (by rw [hl]; exact h)
theorem get_nm {n : Nm} {t : Tok} {i : Int} {Q : Value → Shared → Prop} (T : StrTab prog w s.heap d D) (hl : lookup (.str n.str) D = some (.int i))
    (h : ∀ tk, Q (.int i tk) { s with toks := s.toks + 1 }) : wpAny (model prog w) A (getItem (.ref d) (.str n.str t)) Q E s :=
  getItem_tab PyProof.V.same_str (strKind_is prog w n.str t) T hl fun v hv => by obtain ⟨tk, rfl⟩ := hv.int_inv; exact h tk
end
theorem wend {h₀ : Heap} {L : Addr} {s : Shared} {nb : List (Addr × Obj)} {wl al x d dv : Addr} {es : List DictEntry} {od : Obj} {a b c r : Int} {m₀ m' : Str → Option Value} {k : Nat} {h' : Heap} {tk : Nat} {nx : List (Addr × Obj)}
    {ws : List Value} {nw : Nat} {vl : Addr} {vs : List Value} {nv : Nat} {as : List Value} {na : Nat} (tl : List (Addr × Obj)) (stk : List (Tr × Bool)) (V : List Int) (F : Fr h₀ L h' m') (N : News h₀ L h' nx)
    (hv : m' (Str.ofString "values") = some (.ref vl)) (hr : ∀ z, z ≠ Str.ofString "values" → wStored.contains z = false → m' z = m₀ z)
    (l1 : (wl, listOf ws.toArray nw) ∈ nx) (l2 : (vl, listOf vs.toArray nv) ∈ nx) (l3 : (al, listOf as.toArray na) ∈ nx) (l4 : (x, instObj 382 d) ∈ nx) (l5 : (d, dictOf es 4) ∈ nx) (l6 : (dv, od) ∈ nx) (l7 : ∀ p ∈ tl, p ∈ nx)
    (hS : StkIn tl ws stk) (hI : IntsAre vs V) (h16 : ∀ i ∈ V, -32768 ≤ i ∧ i < 32768) (hD : Den a b c stk V r) (hO : OwnOff tl [wl, al]) (hsub : ∀ p ∈ nb, p ∈ tl) (hn1 : @Ne Nat vl wl) (hn2 : @Ne Nat vl al) (hlen : V.length + as.length + wt stk ≤ 200000) (hlt : wt stk < k) :
    WEnd h₀ L s nb wl al x d dv es od a b c r m₀ k { s with heap := h', toks := tk } :=
  ⟨⟨ws, nw, vl, vs, nv, as, na, tl, stk, V⟩, h', tk, m', nx, rfl, F, N, ⟨by
    intro q hq
    rcases List.mem_cons.mp hq with rfl | hq
    · exact l1
    rcases List.mem_cons.mp hq with rfl | hq
    · exact l2
    rcases List.mem_cons.mp hq with rfl | hq
    · exact l3
    rcases List.mem_cons.mp hq with rfl | hq
    · exact l4
    rcases List.mem_cons.mp hq with rfl | hq
    · exact l5
    rcases List.mem_cons.mp hq with rfl | hq
    · exact l6
    exact l7 q hq, hv, hr, hS, hI, h16, hD, hO, hsub, hn1, hn2, hlen⟩, hlt⟩
theorem ownOff_cons {q : Addr × Obj} {tl : List (Addr × Obj)} {wl al : Addr} (h1 : @Ne Nat q.1 wl) (h2 : @Ne Nat q.1 al) (h : OwnOff tl [wl, al]) : OwnOff (q :: tl) [wl, al] := by
  intro p hp b9 hb
  rcases List.mem_cons.mp hp with rfl | hp
  · rcases List.mem_cons.mp hb with rfl | hb
    · exact h1
    · rw [List.mem_singleton.mp hb]; exact h2
  · exact h p hp b9 hb
theorem stk_two {tl : List (Addr × Obj)} {ws : List Value} {st : List (Tr × Bool)} {p q : Addr} {v u : Value} {b c : Bool} {n k : Nat} {t r : Tr} (h : StkIn tl ws st) (h1 : (p, ({ cls := .type "tuple", data := .seq #[v, .bool b] n } : Obj)) ∈ tl) (h2 : TrIn tl v t)
    (h3 : (q, ({ cls := .type "tuple", data := .seq #[u, .bool c] k } : Obj)) ∈ tl) (h4 : TrIn tl u r) : StkIn tl (ws ++ [.ref p, .ref q]) ((r, c) :: (t, b) :: st) := by
  have e : ws ++ [Value.ref p, .ref q] = (ws ++ [.ref p]) ++ [.ref q] := by simp
  rw [e]
  exact .snoc (.snoc h h1 h2) h3 h4
theorem of16 {a b c : Int} (ha1 : -32768 ≤ a) (ha2 : a < 32768) (hb1 : -32768 ≤ b) (hb2 : b < 32768) (hc1 : -32768 ≤ c) (hc2 : c < 32768) (n : Nm) : -32768 ≤ n.of a b c ∧ n.of a b c < 32768 := by cases n <;> exact ⟨by assumption, by assumption⟩
theorem in16_push {V : List Int} {x : Int} (h : ∀ i ∈ V, -32768 ≤ i ∧ i < 32768) (h1 : -32768 ≤ x) (h2 : x < 32768) : ∀ i ∈ V ++ [x], -32768 ≤ i ∧ i < 32768 := by
  intro i hi
  rcases List.mem_append.mp hi with hi | hi
  · exact h i hi
  · rw [List.mem_singleton.mp hi]; exact ⟨h1, h2⟩
noncomputable def Stop (P : Prop) : Prop := P
theorem stop_here {P : Prop} (h : Stop P) : P := h
end PartWLoop
section PartCParts
open PySem PySem.W PyProof.Rows PySem.Spec PySem.Calls
local macro_rules | `(tactic| k_room) => `(tactic| ktr_room)
local macro_rules | `(tactic| walk_at "newTuple") => `(tactic| walk_at "my nt")
/-- the parts that a tree's tuple shows -/
inductive PartsAt (news : List (Addr × Obj)) : Addr → List Value → Prop where
  | nm {a : Addr} {t u : Tok} {n : Nat} (x : Nm) : (a, ({ cls := .type "tuple", data := .seq #[.str (Str.ofString "name") t, .str x.str u] n } : Obj)) ∈ news → PartsAt news a []
  | zero {a : Addr} {t u : Tok} {n : Nat} : (a, ({ cls := .type "tuple", data := .seq #[.str (Str.ofString "whole") t, .int 0 u] n } : Obj)) ∈ news → PartsAt news a []
  | not {a : Addr} {t : Tok} {v : Value} {n : Nat} : (a, ({ cls := .type "tuple", data := .seq #[.str (Str.ofString "not") t, v] n } : Obj)) ∈ news → PartsAt news a [v]
  | two {a : Addr} {t u : Tok} {v w : Value} {n : Nat} (o : Op) : (a, ({ cls := .type "tuple", data := .seq #[.str (Str.ofString "two") t, .str o.str u, v, w] n } : Obj)) ∈ news → PartsAt news a [v, w]
theorem PartsAt.mono {news news' : List (Addr × Obj)} {a : Addr} {vs : List Value} (h : PartsAt news a vs) (hs : ∀ p ∈ news, p ∈ news') : PartsAt news' a vs := by
  cases h with
  | nm x h => exact .nm x (hs _ h)
  | zero h => exact .zero (hs _ h)
  | not h => exact .not (hs _ h)
  | two o h => exact .two o (hs _ h)
theorem c_parts {w : World} {mean : ExcName → Option Value} {mg mb : Str → Option Value} :
    ∀ {dp un : Nat} {gd : Option (List Code)} {cn : Str} {cs : Scope} {ad : Addr} {ccd : Value} {cl : List (Str × Addr)} {outer : List Env} {A₀ : Around} {base h₀ : Heap} {L : Addr} {m : Str → Option Value} {news : List (Addr × Obj)} {s : Shared}
      {a : Addr} {vs : List Value} {Q E : Value → Shared → Prop},
      (hd.heap_1 w.params).In h₀ → Below A₀ base outer h₀ → Fr h₀ L s.heap m → News h₀ L s.heap news → Top vw (looseW vw [Str.ofString "BasicError"]) mean mg mb h₀ → cs.kind = .function →
      PartsAt news a vs → dp + 4 < recursionLimit → un + 32 < cLine →
      (∀ D h' toks', Fr h₀ L h' m → News h₀ L h' ((D, listOf vs.toArray 0) :: news) → AllLt D news → Q (.ref D) { s with heap := h', toks := toks' }) →
      wpAny (model PySem.Challenge.rw_xm0020_01.row.prog w) (ktrTop dp un gd cn cs L ad ccd cl outer) (call (.ref 276) [.ref a]) Q E s := by
  k_fill
  w_top off
  k_with_none
  intro dp un gd cn cs ad ccd cl outer A₀ base h₀ L m news s a vs Q E X B F N T hk hP hd hu hret
  have hKd := kdMark
  cases hP with
  | nm x hm =>
    refine wpAny_call ?_
    k_dflt ktr_enter
    k_steps
    exact hret _ _ _ (by k_asm) (news_sub (by k_asm) fun p hp => by simp only [List.mem_cons] at hp ⊢; rcases hp with h | h <;> simp only [h, true_or, or_true]) (by first | tbn_find | ktn_lt)
  | zero hm =>
    refine wpAny_call ?_
    k_dflt ktr_enter
    k_steps
    exact hret _ _ _ (by k_asm) (news_sub (by k_asm) fun p hp => by simp only [List.mem_cons] at hp ⊢; rcases hp with h | h <;> simp only [h, true_or, or_true]) (by first | tbn_find | ktn_lt)
  | not hm =>
    refine wpAny_call ?_
    k_dflt ktr_enter
    k_steps
    exact hret _ _ _ (by k_asm) (news_sub (by k_asm) fun p hp => by simp only [List.mem_cons] at hp ⊢; rcases hp with h | h <;> simp only [h, true_or, or_true]) (by first | tbn_find | ktn_lt)
  | two o hm =>
    refine wpAny_call ?_
    k_dflt ktr_enter
    k_steps
    exact hret _ _ _ (by k_asm) (news_sub (by k_asm) fun p hp => by simp only [List.mem_cons] at hp ⊢; rcases hp with h | h <;> simp only [h, true_or, or_true]) (by first | tbn_find | ktn_lt)
end PartCParts
section PartCWorth
open PySem PySem.W PyProof.Rows PySem.Spec PySem.Calls
structure Nums where
  t : Tr
  a : Int
  b : Int
  c : Int
inductive WAtIn (news : List (Addr × Obj)) : List Value → Nums → Prop where
  | mk {v : Value} {t : Tr} {p : Addr} {n : Nat} {a b c : Int} {t1 t2 t3 : Tok} : TrIn news v t → t.size ≤ 50000 → (p, listOf #[.int a t1, .int b t2, .int c t3] n) ∈ news → -32768 ≤ a → a < 32768 → -32768 ≤ b → b < 32768 → -32768 ≤ c → c < 32768 → WAtIn news [v, .ref p] ⟨t, a, b, c⟩
noncomputable abbrev worthT : ToldN Nums where
  Rel := WAtIn
  Ok := fun _ => True
  size := fun _ => 60
  Tl := fun tl => tl = []
  Out := fun _ r d => ∃ tk, r = .int (d.t.eval d.a d.b d.c) tk
local macro_rules | `(tactic| k_room) => `(tactic| ktr_room)
local macro_rules | `(tactic| walk_at "eval Name") => `(tactic| walk_at "my name")
local macro_rules | `(tactic| walk_at "call type:dict") => `(tactic| refine stop_here ?_)
local macro_rules | `(tactic| walk_at "newTuple") => `(tactic| walk_at "my nt")
local macro_rules | `(tactic| is_list) => `(tactic| (refine' News.isList ?N9 ?m9; (case N9 => k_asm); (case m9 => kd_lift)))
local macro_rules | `(tactic| walk_at "call builtin:len") => `(tactic| (k_here; (with_reducible show wpAny _ _ (call (Value.builtin "len") [Value.ref _]) _ _ _); k_dflt (first
  | (refine' len_snoc ?N ?m ?z ?_; (case N => k_asm); (case m => k_mem); (case z => walk_at "my z"); k_whole)
  | (refine' len_two ?N ?m ?z ?_; (case N => k_asm); (case m => k_mem); (case z => walk_at "my z"); k_whole)
  | (refine' len_nil ?N ?m ?z ?_; (case N => k_asm); (case m => k_mem); (case z => walk_at "my z"); k_whole))))
local macro_rules | `(tactic| walk_at "my all") => `(tactic| first | (refine' List.forall_mem_cons.mpr ⟨?a, ?b⟩; (case a => k_ne); (case b => walk_at "my all")) | exact List.forall_mem_nil _ | exact OwnOff.ne (by assumption) (by k_memK))
local macro_rules | `(tactic| walk_at "my updw") => `(tactic| first | (refine' Upd.head ?a; (case a => walk_at "my all")) | (refine' Upd.tail ?a ?b; (case a => k_ne); (case b => walk_at "my updw")))
local macro_rules | `(tactic| walk_at "call builtin:list.pop") => `(tactic| (k_here; (with_reducible show wpAny _ _ (call (Value.builtin _) [Value.ref _]) _ _ _); k_dflt (refine' pop_snoc ?F ?N ?U ?z ?_; (case F | N => k_asm); (case U => walk_at "my updw"); (case z => walk_at "my z")); (intro h' F' N'; (try dsimp only [List.nil_append, List.cons_append] at N'))))
local macro_rules | `(tactic| walk_at "call builtin:list.append") => `(tactic| (k_here; (with_reducible show wpAny _ _ (call (Value.builtin _) [Value.ref _, _]) _ _ _); k_dflt (refine' append_snoc ?F ?N ?U ?z ?_; (case F | N => k_asm); (case U => walk_at "my updw"); (case z => walk_at "my z")); (intro h' F' N')))
local macro_rules | `(tactic| walk_at "call builtin:list.extend") => `(tactic| (k_here; (with_reducible show wpAny _ _ (call (Value.builtin _) [Value.ref _, Value.ref _]) _ _ _); k_dflt (refine' extend_some ?F ?N ?b ?U ?x ?z ?_; (case F | N => k_asm); (case b => k_mem); (case U => walk_at "my updw"); (case x => exact ⟨Nat.le_of_ble_eq_true rfl, Nat.le_of_ble_eq_true rfl⟩); (case z => walk_at "my z")); (intro h' F' N')))
local macro_rules | `(tactic| walk_at "subscriptTail Name Slice ref ref") => `(tactic| (k_here; k_dflt (first
  | (refine' slice_from ?F ?N ?m ?k ?z ?z2 ?_ ?s ?t; (case F | N => k_asm); (case m => k_mem); (case k => first | rfl | exact Int.sub_zero _ | exact Int.add_sub_cancel _ _ | omega); (case z => walk_at "my z"); (case z2 => exact Nat.le_of_ble_eq_true rfl); (case s => with_unfolding_all rfl); (case t => kmk_pure))
  | (refine' slice_upto ?F ?N ?m ?k ?z ?z2 ?_ ?s ?t; (case F | N => k_asm); (case m => k_mem); (case k => first | rfl | exact Int.sub_zero _ | exact Int.add_sub_cancel _ _ | omega); (case z => walk_at "my z"); (case z2 => exact Nat.le_of_ble_eq_true rfl); (case s => with_unfolding_all rfl); (case t => kmk_pure))); walk_at "my D"))
local macro_rules | `(tactic| walk_at "binaryOp Add ref ref") => `(tactic| (k_here; (with_reducible show wpAny _ _ (binaryOp _ (Value.ref _) (Value.ref _)) _ _ _); k_dflt (refine' add_snoc ?F ?N ?a ?b ?z ?z2 ?_; (case F | N => k_asm); (case a | b => k_mem); (case z => walk_at "my z"); (case z2 => exact Nat.le_of_ble_eq_true rfl)); walk_at "my D"))
local macro_rules | `(tactic| walk_at "eval ListComp") => `(tactic| (k_here; k_dflt (refine comp_expr (_F := by k_asm) (by with_unfolding_all rfl) (by decide) (by rfl) (by decide) (by rfl) ?_)))
local macro_rules | `(tactic| walk_at "SrcG") => `(tactic| (k_here; k_dflt (refine' srcG_rev ?A ?F ?N ?D ?m ?k ?z ?_; (case A => rfl); (case F | N => k_asm); (case m => k_mem); (case k => rfl); (case D => assumption); (case z => exact Nat.le_of_ble_eq_true rfl); (intro g'; lcg_lit))))
local macro_rules | `(tactic| lcg_src) => `(tactic| k_mem)
local macro_rules | `(tactic| walk_at "CompEnd") => `(tactic| walk_at "my CE")
local macro_rules | `(tactic| walk_at "compareOp NotIn str ref") => `(tactic| (k_here; (with_reducible show wpAny _ _ (compareOp CmpOp.NotIn (Value.str (Nm.str _) _) (Value.ref _)) _ _ _); k_dflt (refine' notin_nm ?T ?l ?_; (case T => k_tabat); (case l => exact look_nm _); k_whole)))
local macro_rules | `(tactic| walk_at "getItem ref str") => `(tactic| (k_here; (with_reducible show wpAny _ _ (getItem (Value.ref _) (Value.str (Nm.str _) _)) _ _ _); k_dflt (refine' get_nm ?T ?l ?_; (case T => k_tabat); (case l => exact look_nm _); k_whole); intro tk9))
local macro_rules | `(tactic| walk_at "exec While Compare cons nil") => `(tactic| refine stop_here ?_)
local macro_rules | `(tactic| walk_at "call ref") => `(tactic| ((with_reducible show wpAny _ _ (call (Value.ref 276) _) _ _ _); k_dflt (refine' c_parts ?qX ?qB ?qF ?qN ?qT ?qk ?qP ?qd ?qu ?_; (case qB | qF => k_asm); (case qN | qX | qT => k_asm); (case qk => first | rfl | assumption); (case qP => exact PartsAt.mono (by assumption) (fun p hp => by simp only [List.mem_cons, hp, or_true])); (case qd => ktr_room); (case qu => ktr_units)); intro D' h' tk' F' N' l1; (try dsimp only at N'); (replace l1 := ktn_ltOf l1); (try k_lt l1)))
theorem facts6 {h₀ h : Heap} {L wl vl al x d dv : Addr} {o1 o2 o3 o4 o5 o6 : Obj} {tl : List (Addr × Obj)} (_ : News h₀ L h ((wl, o1) :: (vl, o2) :: (al, o3) :: (x, o4) :: (d, o5) :: (dv, o6) :: tl))
    (h1 : @Ne Nat al wl) (h2 : @Ne Nat x wl) (h3 : @Ne Nat d wl) (h4 : @Ne Nat dv wl) (h5 : @Ne Nat x al) (h6 : @Ne Nat d al) (h7 : @Ne Nat dv al) : @Ne Nat al wl ∧ @Ne Nat x wl ∧ @Ne Nat d wl ∧ @Ne Nat dv wl ∧ @Ne Nat x al ∧ @Ne Nat d al ∧ @Ne Nat dv al := ⟨h1, h2, h3, h4, h5, h6, h7⟩
theorem c_worth (w : World) (mean : ExcName → Option Value) (mg mb : Str → Option Value) : ∀ d, TellsN PySem.Challenge.rw_xm0020_01.row.prog w (hd.heap_1 w.params) vw (looseW vw [Str.ofString "BasicError"]) mean mg mb 405 worthT d := by
  refine tellsN_of fun d IH => ?_
  unfold TellsN
  k_fill
  w_top off
  k_with_none
  have Cf := c_fits w mean mg mb
  have C1 := c_one w mean mg mb
  have C2 := c_two w mean mg mb
  k_with "call ref" => ktn_call (Str.ofString "fits") fitsT
  k_with "call ref" => ktn_call (Str.ofString "worth_of_one") oneT
  k_with "call ref" => ktn_call (Str.ofString "worth_of_two") twoT
  k_with "tree" => simp only [fitsT, oneT, twoT] at *
  intro dp un gd cn cs ad ccd cl outer A₀ base h₀ L m news s vs Q E B F X N T hk hR hok hd hu hret
  have hKd := kdMark
  dsimp only [worthT] at hd hu
  cases hR with
  | @mk v t p n a b c t1 t2 t3 hT hz hp ha1 ha2 hb1 hb2 hc1 hc2 => ?_
  refine wpAny_call ?_
  k_dflt ktr_enter
  k_steps
  unfold Stop
  (k_here; (with_reducible show wpAny _ _ (call (Value.type "dict") [Value.ref _]) _ _ _); k_dflt (refine' dict_pairs_K [(_, _, _), (_, _, _), (_, _, _)] ?zwA ?zwF ?zwN ?zwb ?zwl ?zwp ?zwhk ?zwhn ?zwhv ?zwz ?_; (case zwA => exact rfl); (case zwF | zwN => k_asm); (case zwb => exact Top.nolimit (by k_asm)); (case zwl => k_mem); (case zwp => (repeat' (first | exact List.forall_mem_nil _ | refine List.forall_mem_cons.mpr ⟨?_, ?_⟩ | k_mem))); (case zwhk => rfl); (case zwhn => exact of_decide_eq_true (by rfl)); (case zwhv => rfl); (case zwz => size_fits); k_whole); walk_at "my d2")
  k_steps
  unfold Stop
  refine while_worth _ (by k_asm) (by k_asm) (worth_start (t := t) (a := a) (b := b) (c := c) (by k_asm) (by omega) (by omega) (by omega) (by tbn_find) hT hz (by rfl)) ?_
  intro ws nw vl vs nv as na tl stk V u h tk hS hI hV hD hO hsub hn1 hn2 hlen F1 N1
  try k_fold
  obtain ⟨q1, q2, q3, q4, q5, q6, q7⟩ := facts6 N1 (by k_ne) (by k_ne) (by k_ne) (by k_ne) (by k_ne) (by k_ne) (by k_ne)
  cases hD with
  | done =>
    cases hS
    k_steps
    exact hret _ _ _ _ (by k_asm) (ktn_tl0 (news_sub (by k_asm) fun p hp => .tail _ (.tail _ (.tail _ (.tail _ (.tail _ (.tail _ (hsub p hp)))))))) ktn_ord0 rfl (ktn_int rfl)
  | @op _ W _ _ hD' =>
    cases hS with
    | @snoc ws' _ pa _ _ _ _ hS' hm ht =>
      have hw1 := hS'.length
      have hw2 := len_wt W
      have hv1 := hI.length
      have ht0 := ht
      cases ht with
      | nm xn hm2 =>
        have hP : PartsAt tl _ [] := .nm xn hm2
        simp only [wt, Tr.size] at hlen
        have hzw : ws'.length ≤ 199999 := by omega
        have hzv : vs.length ≤ 199999 := by omega
        have hza : as.length ≤ 199999 := by omega
        rw [← List.append_nil vs] at N1
        k_steps
        dsimp only [WPost]
        refine wend tl W _ (by k_asm) (by k_asm) (by rfl) (by intro z h2 h3; have h4 := h3; simp only [wStored, List.contains_cons, List.contains_nil, Bool.or_false, Bool.or_eq_false_iff, beq_eq_false_iff_ne, ne_eq] at h4; (try simp only [h2, h4, h3, if_false, Bool.false_eq_true])) (by k_mem) (by k_mem) (by k_mem) (by k_mem) (by k_mem) (by k_mem) (fun p hp => by simp only [List.mem_cons, hp, or_true]) hS' (by first | assumption | exact intsAre_push (by assumption)) (in16_push hV (of16 (by assumption) (by assumption) (by assumption) (by assumption) (by assumption) (by assumption) xn).1 (of16 (by assumption) (by assumption) (by assumption) (by assumption) (by assumption) (by assumption) xn).2) hD' hO hsub (by omega) (by omega) (by simp only [List.length_append, List.length_cons, List.length_nil, wt, Tr.size] at *; omega) (by simp only [wt, Tr.size]; omega)
      | zero hm2 =>
        have hP : PartsAt tl _ [] := .zero hm2
        simp only [wt, Tr.size] at hlen
        have hzw : ws'.length ≤ 199999 := by omega
        have hzv : vs.length ≤ 199999 := by omega
        have hza : as.length ≤ 199999 := by omega
        rw [← List.append_nil vs] at N1
        k_steps
        dsimp only [WPost]
        refine wend tl W _ (by k_asm) (by k_asm) (by rfl) (by intro z h2 h3; have h4 := h3; simp only [wStored, List.contains_cons, List.contains_nil, Bool.or_false, Bool.or_eq_false_iff, beq_eq_false_iff_ne, ne_eq] at h4; (try simp only [h2, h4, h3, if_false, Bool.false_eq_true])) (by k_mem) (by k_mem) (by k_mem) (by k_mem) (by k_mem) (by k_mem) (fun p hp => by simp only [List.mem_cons, hp, or_true]) hS' (by first | assumption | exact intsAre_push (by assumption)) (in16_push hV (show (-32768 : Int) ≤ 0 by decide) (show (0 : Int) < 32768 by decide)) hD' hO hsub (by omega) (by omega) (by simp only [List.length_append, List.length_cons, List.length_nil, wt, Tr.size] at *; omega) (by simp only [wt, Tr.size]; omega)
      | not hm2 ht1 =>
        have hP : PartsAt tl _ [_] := .not hm2
        simp only [wt, Tr.size] at hlen
        have hzw : ws'.length ≤ 199999 := by omega
        have hzv : vs.length ≤ 199999 := by omega
        have hza : as.length ≤ 199999 := by omega
        k_steps
        dsimp only [WPost]
        refine wend (_ :: _ :: tl) (_ :: _ :: W) V (by k_asm) (by k_asm) (by rfl) (by intro z h2 h3; have h4 := h3; simp only [wStored, List.contains_cons, List.contains_nil, Bool.or_false, Bool.or_eq_false_iff, beq_eq_false_iff_ne, ne_eq] at h4; (try simp only [h2, h4, h3, if_false, Bool.false_eq_true])) (by k_mem) (by k_mem) (by k_mem) (by k_mem) (by k_mem) (by k_mem) (List.forall_mem_cons.mpr ⟨by k_mem, (List.forall_mem_cons.mpr ⟨by k_mem, (fun p hp => by simp only [List.mem_cons, hp, or_true])⟩)⟩) (.snoc (.snoc (hS'.mono (fun _ h => .tail _ (.tail _ h))) (.tail _ (.head _)) (ht0.mono (fun _ h => .tail _ (.tail _ h)))) (.head _) (ht1.mono (fun _ h => .tail _ (.tail _ h)))) (by first | assumption | exact intsAre_push (by assumption)) hV (den_not (.op hD')) (ownOff_cons (by dsimp only; omega) (by dsimp only; omega) (ownOff_cons (by dsimp only; omega) (by dsimp only; omega) hO)) (fun p h => .tail _ (.tail _ (hsub p h))) (by omega) (by omega) (by simp only [List.length_append, List.length_cons, List.length_nil, wt, Tr.size] at *; omega) (by simp only [wt, Tr.size]; omega)
      | two o hm2 ht1 ht2 =>
        have hP : PartsAt tl _ [_, _] := .two o hm2
        simp only [wt, Tr.size] at hlen
        have hzw : ws'.length ≤ 199999 := by omega
        have hzv : vs.length ≤ 199999 := by omega
        have hza : as.length ≤ 199999 := by omega
        k_steps
        dsimp only [WPost]
        refine wend (_ :: _ :: _ :: tl) (_ :: _ :: _ :: W) V (by k_asm) (by k_asm) (by rfl) (by intro z h2 h3; have h4 := h3; simp only [wStored, List.contains_cons, List.contains_nil, Bool.or_false, Bool.or_eq_false_iff, beq_eq_false_iff_ne, ne_eq] at h4; (try simp only [h2, h4, h3, if_false, Bool.false_eq_true])) (by k_mem) (by k_mem) (by k_mem) (by k_mem) (by k_mem) (by k_mem) (List.forall_mem_cons.mpr ⟨by k_mem, (List.forall_mem_cons.mpr ⟨by k_mem, (List.forall_mem_cons.mpr ⟨by k_mem, (fun p hp => by simp only [List.mem_cons, hp, or_true])⟩)⟩)⟩) (stk_two (.snoc (hS'.mono (fun _ h => .tail _ (.tail _ (.tail _ h)))) (.tail _ (.tail _ (.head _))) (ht0.mono (fun _ h => .tail _ (.tail _ (.tail _ h))))) (.tail _ (.head _)) (ht2.mono (fun _ h => .tail _ (.tail _ (.tail _ h)))) (.head _) (ht1.mono (fun _ h => .tail _ (.tail _ (.tail _ h))))) (by first | assumption | exact intsAre_push (by assumption)) hV (den_two (.op hD')) (ownOff_cons (by dsimp only; omega) (by dsimp only; omega) (ownOff_cons (by dsimp only; omega) (by dsimp only; omega) (ownOff_cons (by dsimp only; omega) (by dsimp only; omega) hO))) (fun p h => .tail _ (.tail _ (.tail _ (hsub p h)))) (by omega) (by omega) (by simp only [List.length_append, List.length_cons, List.length_nil, wt, Tr.size] at *; omega) (by simp only [wt, Tr.size]; omega)
  | @not t1 W V' xx _ hD' =>
    cases hS with
    | @snoc ws' _ pa _ _ _ _ hS' hm ht =>
      have hw1 := hS'.length
      have hw2 := len_wt W
      obtain ⟨vs', tkx, rfl, hI2⟩ := intsAre_snoc hI
      have hv1 := hI2.length
      have hV' : ∀ i ∈ V', -32768 ≤ i ∧ i < 32768 := fun i hi => hV i (List.mem_append_left _ hi)
      obtain ⟨hxx1, hxx2⟩ := hV xx (List.mem_append_right _ (.head _))
      clear hI
      cases ht with
      | not hm2 ht1 =>
        have hP : PartsAt tl _ [_] := .not hm2
        simp only [wt, Tr.size, List.length_append, List.length_cons, List.length_nil] at hlen
        have hzw : ws'.length ≤ 199999 := by omega
        have hzv : vs'.length ≤ 199999 := by omega
        have hza : as.length ≤ 199999 := by omega
        k_steps
        dsimp only [WPost]
        refine wend tl W _ (by k_asm) (by k_asm) (by rfl) (by intro z h2 h3; have h4 := h3; simp only [wStored, List.contains_cons, List.contains_nil, Bool.or_false, Bool.or_eq_false_iff, beq_eq_false_iff_ne, ne_eq] at h4; (try simp only [h2, h4, h3, if_false, Bool.false_eq_true])) (by k_mem) (by k_mem) (by k_mem) (by k_mem) (by k_mem) (by k_mem) (fun p hp => by simp only [List.mem_cons, hp, or_true]) hS' (by first | assumption | exact intsAre_push (by assumption)) (in16_push hV' (by omega) (by omega)) hD' hO hsub (by omega) (by omega) (by simp only [List.length_append, List.length_cons, List.length_nil, wt, Tr.size] at *; omega) (by simp only [wt, Tr.size]; omega)
  | @two o t1 t2 W V' xx yy _ hD' =>
    cases hS with
    | @snoc ws' _ pa _ _ _ _ hS' hm ht =>
      have hw1 := hS'.length
      have hw2 := len_wt W
      have hop : IsOp o.str o := ⟨rfl⟩
      have eV : V' ++ [xx, yy] = (V' ++ [xx]) ++ [yy] := by simp
      rw [eV] at hI hV hlen
      obtain ⟨vs1, tky, rfl, hI1⟩ := intsAre_snoc hI
      obtain ⟨vs', tkx, rfl, hI2⟩ := intsAre_snoc hI1
      have hv1 := hI2.length
      have hV' : ∀ i ∈ V', -32768 ≤ i ∧ i < 32768 := fun i hi => hV i (List.mem_append_left _ (List.mem_append_left _ hi))
      obtain ⟨hxx1, hxx2⟩ := hV xx (List.mem_append_left _ (List.mem_append_right _ (.head _)))
      obtain ⟨hyy1, hyy2⟩ := hV yy (List.mem_append_right _ (.head _))
      obtain ⟨hvv1, hvv2⟩ := val16 o hxx1 hxx2 hyy1 hyy2
      have evs : (vs' ++ [Value.int xx tkx]) ++ [Value.int yy tky] = vs' ++ [Value.int xx tkx, Value.int yy tky] := by simp
      rw [evs] at N1
      clear hI hI1 eV evs
      cases ht with
      | two o hm2 ht1 ht2 =>
        have hP : PartsAt tl _ [_, _] := .two o hm2
        simp only [wt, Tr.size, List.length_append, List.length_cons, List.length_nil] at hlen
        have hzw : ws'.length ≤ 199999 := by omega
        have hzv : vs'.length ≤ 199999 := by omega
        have hza : as.length ≤ 199999 := by omega
        k_steps
        dsimp only [WPost]
        refine wend tl W _ (by k_asm) (by k_asm) (by rfl) (by intro z h2 h3; have h4 := h3; simp only [wStored, List.contains_cons, List.contains_nil, Bool.or_false, Bool.or_eq_false_iff, beq_eq_false_iff_ne, ne_eq] at h4; (try simp only [h2, h4, h3, if_false, Bool.false_eq_true])) (by k_mem) (by k_mem) (by k_mem) (by k_mem) (by k_mem) (by k_mem) (fun p hp => by simp only [List.mem_cons, hp, or_true]) hS' (by first | assumption | exact intsAre_push (by assumption)) (in16_push hV' hvv1 hvv2) hD' hO hsub (by omega) (by omega) (by simp only [List.length_append, List.length_cons, List.length_nil, wt, Tr.size] at *; omega) (by simp only [wt, Tr.size]; omega)
end PartCWorth
section PartCNum
open PySem PySem.W PyProof.Rows PySem.Spec PySem.Calls
local macro_rules | `(tactic| k_room) => `(tactic| ktr_room)
local macro_rules | `(tactic| is_list) => `(tactic| (refine' News.isList ?N9 ?m9; (case N9 => k_asm); (case m9 => kd_lift)))
theorem fm01 (x : Int) {b : Int} (h : 1 ≤ b) : 0 ≤ x.fmod b ∧ x.fmod b < b := by
  rw [Int.fmod_eq_emod_of_nonneg _ (by omega)]
  exact ⟨Int.emod_nonneg _ (by omega), Int.emod_lt_of_pos _ (by omega)⟩
/-- a number drawn from the bag -/
theorem c_num {w : World} {mean : ExcName → Option Value} {mg mb : Str → Option Value} :
    ∀ {dp un : Nat} {gd : Option (List Code)} {cn : Str} {cs : Scope} {ad : Addr} {ccd : Value} {cl : List (Str × Addr)} {outer : List Env} {A₀ : Around} {base h₀ : Heap} {L : Addr} {m : Str → Option Value} {news : List (Addr × Obj)} {g : Obj → List (Addr × Obj)} {s : Shared}
      {bag lst : Addr} {k below : Int} {tk tb : Tok} {nb nl : Nat} {vs : List Value} {ns : List Int} {Q E : Value → Shared → Prop},
      (hd.heap_1 w.params).In h₀ → Below A₀ base outer h₀ → Fr h₀ L s.heap m → News h₀ L s.heap news → Top vw (looseW vw [Str.ofString "BasicError"]) mean mg mb h₀ → cs.kind = .function →
      UpdF bag (listOf #[.ref lst, .int k tk] nb) news g → (lst, listOf vs.toArray nl) ∈ news → @Ne Nat lst bag → IntsAre vs ns → ns.length ≤ 63 → 0 ≤ k → k ≤ 1000 → 1 ≤ below → below ≤ 65536 → dp + 10 < recursionLimit → un + 80 < cLine →
      (∀ r tr tk1 h' toks', Fr h₀ L h' m → News h₀ L h' (g (listOf #[.ref lst, .int (k + 1) tk1] nb)) → 0 ≤ r → r < below → Q (.int r tr) { s with heap := h', toks := toks' }) →
      wpAny (model PySem.Challenge.rw_xm0020_01.row.prog w) (ktrTop dp un gd cn cs L ad ccd cl outer) (call (.ref 393) [.ref bag, .int below tb]) Q E s := by
  k_fill
  w_top off
  k_with_none
  intro dp un gd cn cs ad ccd cl outer A₀ base h₀ L m news g s bag lst k below tk tb nb nl vs ns Q E X B F N T hk U hl hne hI hns hk0 hk1 hb0 hb1 hd hu hret
  have hKd := kdMark
  obtain ⟨pre, post, rfl, hg, ha, hb⟩ := U.split
  have hoff : OwnOff (pre ++ post) [bag] := by
    intro p hp b9 hb9
    rw [List.mem_singleton.mp hb9]
    exact (List.mem_append.mp hp).elim (ha p) (hb p)
  have hl' : (lst, listOf vs.toArray nl) ∈ pre ++ post := by
    rcases List.mem_append.mp hl with h | h
    · exact List.mem_append_left _ h
    · rcases List.mem_cons.mp h with h | h
      · exact absurd (congrArg Prod.fst h) hne
      · exact List.mem_append_right _ h
  have N0 : News h₀ L s.heap ((bag, listOf #[.ref lst, .int k tk] nb) :: (pre ++ post)) := news_sub N (by
    intro p hp
    simp only [List.mem_append, List.mem_cons] at hp ⊢
    rcases hp with h | h | h <;> simp only [h, true_or, or_true])
  replace hret : ∀ r tr tk1 h' toks', Fr h₀ L h' m → News h₀ L h' ((bag, listOf #[.ref lst, .int (k + 1) tk1] nb) :: (pre ++ post)) → 0 ≤ r → r < below → Q (.int r tr) { s with heap := h', toks := toks' } := by
    intro r tr tk1 h' toks' F' N' h1 h2
    refine hret r tr tk1 h' toks' F' ?_ h1 h2
    rw [hg]
    exact news_sub N' (by
      intro p hp
      simp only [List.mem_append, List.mem_cons] at hp ⊢
      rcases hp with h | h | h <;> simp only [h, true_or, or_true])
  clear N hl U hg ha hb
  generalize pre ++ post = rest at *
  refine wpAny_call ?_
  k_dflt ktr_enter
  k_steps
  all_goals exact hret _ _ _ _ _ (by k_asm) (by k_asm) (fm01 _ hb0).1 (fm01 _ hb0).2
end PartCNum
section PartCProd
open PySem PySem.W PyProof.Rows PySem.Spec PySem.Calls
noncomputable def prodT (k : Int) : Tr :=
  if k = 0 then .not .zero
  else if k = 1 then .nm .a
  else if k = 2 then .nm .b
  else if k = 3 then .two .and (.nm .a) (.nm .b)
  else if k = 4 then .nm .c
  else if k = 5 then .two .and (.nm .a) (.nm .c)
  else if k = 6 then .two .and (.nm .b) (.nm .c)
  else .two .and (.two .and (.nm .a) (.nm .b)) (.nm .c)
inductive ProdIn : List Value → Int → Prop where
  | mk {k : Int} {t : Tok} : 0 ≤ k → k < 8 → ProdIn [.int k t] k
/-- as TellsN, but what comes back is told over the new objects alone -/
noncomputable def TellsP {D : Type} (prog : Program) (w : World) (K : Frag) (p : Program) (loose : List Str) (mean : ExcName → Option Value) (mg mb : Str → Option Value) (f : Addr) (Rel : List Value → D → Prop) (n : Nat) (Out : List (Addr × Obj) → Value → D → Prop) (d : D) : Prop :=
  ∀ (dp un : Nat) (gd : Option (List Code)) (cn : Str) (cs : Scope) (a : Addr) (ccd : Value) (cl : List (Str × Addr)) (outer : List Env) (A₀ : Around) (base h₀ : Heap) (L : Addr) (m : Str → Option Value) (news : List (Addr × Obj)) (s : Shared) (vs : List Value)
    (Q E : Value → Shared → Prop),
    Below A₀ base outer h₀ → Fr h₀ L s.heap m → K.In h₀ → News h₀ L s.heap news → Top p loose mean mg mb h₀ → cs.kind = .function → Rel vs d → dp + n < recursionLimit → un + 8 * n < cLine →
    (∀ r tl h' tk', Fr h₀ L h' m → News h₀ L h' (news ++ tl) → (∀ q ∈ news, ∀ p ∈ tl, q.1 < p.1) → Out tl r d → Q r { s with heap := h', toks := tk' }) →
    wpAny (model prog w) (ktrTop dp un gd cn cs L a ccd cl outer) (call (.ref f) vs) Q E s
theorem tellsP_use {D : Type} {prog : Program} {w : World} {K : Frag} {p : Program} {loose : List Str} {mean : ExcName → Option Value} {mg mb : Str → Option Value} {f : Addr} {Rel : List Value → D → Prop} {n : Nat} {Out : List (Addr × Obj) → Value → D → Prop} {d : D}
    {dp un : Nat} {gd : Option (List Code)} {cn : Str} {cs : Scope} {a : Addr} {ccd : Value} {cl : List (Str × Addr)} {outer : List Env} {A₀ : Around} {base h₀ : Heap} {L : Addr} {m : Str → Option Value} {news : List (Addr × Obj)} {s : Shared} {vs : List Value}
    {Q E : Value → Shared → Prop} (B : Below A₀ base outer h₀) (F : Fr h₀ L s.heap m) (X : K.In h₀) (N : News h₀ L s.heap news) (T : Top p loose mean mg mb h₀) (hk : cs.kind = .function) (R : Rel vs d) (C : TellsP prog w K p loose mean mg mb f Rel n Out d)
    (hd : dp + n < recursionLimit) (hu : un + 8 * n < cLine)
    (ret : ∀ r tl h' tk', Fr h₀ L h' m → News h₀ L h' (news ++ tl) → (∀ q ∈ news, ∀ p ∈ tl, q.1 < p.1) → Out tl r d → Q r { s with heap := h', toks := tk' }) :
    wpAny (model prog w) (ktrTop dp un gd cn cs L a ccd cl outer) (call (.ref f) vs) Q E s := C _ _ _ _ _ _ _ _ _ _ _ _ _ _ _ _ _ _ _ B F X N T hk R hd hu ret
local macro_rules | `(tactic| k_room) => `(tactic| ktr_room)
local macro_rules | `(tactic| lcg_src) => `(tactic| k_mem)
local macro_rules | `(tactic| walk_at "CompEnd") => `(tactic| walk_at "my CE")
theorem news_pick {h₀ h : Heap} {L : Addr} {all news pre : List (Addr × Obj)} (N : News h₀ L h all) (h1 : ∀ p ∈ news, p ∈ all) (h2 : ∀ p ∈ pre, p ∈ all) : News h₀ L h (news ++ pre) :=
  news_sub N fun p hp => (List.mem_append.mp hp).elim (h1 p) (h2 p)
theorem ord_one {news tl : List (Addr × Obj)} {a : Addr} {o : Obj} (h : AllLt a news) (k : ∀ q ∈ news, ∀ p ∈ tl, q.1 < p.1) : ∀ q ∈ news, ∀ p ∈ (a, o) :: tl, q.1 < p.1 := by
  intro q hq p hp
  rcases List.mem_cons.mp hp with rfl | hp
  · exact ktn_ltOf h q hq
  · exact k q hq p hp
theorem unrEnd1 {h₀ : Heap} {L I : Addr} {it : Obj} {lp : Addr × Obj} {R : (Str → Option Value) → List (Addr × Obj) → Prop} {s₁ : Shared} {h' : Heap} {tk : Nat} {m' : Str → Option Value} {q : Addr × Obj} {tl : List (Addr × Obj)} (F : Fr h₀ L h' m') (N : News h₀ L h' (q :: (I, it) :: tl))
    (off : ∀ p ∈ q :: tl, p.1 ≠ I) (hl : lp ∈ q :: tl) (r : R m' (q :: tl)) : UnrEnd h₀ L s₁ I it (fun m' n' => lp ∈ n' ∧ R m' n') { s₁ with heap := h', toks := tk } :=
  UnrEnd.intro F N (q :: tl) (by
    intro p hp
    simp only [List.mem_cons] at hp ⊢
    rcases hp with h | h | h <;> simp only [h, true_or, or_true]) off ⟨hl, r⟩
theorem tr_of {tl : List (Addr × Obj)} {r : Value} {d : Int} {T : Tr} (hp : prodT d = T) (h : TrIn tl r T) : TrIn tl r (prodT d) := by rw [hp]; exact h
theorem prod_000 {d : Int} (h0 : 0 ≤ d) (h8 : d < 8) (a0 : (d.fdiv (2 ^ (0 + ((0 : Nat) : Int)).toNat)).fmod 2 ≠ 1) (a1 : (d.fdiv (2 ^ (0 + ((0 + 1 : Nat) : Int)).toNat)).fmod 2 ≠ 1) (a2 : (d.fdiv (2 ^ (0 + ((0 + 1 + 1 : Nat) : Int)).toNat)).fmod 2 ≠ 1) : prodT d = .not .zero := by
  have hc : d = 0 ∨ d = 1 ∨ d = 2 ∨ d = 3 ∨ d = 4 ∨ d = 5 ∨ d = 6 ∨ d = 7 := by omega
  rcases hc with rfl | rfl | rfl | rfl | rfl | rfl | rfl | rfl <;> first | rfl | exact absurd a0 (by decide) | exact absurd a1 (by decide) | exact absurd a2 (by decide)
theorem prod_100 {d : Int} (h0 : 0 ≤ d) (h8 : d < 8) (a0 : (d.fdiv (2 ^ (0 + ((0 : Nat) : Int)).toNat)).fmod 2 = 1) (a1 : (d.fdiv (2 ^ (0 + ((0 + 1 : Nat) : Int)).toNat)).fmod 2 ≠ 1) (a2 : (d.fdiv (2 ^ (0 + ((0 + 1 + 1 : Nat) : Int)).toNat)).fmod 2 ≠ 1) : prodT d = .nm .a := by
  have hc : d = 0 ∨ d = 1 ∨ d = 2 ∨ d = 3 ∨ d = 4 ∨ d = 5 ∨ d = 6 ∨ d = 7 := by omega
  rcases hc with rfl | rfl | rfl | rfl | rfl | rfl | rfl | rfl <;> first | rfl | exact absurd a0 (by decide) | exact absurd a1 (by decide) | exact absurd a2 (by decide)
theorem prod_010 {d : Int} (h0 : 0 ≤ d) (h8 : d < 8) (a0 : (d.fdiv (2 ^ (0 + ((0 : Nat) : Int)).toNat)).fmod 2 ≠ 1) (a1 : (d.fdiv (2 ^ (0 + ((0 + 1 : Nat) : Int)).toNat)).fmod 2 = 1) (a2 : (d.fdiv (2 ^ (0 + ((0 + 1 + 1 : Nat) : Int)).toNat)).fmod 2 ≠ 1) : prodT d = .nm .b := by
  have hc : d = 0 ∨ d = 1 ∨ d = 2 ∨ d = 3 ∨ d = 4 ∨ d = 5 ∨ d = 6 ∨ d = 7 := by omega
  rcases hc with rfl | rfl | rfl | rfl | rfl | rfl | rfl | rfl <;> first | rfl | exact absurd a0 (by decide) | exact absurd a1 (by decide) | exact absurd a2 (by decide)
theorem prod_001 {d : Int} (h0 : 0 ≤ d) (h8 : d < 8) (a0 : (d.fdiv (2 ^ (0 + ((0 : Nat) : Int)).toNat)).fmod 2 ≠ 1) (a1 : (d.fdiv (2 ^ (0 + ((0 + 1 : Nat) : Int)).toNat)).fmod 2 ≠ 1) (a2 : (d.fdiv (2 ^ (0 + ((0 + 1 + 1 : Nat) : Int)).toNat)).fmod 2 = 1) : prodT d = .nm .c := by
  have hc : d = 0 ∨ d = 1 ∨ d = 2 ∨ d = 3 ∨ d = 4 ∨ d = 5 ∨ d = 6 ∨ d = 7 := by omega
  rcases hc with rfl | rfl | rfl | rfl | rfl | rfl | rfl | rfl <;> first | rfl | exact absurd a0 (by decide) | exact absurd a1 (by decide) | exact absurd a2 (by decide)
theorem prod_110 {d : Int} (h0 : 0 ≤ d) (h8 : d < 8) (a0 : (d.fdiv (2 ^ (0 + ((0 : Nat) : Int)).toNat)).fmod 2 = 1) (a1 : (d.fdiv (2 ^ (0 + ((0 + 1 : Nat) : Int)).toNat)).fmod 2 = 1) (a2 : (d.fdiv (2 ^ (0 + ((0 + 1 + 1 : Nat) : Int)).toNat)).fmod 2 ≠ 1) : prodT d = .two .and (.nm .a) (.nm .b) := by
  have hc : d = 0 ∨ d = 1 ∨ d = 2 ∨ d = 3 ∨ d = 4 ∨ d = 5 ∨ d = 6 ∨ d = 7 := by omega
  rcases hc with rfl | rfl | rfl | rfl | rfl | rfl | rfl | rfl <;> first | rfl | exact absurd a0 (by decide) | exact absurd a1 (by decide) | exact absurd a2 (by decide)
theorem prod_101 {d : Int} (h0 : 0 ≤ d) (h8 : d < 8) (a0 : (d.fdiv (2 ^ (0 + ((0 : Nat) : Int)).toNat)).fmod 2 = 1) (a1 : (d.fdiv (2 ^ (0 + ((0 + 1 : Nat) : Int)).toNat)).fmod 2 ≠ 1) (a2 : (d.fdiv (2 ^ (0 + ((0 + 1 + 1 : Nat) : Int)).toNat)).fmod 2 = 1) : prodT d = .two .and (.nm .a) (.nm .c) := by
  have hc : d = 0 ∨ d = 1 ∨ d = 2 ∨ d = 3 ∨ d = 4 ∨ d = 5 ∨ d = 6 ∨ d = 7 := by omega
  rcases hc with rfl | rfl | rfl | rfl | rfl | rfl | rfl | rfl <;> first | rfl | exact absurd a0 (by decide) | exact absurd a1 (by decide) | exact absurd a2 (by decide)
theorem prod_011 {d : Int} (h0 : 0 ≤ d) (h8 : d < 8) (a0 : (d.fdiv (2 ^ (0 + ((0 : Nat) : Int)).toNat)).fmod 2 ≠ 1) (a1 : (d.fdiv (2 ^ (0 + ((0 + 1 : Nat) : Int)).toNat)).fmod 2 = 1) (a2 : (d.fdiv (2 ^ (0 + ((0 + 1 + 1 : Nat) : Int)).toNat)).fmod 2 = 1) : prodT d = .two .and (.nm .b) (.nm .c) := by
  have hc : d = 0 ∨ d = 1 ∨ d = 2 ∨ d = 3 ∨ d = 4 ∨ d = 5 ∨ d = 6 ∨ d = 7 := by omega
  rcases hc with rfl | rfl | rfl | rfl | rfl | rfl | rfl | rfl <;> first | rfl | exact absurd a0 (by decide) | exact absurd a1 (by decide) | exact absurd a2 (by decide)
theorem prod_111 {d : Int} (h0 : 0 ≤ d) (h8 : d < 8) (a0 : (d.fdiv (2 ^ (0 + ((0 : Nat) : Int)).toNat)).fmod 2 = 1) (a1 : (d.fdiv (2 ^ (0 + ((0 + 1 : Nat) : Int)).toNat)).fmod 2 = 1) (a2 : (d.fdiv (2 ^ (0 + ((0 + 1 + 1 : Nat) : Int)).toNat)).fmod 2 = 1) : prodT d = .two .and (.two .and (.nm .a) (.nm .b)) (.nm .c) := by
  have hc : d = 0 ∨ d = 1 ∨ d = 2 ∨ d = 3 ∨ d = 4 ∨ d = 5 ∨ d = 6 ∨ d = 7 := by omega
  rcases hc with rfl | rfl | rfl | rfl | rfl | rfl | rfl | rfl <;> first | rfl | exact absurd a0 (by decide) | exact absurd a1 (by decide) | exact absurd a2 (by decide)
local macro_rules | `(tactic| walk_at "exec For") => `(tactic| walk_at "my ForV")
local macro_rules | `(tactic| walk_at "exec For Name Subscript") => `(tactic| walk_at "my ForV")
local macro_rules | `(tactic| walk_at "pyIter ref") => `(tactic| ((with_reducible show wpAny _ _ (pyIter (Value.ref _)) (fun it s₂ => LoopAtV _ _ _ _ _ _ _ _ _ it s₂) _ _); (rename Fr _ _ _ _ => lF'); (rename News _ _ _ _ => lN'); (with_unfolding_all refine iter_listUnr (by rfl) lF' lN' (by k_mem) (by rfl) (by rfl) ?_); clear lF' lN'; intro i' l1; (try k_lt l1)))
local macro_rules | `(tactic| walk_at "UnrEnd") => `(tactic| (k_dflt (refine' unrEnd1 ?F ?N ?o ?l ?_; (case F | N => assumption); (case o => k_all); (case l => k_mem))))
theorem item_abc {prog : Program} {w : World} {A : Around} {E : Value → Shared → Prop} {s : Shared} {value slice : PySem.Expr} {i : Int} {t u : Tok} {Q : Value → Shared → Prop} (x : Nm) (hi : i = (x.num : Int)) (h : Q (.str x.str s.toks) { s with toks := s.toks + 1 })
    (hs : subscripted slice false (.str (Str.ofString "ABC") t) (.int i u) = operate [.str (Str.ofString "ABC") t, .int i u] (getItem (.str (Str.ofString "ABC") t) (.int i u)) := by with_unfolding_all rfl) (hg : ∀ r, letTemporaryGo value (.str (Str.ofString "ABC") t) r = pure () := by intro _; with_unfolding_all rfl) :
    wpAny (model prog w) A (subscriptTail value slice (.str (Str.ofString "ABC") t) (.int i u)) Q E s := by
  refine subscriptTail_builtin (typeIs_str s _ t) F.slot_str_getitem.lookup ?_ hs hg
  subst hi
  cases x
  · exact P.getItem_str (c := 65) (by decide) (by decide +kernel) (by rw [show (⟨#[65]⟩ : Str) = Nm.str .a by decide +kernel]; exact h)
  · exact P.getItem_str (c := 66) (by decide) (by decide +kernel) (by rw [show (⟨#[66]⟩ : Str) = Nm.str .b by decide +kernel]; exact h)
  · exact P.getItem_str (c := 67) (by decide) (by decide +kernel) (by rw [show (⟨#[67]⟩ : Str) = Nm.str .c by decide +kernel]; exact h)
theorem item_fst {prog : Program} {w : World} {A : Around} {E : Value → Shared → Prop} {s : Shared} {h₀ : Heap} {L l : Addr} {news : List (Addr × Obj)} {n : Nat} {value slice : PySem.Expr} {v : Value} {vs : List Value} {u : Tok} {Q : Value → Shared → Prop} (N : News h₀ L s.heap news) (hm : (l, listOf (v :: vs).toArray n) ∈ news) (hz : vs.length ≤ 8) (h : Q v s)
    (hs : subscripted slice false (.ref l) (.int 0 u) = operate [.ref l, .int 0 u] (getItem (.ref l) (.int 0 u)) := by with_unfolding_all rfl) (hg : ∀ r, letTemporaryGo value (.ref l) r = pure () := by intro _; with_unfolding_all rfl) :
    wpAny (model prog w) A (subscriptTail value slice (.ref l) (.int 0 u)) Q E s :=
  item_listL (News.isList N hm) (by decide) (by decide) rfl h hs hg
local macro_rules | `(tactic| walk_at "subscriptTail Name Constant ref int") => `(tactic| (k_here; (with_reducible show wpAny _ _ (subscriptTail _ _ (Value.ref _) (Value.int 0 _)) _ _ _); k_dflt (refine' item_fst ?N ?m ?z ?_ ?a ?b; (case N => k_asm); (case m => k_mem); (case z => exact Nat.le_of_ble_eq_true rfl); (case a => with_unfolding_all rfl); (case b => (intro _; with_unfolding_all rfl)))))
local macro_rules | `(tactic| walk_at "subscriptTail") => `(tactic| (k_here; (with_reducible show wpAny _ _ (subscriptTail _ _ (Value.str (Str.ofString "ABC") _) (Value.int _ _)) _ _ _); k_dflt (first
  | (refine' item_abc .a ?hi ?_ ?a ?b; (case hi => rfl); (case a => with_unfolding_all rfl); (case b => (intro _; with_unfolding_all rfl)))
  | (refine' item_abc .b ?hi ?_ ?a ?b; (case hi => rfl); (case a => with_unfolding_all rfl); (case b => (intro _; with_unfolding_all rfl)))
  | (refine' item_abc .c ?hi ?_ ?a ?b; (case hi => rfl); (case a => with_unfolding_all rfl); (case b => (intro _; with_unfolding_all rfl))))))
local macro_rules | `(tactic| walk_at "ite") => `(tactic| first | with_reducible refine ite_tt ?_ | with_reducible refine ite_ff ?_ | (with_reducible refine split_ieq ?_ ?_ <;> intro _))
local macro_rules | `(tactic| walk_at "compareOp Eq ref ref") => `(tactic| (k_here; k_dflt (refine' SeqAt.eq_list_lengthsAt (News.isList ?N ?l) (News.isList ?N2 ?b) ?z ?u ?_; (case N | N2 => k_asm); (case l | b => k_mem); (case z => rfl); (case u => ktr_units))))
theorem c_prod (w : World) (mean : ExcName → Option Value) (mg mb : Str → Option Value) : ∀ d, TellsP PySem.Challenge.rw_xm0020_01.row.prog w (hd.heap_1 w.params) vw (looseW vw [Str.ofString "BasicError"]) mean mg mb 424 ProdIn 10 (fun tl r d => TrIn tl r (prodT d)) d := by
  intro d
  unfold TellsP
  k_fill
  w_top off
  k_with_none
  intro dp un gd cn cs ad ccd cl outer A₀ base h₀ L m news s vs Q E B F X N T hk hR hd hu hret
  have hKd := kdMark
  cases hR with
  | mk hk0 hk8 => ?_
  refine wpAny_call ?_
  k_dflt (refine' code_defC ?zpk1 ?zpk2 ?zpk3 ?zpk4 ?zpk5 ?zpkA ?zpkF ?zpkK ?zpk6 ?zpk7 ?zpk8 ?zpk9 ?zpkB ?zpkD ?_ ?zpc2 ?zpc3 ?zpc4; (case zpkA | zpkF => exact rfl); (case zpkK => assumption); (case zpk1 | zpk2 => k_asm); (case zpk3 | zpk4 | zpk5 => k_asm); (case zpk6 | zpk7 => k_is); (case zpk8 => ktr_room); (case zpk9 => exact BindsTo.of_eq rfl); (case zpkB => exact rfl); (case zpkD => decide +kernel); (case zpc2 | zpc3 | zpc4 => exact rfl); k_whole; intro g' L' h' tk' cells' FG' F' N' Y' B' X' T' l1; (try k_lt l1); k_cells Y'; (try simp only [List.cons_append, List.nil_append] at N'); (try dsimp only); (try k_fold))
  k_steps
  all_goals (first
    | (have hp := prod_000 hk0 hk8 (by assumption) (by assumption) (by assumption); exact hret _ [_, _] _ _ (by k_asm) (news_pick (by k_asm) (fun p hp => by simp only [List.mem_cons, hp, or_true]) (List.forall_mem_cons.mpr ⟨by k_mem, List.forall_mem_cons.mpr ⟨by k_mem, List.forall_mem_nil _⟩⟩)) (ord_one (by first | tbn_find | ktn_lt) (ord_one (by first | tbn_find | ktn_lt) ktn_ord0)) (show TrIn _ _ (prodT d) from tr_of hp (TrIn.not (.head _) (TrIn.zero (.tail _ (.head _))))))
    | (have hp := prod_100 hk0 hk8 (by assumption) (by assumption) (by assumption); exact hret _ [_] _ _ (by k_asm) (news_pick (by k_asm) (fun p hp => by simp only [List.mem_cons, hp, or_true]) (List.forall_mem_cons.mpr ⟨by k_mem, List.forall_mem_nil _⟩)) (ord_one (by first | tbn_find | ktn_lt) ktn_ord0) (show TrIn _ _ (prodT d) from tr_of hp (TrIn.nm .a (.head _))))
    | (have hp := prod_010 hk0 hk8 (by assumption) (by assumption) (by assumption); exact hret _ [_] _ _ (by k_asm) (news_pick (by k_asm) (fun p hp => by simp only [List.mem_cons, hp, or_true]) (List.forall_mem_cons.mpr ⟨by k_mem, List.forall_mem_nil _⟩)) (ord_one (by first | tbn_find | ktn_lt) ktn_ord0) (show TrIn _ _ (prodT d) from tr_of hp (TrIn.nm .b (.head _))))
    | (have hp := prod_001 hk0 hk8 (by assumption) (by assumption) (by assumption); exact hret _ [_] _ _ (by k_asm) (news_pick (by k_asm) (fun p hp => by simp only [List.mem_cons, hp, or_true]) (List.forall_mem_cons.mpr ⟨by k_mem, List.forall_mem_nil _⟩)) (ord_one (by first | tbn_find | ktn_lt) ktn_ord0) (show TrIn _ _ (prodT d) from tr_of hp (TrIn.nm .c (.head _))))
    | (have hp := prod_110 hk0 hk8 (by assumption) (by assumption) (by assumption); exact hret _ [_, _, _] _ _ (by k_asm) (news_pick (by k_asm) (fun p hp => by simp only [List.mem_cons, hp, or_true]) (List.forall_mem_cons.mpr ⟨by k_mem, List.forall_mem_cons.mpr ⟨by k_mem, List.forall_mem_cons.mpr ⟨by k_mem, List.forall_mem_nil _⟩⟩⟩)) (ord_one (by first | tbn_find | ktn_lt) (ord_one (by first | tbn_find | ktn_lt) (ord_one (by first | tbn_find | ktn_lt) ktn_ord0))) (show TrIn _ _ (prodT d) from tr_of hp (TrIn.two .and (.head _) (TrIn.nm .a (.tail _ (.head _))) (TrIn.nm .b (.tail _ (.tail _ (.head _)))))))
    | (have hp := prod_101 hk0 hk8 (by assumption) (by assumption) (by assumption); exact hret _ [_, _, _] _ _ (by k_asm) (news_pick (by k_asm) (fun p hp => by simp only [List.mem_cons, hp, or_true]) (List.forall_mem_cons.mpr ⟨by k_mem, List.forall_mem_cons.mpr ⟨by k_mem, List.forall_mem_cons.mpr ⟨by k_mem, List.forall_mem_nil _⟩⟩⟩)) (ord_one (by first | tbn_find | ktn_lt) (ord_one (by first | tbn_find | ktn_lt) (ord_one (by first | tbn_find | ktn_lt) ktn_ord0))) (show TrIn _ _ (prodT d) from tr_of hp (TrIn.two .and (.head _) (TrIn.nm .a (.tail _ (.head _))) (TrIn.nm .c (.tail _ (.tail _ (.head _)))))))
    | (have hp := prod_011 hk0 hk8 (by assumption) (by assumption) (by assumption); exact hret _ [_, _, _] _ _ (by k_asm) (news_pick (by k_asm) (fun p hp => by simp only [List.mem_cons, hp, or_true]) (List.forall_mem_cons.mpr ⟨by k_mem, List.forall_mem_cons.mpr ⟨by k_mem, List.forall_mem_cons.mpr ⟨by k_mem, List.forall_mem_nil _⟩⟩⟩)) (ord_one (by first | tbn_find | ktn_lt) (ord_one (by first | tbn_find | ktn_lt) (ord_one (by first | tbn_find | ktn_lt) ktn_ord0))) (show TrIn _ _ (prodT d) from tr_of hp (TrIn.two .and (.head _) (TrIn.nm .b (.tail _ (.head _))) (TrIn.nm .c (.tail _ (.tail _ (.head _)))))))
    | (have hp := prod_111 hk0 hk8 (by assumption) (by assumption) (by assumption); exact hret _ [_, _, _, _, _] _ _ (by k_asm) (news_pick (by k_asm) (fun p hp => by simp only [List.mem_cons, hp, or_true]) (List.forall_mem_cons.mpr ⟨by k_mem, List.forall_mem_cons.mpr ⟨by k_mem, List.forall_mem_cons.mpr ⟨by k_mem, List.forall_mem_cons.mpr ⟨by k_mem, List.forall_mem_cons.mpr ⟨by k_mem, List.forall_mem_nil _⟩⟩⟩⟩⟩)) (ord_one (by first | tbn_find | ktn_lt) (ord_one (by first | tbn_find | ktn_lt) (ord_one (by first | tbn_find | ktn_lt) (ord_one (by first | tbn_find | ktn_lt) (ord_one (by first | tbn_find | ktn_lt) ktn_ord0))))) (show TrIn _ _ (prodT d) from tr_of hp (TrIn.two .and (.head _) (TrIn.two .and (.tail _ (.head _)) (TrIn.nm .a (.tail _ (.tail _ (.head _)))) (TrIn.nm .b (.tail _ (.tail _ (.tail _ (.head _)))))) (TrIn.nm .c (.tail _ (.tail _ (.tail _ (.tail _ (.head _))))))))))
end PartCProd
section PartCSum
open PySem PySem.W PyProof.Rows PySem.Spec PySem.Calls
theorem TrIn.ref {news : List (Addr × Obj)} {v : Value} {t : Tr} (h : TrIn news v t) : ∃ a, v = .ref a := by cases h <;> exact ⟨_, rfl⟩
theorem tb_close {Rel : List (Addr × Obj) → Value → Option Tr → Prop} {x y : Str} {stored : List Str} {m₀ : Str → Option Value} {d : Option Tr} {h₀ : Heap} {L : Addr} {own news tl all add : List (Addr × Obj)} {m' : Str → Option Value} {v' : Value} {s₁ : Shared} {h' : Heap} {tk : Nat}
    (F : Fr h₀ L h' m') (N : News h₀ L h' all) (h1 : ∀ p ∈ news ++ (tl ++ own), p ∈ all) (h2 : ∀ p ∈ add, p ∈ all) (ho : ∀ q ∈ news ++ (tl ++ own), ∀ p ∈ add, q.1 < p.1) (hoff : TbOff own (news ++ tl)) (ht : OwnOff tl (news.map (·.1))) (hv : m' y = some v') (hR : Rel (news ++ (add ++ tl)) v' d)
    (hm : ∀ z, z ≠ x → z ≠ y → stored.contains z = false → m' z = m₀ z) : TbEnd h₀ L (TbKeep Rel x y stored m₀ news d) own s₁ { s₁ with heap := h', toks := tk } := by
  refine ⟨h', tk, m', all, news ++ (add ++ tl), rfl, F, N, ?_, fun p hp => h1 p (List.mem_append_right _ (List.mem_append_right _ hp)), ?_, add ++ tl, rfl, ?_, ⟨v', hv, hR⟩, hm⟩
  · intro p hp
    rcases List.mem_append.mp hp with hp | hp
    · exact h1 p (List.mem_append_left _ hp)
    · rcases List.mem_append.mp hp with hp | hp
      · exact h2 p hp
      · exact h1 p (List.mem_append_right _ (List.mem_append_left _ hp))
  · intro p hp q hq
    rcases List.mem_append.mp hq with hq | hq
    · exact hoff p hp q (List.mem_append_left _ hq)
    · rcases List.mem_append.mp hq with hq | hq
      · exact Nat.ne_of_lt (ho p (List.mem_append_right _ (List.mem_append_right _ hp)) q hq)
      · exact hoff p hp q (List.mem_append_right _ hq)
  · intro p hp b9 hb
    rcases List.mem_append.mp hp with hp | hp
    · obtain ⟨q, hq, rfl⟩ := List.mem_map.mp hb
      exact Nat.ne_of_gt (ho q (List.mem_append_left _ hq) p hp)
    · exact ht p hp b9 hb
inductive OptIn (news : List (Addr × Obj)) : Value → Option Tr → Prop where
  | none : OptIn news .none none
  | some {v : Value} {t : Tr} : TrIn news v t → OptIn news v (some t)
noncomputable def sumStep (c : Int) (d : Option Tr) (k : Int) : Option Tr :=
  if (c.fdiv (2 ^ k.toNat)).fmod 2 = 1 then some (match d with | .none => prodT k | .some t => .two .xor t (prodT k)) else d
noncomputable def sumT (c : Int) : Tr := ((rangeKs 0 8).foldl (sumStep c) none).getD .zero
inductive SumIn : List Value → Int → Prop where
  | mk {k : Int} {t : Tok} : 0 ≤ k → k < 256 → SumIn [.int k t] k
/-- as TellsP, the new objects in any order -/
noncomputable def TellsQ {D : Type} (prog : Program) (w : World) (K : Frag) (p : Program) (loose : List Str) (mean : ExcName → Option Value) (mg mb : Str → Option Value) (f : Addr) (Rel : List Value → D → Prop) (n : Nat) (Out : List (Addr × Obj) → Value → D → Prop) (d : D) : Prop :=
  ∀ (dp un : Nat) (gd : Option (List Code)) (cn : Str) (cs : Scope) (a : Addr) (ccd : Value) (cl : List (Str × Addr)) (outer : List Env) (A₀ : Around) (base h₀ : Heap) (L : Addr) (m : Str → Option Value) (news : List (Addr × Obj)) (s : Shared) (vs : List Value)
    (Q E : Value → Shared → Prop),
    Below A₀ base outer h₀ → Fr h₀ L s.heap m → K.In h₀ → News h₀ L s.heap news → Top p loose mean mg mb h₀ → cs.kind = .function → Rel vs d → dp + n < recursionLimit → un + 8 * n < cLine →
    (∀ r tl h' tk', Fr h₀ L h' m → News h₀ L h' (news ++ tl) → Out (news ++ tl) r d → Q r { s with heap := h', toks := tk' }) →
    wpAny (model prog w) (ktrTop dp un gd cn cs L a ccd cl outer) (call (.ref f) vs) Q E s
local macro_rules | `(tactic| k_room) => `(tactic| ktr_room)
local macro_rules | `(tactic| walk_at "call ref") => `(tactic| ((with_reducible show wpAny _ _ (call (Value.ref 424) _) _ _ _); k_dflt (refine' tellsP_use ?k1 ?k2 ?k3 ?k4 ?k5 ?kK (ProdIn.mk ?r1 ?r2) (c_prod _ _ _ _ _) ?kd ?ku ?_; (case k1 | k2 => k_asm); (case k3 | k4 | k5 => k_asm); (case kK => first | rfl | assumption); (case r1 | r2 => omega); (case kd => ktr_room); (case ku => ktr_units)); intro r9 tl9 h9 tk9 F9 N9 hl9 ho9; (try simp only [List.nil_append, List.cons_append, List.append_nil, List.append_assoc] at N9)))
local macro_rules | `(tactic| walk_at "newTuple") => `(tactic| walk_at "my nt")
local macro_rules | `(tactic| walk_at "exec For") => `(tactic| walk_at "my ForV")
local macro_rules | `(tactic| walk_at "exec For Name Call") => `(tactic| walk_at "my ForV")
local macro_rules | `(tactic| walk_at "exec For Name Call cons nil") => `(tactic| walk_at "my ForV")
local macro_rules | `(tactic| walk_at "pyIter ref") => `(tactic| (refine stop_here ?_))
theorem c_ord {news tl own tl9 : List (Addr × Obj)} {a : Addr} {o : Obj} (h : AllLt a (news ++ (tl ++ (own ++ tl9)))) (k : ∀ q ∈ news ++ (tl ++ own), ∀ p ∈ tl9, q.1 < p.1) : ∀ q ∈ news ++ (tl ++ own), ∀ p ∈ (a, o) :: tl9, q.1 < p.1 := by
  intro q hq p hp
  rcases List.mem_cons.mp hp with rfl | hp
  · refine ktn_ltOf h q ?_
    simp only [List.mem_append] at hq ⊢
    rcases hq with h | h | h <;> simp only [h, true_or, or_true]
  · exact k q hq p hp
theorem tb_close2 {Rel : List (Addr × Obj) → Value → Option Tr → Prop} {x y : Str} {stored : List Str} {m₀ : Str → Option Value} {d : Option Tr} {h₀ : Heap} {L : Addr} {own news tl tl9 : List (Addr × Obj)} {a : Addr} {o : Obj} {m' : Str → Option Value} {v' : Value} {s₁ : Shared} {h' : Heap} {tk : Nat}
    (F : Fr h₀ L h' m') (N : News h₀ L h' ((a, o) :: (news ++ (tl ++ (own ++ tl9))))) (hlt : AllLt a (news ++ (tl ++ (own ++ tl9)))) (k : ∀ q ∈ news ++ (tl ++ own), ∀ p ∈ tl9, q.1 < p.1) (hoff : TbOff own (news ++ tl)) (ht : OwnOff tl (news.map (·.1))) (hv : m' y = some v')
    (hR : Rel (news ++ (((a, o) :: tl9) ++ tl)) v' d) (hm : ∀ z, z ≠ x → z ≠ y → stored.contains z = false → m' z = m₀ z) : TbEnd h₀ L (TbKeep Rel x y stored m₀ news d) own s₁ { s₁ with heap := h', toks := tk } := by
  refine tb_close F N ?_ ?_ (c_ord hlt k) hoff ht hv hR hm
  · intro p hp
    simp only [List.mem_append, List.mem_cons] at hp ⊢
    rcases hp with h | h | h <;> simp only [h, true_or, or_true]
  · intro p hp
    simp only [List.mem_append, List.mem_cons] at hp ⊢
    rcases hp with h | h <;> simp only [h, true_or, or_true]
theorem sumT_none {d : Int} (h : (rangeKs 0 8).foldl (sumStep d) none = none) : sumT d = .zero := by simp [sumT, h]
theorem sumT_some {d : Int} {t : Tr} (h : (rangeKs 0 8).foldl (sumStep d) none = some t) : sumT d = t := by simp [sumT, h]
theorem step_none {c k : Int} (h : (c.fdiv (2 ^ k.toNat)).fmod 2 = 1) : sumStep c none k = some (prodT k) := if_pos h
theorem step_some {c k : Int} {t : Tr} (h : (c.fdiv (2 ^ k.toNat)).fmod 2 = 1) : sumStep c (some t) k = some (.two .xor t (prodT k)) := if_pos h
theorem step_not {c k : Int} {d : Option Tr} (h : (c.fdiv (2 ^ k.toNat)).fmod 2 ≠ 1) : sumStep c d k = d := if_neg h
theorem c_sum (w : World) (mean : ExcName → Option Value) (mg mb : Str → Option Value) : ∀ d, TellsQ PySem.Challenge.rw_xm0020_01.row.prog w (hd.heap_1 w.params) vw (looseW vw [Str.ofString "BasicError"]) mean mg mb 431 SumIn 20 (fun news r d => TrIn news r (sumT d)) d := by
  intro d
  unfold TellsQ
  k_fill
  w_top off
  k_with_none
  intro dp un gd cn cs ad ccd cl outer A₀ base h₀ L m news s vs Q E B F X N T hk hR hd hu hret
  have hKd := kdMark
  cases hR with
  | mk hk0 hk8 => ?_
  refine wpAny_call ?_
  k_dflt ktr_enter
  k_steps
  unfold Stop
  (rename Fr _ _ _ _ => lF'); (rename News _ _ _ _ => lN'); (rename IsRange _ _ _ _ _ _ _ _ => rgX)
  with_unfolding_all refine' tbr_tree1 (Rel := OptIn) (y := Str.ofString "found") [] (sumStep d) (by rfl) rgX (by decide) (by rfl) lF' lN' (by rfl) OptIn.none (fun k' t' v' d' u' tl' h' tk' own' hlo' hhi' hoff' ht' hto' hR' F' N' => ?_) (fun u' v' tl' h' tk' ht' hR' F' N' => ?_)
  · replace hhi' : k' < 8 := hhi'
    cases hR' with
    | none =>
      k_steps
      · refine tb_close (by k_asm) (by k_asm) ?_ ?_ (by assumption) hoff' ht' (by rfl) (by rw [step_none (by assumption)]; exact OptIn.some (TrIn.mono (by assumption) fun p hp => List.mem_append_right _ (List.mem_append_left _ hp))) ?_
        · intro p hp
          simp only [List.mem_append] at hp ⊢
          rcases hp with h | h | h <;> simp only [h, true_or, or_true]
        · intro p hp
          simp only [List.mem_append, hp, or_true]
        · intro z h2 h3 h4
          simp only [h2, h3, h4, if_false, Bool.false_eq_true]
      · refine TbEnd.none (by k_asm) (by k_asm) hoff' ht' (by rfl) (by rw [step_not (by assumption)]; exact OptIn.none) ?_
        intro z h2 h3 h4
        simp only [h2, h3, h4, if_false, Bool.false_eq_true]
    | some ht2 =>
      obtain ⟨pa, rfl⟩ := ht2.ref
      k_steps
      · refine tb_close2 (by k_asm) (by k_asm) (by first | tbn_find | ktn_lt) (by assumption) hoff' ht' (by rfl) ?_ ?_
        · rw [step_some (by assumption)]
          exact OptIn.some (TrIn.two .xor (List.mem_append_right _ (.head _)) (ht2.mono fun p hp => (List.mem_append.mp hp).elim (fun h => List.mem_append_left _ h) fun h => List.mem_append_right _ (.tail _ (List.mem_append_right _ h))) (TrIn.mono (by assumption) fun p hp => List.mem_append_right _ (.tail _ (List.mem_append_left _ hp))))
        · intro z h2 h3 h4
          simp only [h2, h3, h4, if_false, Bool.false_eq_true]
      · refine TbEnd.none (by k_asm) (by k_asm) hoff' ht' (by rfl) (by rw [step_not (by assumption)]; exact OptIn.some ht2) ?_
        intro z h2 h3 h4
        simp only [h2, h3, h4, if_false, Bool.false_eq_true]
  · generalize hq : (rangeKs 0 8).foldl (sumStep d) none = q at hR'
    cases hR' with
    | none =>
      k_steps
      refine hret _ _ _ _ (by k_asm) (ktn_tl2 (by k_asm)) ?_
      show TrIn _ _ (sumT d)
      rw [sumT_none hq]
      exact TrIn.zero ktn_new
    | some ht2 =>
      obtain ⟨pa, rfl⟩ := ht2.ref
      k_steps
      refine hret _ _ _ _ (by k_asm) (by k_asm) ?_
      show TrIn _ _ (sumT d)
      rw [sumT_some hq]
      exact ht2
end PartCSum
section PartPlain
open PySem PySem.W PyProof.Rows PySem.Calls
open PySem.Builtin (bitAnd bitOr bitXor bitNot)
theorem eval16 {a b c : Int} (ha1 : -32768 ≤ a) (ha2 : a < 32768) (hb1 : -32768 ≤ b) (hb2 : b < 32768) (hc1 : -32768 ≤ c) (hc2 : c < 32768) : ∀ t : Tr, -32768 ≤ t.eval a b c ∧ t.eval a b c < 32768
  | .nm n => of16 ha1 ha2 hb1 hb2 hc1 hc2 n
  | .zero => by show (-32768 : Int) ≤ 0 ∧ (0 : Int) < 32768; decide
  | .not t => by
    have := eval16 ha1 ha2 hb1 hb2 hc1 hc2 t
    show -32768 ≤ -1 - t.eval a b c ∧ -1 - t.eval a b c < 32768
    omega
  | .two o l r => by
    have h1 := eval16 ha1 ha2 hb1 hb2 hc1 hc2 l
    have h2 := eval16 ha1 ha2 hb1 hb2 hc1 hc2 r
    exact val16 o h1.1 h1.2 h2.1 h2.2
/-- the i-th bit -/
noncomputable def bt (x : Int) : Nat → Int
  | 0 => x % 2
  | i + 1 => bt (x / 2) i
theorem bt01 : ∀ (i : Nat) (x : Int), bt x i = 0 ∨ bt x i = 1
  | 0, x => by unfold bt; omega
  | i + 1, x => bt01 i (x / 2)
theorem bt_is : ∀ (i : Nat) (x : Int), bt x i = x / 2 ^ i % 2
  | 0, x => by simp [bt]
  | i + 1, x => by
    show bt (x / 2) i = _
    rw [bt_is i, Int.ediv_ediv_of_nonneg (by decide), Int.pow_succ, Int.mul_comm]
theorem bt_and : ∀ (i : Nat) (x y : Int), bt (bitAnd x y) i = bt x i * bt y i
  | 0, x, y => by
    have h := and_half x y
    show bitAnd x y % 2 = (x % 2) * (y % 2)
    have hx : x % 2 = 0 ∨ x % 2 = 1 := by omega
    have hy : y % 2 = 0 ∨ y % 2 = 1 := by omega
    rcases hx with hx | hx <;> rcases hy with hy | hy <;> rw [hx, hy] <;> rw [hx, hy] at h <;> simp at h <;> omega
  | i + 1, x, y => by
    have h := and_half x y
    have e : bitAnd x y / 2 = bitAnd (x / 2) (y / 2) := by
      split at h <;> omega
    show bt (bitAnd x y / 2) i = bt (x / 2) i * bt (y / 2) i
    rw [e, bt_and i]
theorem bt_not : ∀ (i : Nat) (x : Int), bt (-1 - x) i = 1 - bt x i
  | 0, x => by show (-1 - x) % 2 = 1 - x % 2; omega
  | i + 1, x => by
    show bt ((-1 - x) / 2) i = 1 - bt (x / 2) i
    rw [show (-1 - x) / 2 = -1 - x / 2 by omega, bt_not i]
theorem bt_or (i : Nat) (x y : Int) : bt (bitOr x y) i = 1 - (1 - bt x i) * (1 - bt y i) := by rw [or_is, bt_not, bt_and, bt_not, bt_not]
theorem bt_xor : ∀ (i : Nat) (x y : Int), bt (bitXor x y) i = if bt x i = bt y i then 0 else 1
  | 0, x, y => by
    have h := xor_half x y
    show bitXor x y % 2 = if x % 2 = y % 2 then 0 else 1
    split <;> rename_i hh <;> simp only [hh, if_true, if_false] at h <;> omega
  | i + 1, x, y => by
    have h := xor_half x y
    have e : bitXor x y / 2 = bitXor (x / 2) (y / 2) := by
      split at h <;> omega
    show bt (bitXor x y / 2) i = if bt (x / 2) i = bt (y / 2) i then 0 else 1
    rw [e, bt_xor i]
theorem bt_val (o : Op) (i : Nat) (x y : Int) : bt (o.val x y) i = o.tr (bt x i) (bt y i) := by
  cases o
  · exact bt_and i x y
  · show bt (bitOr x y) i = _
    rw [bt_or]
    rcases bt01 i x with hx | hx <;> rcases bt01 i y with hy | hy <;> rw [hx, hy] <;> decide
  · show bt (bitXor x y) i = _
    rw [bt_xor]
    rcases bt01 i x with hx | hx <;> rcases bt01 i y with hy | hy <;> rw [hx, hy] <;> decide
  · show bt (-1 - bitXor x y) i = _
    rw [bt_not, bt_xor]
    rcases bt01 i x with hx | hx <;> rcases bt01 i y with hy | hy <;> rw [hx, hy] <;> decide
  · show bt (bitOr (-1 - x) y) i = _
    rw [bt_or, bt_not]
    rcases bt01 i x with hx | hx <;> rcases bt01 i y with hy | hy <;> rw [hx, hy] <;> decide
theorem eq_of_bits (n : Nat) : ∀ x y : Int, -(2 ^ n) ≤ x → x < 2 ^ n → -(2 ^ n) ≤ y → y < 2 ^ n → (∀ i, i ≤ n → bt x i = bt y i) → x = y := by
  induction n with
  | zero =>
    intro x y h1 h2 h3 h4 h
    have := h 0 (Nat.le_refl _)
    unfold bt at this
    have hx : x = -1 ∨ x = 0 := by omega
    have hy : y = -1 ∨ y = 0 := by omega
    omega
  | succ n ih =>
    intro x y h1 h2 h3 h4 h
    have hp : (2 : Int) ^ (n + 1) = 2 * 2 ^ n := by rw [Int.pow_succ]; omega
    rw [hp] at h1 h2 h3 h4
    have h0 := h 0 (Nat.zero_le _)
    unfold bt at h0
    have := ih (x / 2) (y / 2) (by omega) (by omega) (by omega) (by omega) fun i hi => h (i + 1) (Nat.succ_le_succ hi)
    omega
noncomputable def row (a b c : Int) (i : Nat) : Int := bt a i + 2 * bt b i + 4 * bt c i
theorem row_of (a b c : Int) (i : Nat) : 0 ≤ row a b c i ∧ row a b c i < 8 := by
  unfold row
  rcases bt01 i a with ha | ha <;> rcases bt01 i b with hb | hb <;> rcases bt01 i c with hc | hc <;> rw [ha, hb, hc] <;> decide
theorem bt_zero : ∀ i : Nat, bt 0 i = 0
  | 0 => by decide
  | i + 1 => by show bt (0 / 2) i = 0; rw [show (0 : Int) / 2 = 0 by decide]; exact bt_zero i
theorem bt_eval (a b c : Int) (i : Nat) : ∀ t : Tr, bt (t.eval a b c) i = t.truth (row a b c i)
  | .nm n => by
    show bt (n.of a b c) i = row a b c i / 2 ^ n.num % 2
    unfold row
    cases n <;> simp only [Nm.of, Nm.num] <;> rcases bt01 i a with ha | ha <;> rcases bt01 i b with hb | hb <;> rcases bt01 i c with hc | hc <;> rw [ha, hb, hc] <;> decide
  | .zero => bt_zero i
  | .not t => by
    show bt (-1 - t.eval a b c) i = 1 - t.truth _
    rw [bt_not, bt_eval a b c i t]
  | .two o l r => by
    show bt (o.val _ _) i = o.tr _ _
    rw [bt_val, bt_eval a b c i l, bt_eval a b c i r]
/-- De Morgan -/
theorem and_comm' (x y : Int) : bitAnd x y = bitAnd y x := by
  cases hx : decide (0 ≤ x) <;> cases hy : decide (0 ≤ y) <;> simp only [Builtin.bitAnd, hx, hy, Nat.and_comm, Nat.or_comm]
theorem dual_eval (a b c : Int) : ∀ t : Tr, noZero t → t.dual.eval (-1 - a) (-1 - b) (-1 - c) = -1 - t.eval a b c
  | .nm n, _ => by cases n <;> rfl
  | .zero, h => h.elim
  | .not t, h => by
    show -1 - t.dual.eval _ _ _ = -1 - (-1 - t.eval a b c)
    rw [dual_eval a b c t h]
  | .two .and l r, h => by
    show bitOr (l.dual.eval _ _ _) (r.dual.eval _ _ _) = -1 - bitAnd (l.eval a b c) (r.eval a b c)
    rw [dual_eval a b c l h.1, dual_eval a b c r h.2, or_is]
    simp only [Int.sub_sub_self]
  | .two .or l r, h => by
    show bitAnd (l.dual.eval _ _ _) (r.dual.eval _ _ _) = -1 - bitOr (l.eval a b c) (r.eval a b c)
    rw [dual_eval a b c l h.1, dual_eval a b c r h.2, or_is]
    simp only [Int.sub_sub_self]
  | .two .xor l r, h => by
    show -1 - bitXor (l.dual.eval _ _ _) (r.dual.eval _ _ _) = -1 - bitXor (l.eval a b c) (r.eval a b c)
    rw [dual_eval a b c l h.1, dual_eval a b c r h.2, xor_is, xor_is, or_is, or_is]
    simp only [Int.sub_sub_self]
    omega
  | .two .eqv l r, h => by
    show bitXor (l.dual.eval _ _ _) (r.dual.eval _ _ _) = -1 - (-1 - bitXor (l.eval a b c) (r.eval a b c))
    rw [dual_eval a b c l h.1, dual_eval a b c r h.2, xor_is, xor_is, or_is, or_is]
    simp only [Int.sub_sub_self]
    omega
  | .two .imp l r, h => by
    show -1 - bitOr (-1 - r.dual.eval _ _ _) (l.dual.eval _ _ _) = -1 - bitOr (-1 - l.eval a b c) (r.eval a b c)
    rw [dual_eval a b c l h.1, dual_eval a b c r h.2, or_is, or_is]
    simp only [Int.sub_sub_self]
    rw [and_comm']
end PartPlain
section PartCCoef
open PySem PySem.W PyProof.Rows PySem.Calls
noncomputable def mob1 (t : Int) : Int := Op.xor.val t (2 * Op.and.val t 85)
noncomputable def mob2 (t : Int) : Int := Op.xor.val t (4 * Op.and.val t 51)
noncomputable def mob3 (t : Int) : Int := Op.xor.val t (16 * Op.and.val t 15)
noncomputable def mobi (t : Int) : Int := mob3 (mob2 (mob1 t))
theorem xor_nat (n : Nat) : ∀ x y : Int, 0 ≤ x → x < 2 ^ n → 0 ≤ y → y < 2 ^ n → 0 ≤ Builtin.bitXor x y ∧ Builtin.bitXor x y < 2 ^ n := by
  induction n with
  | zero =>
    intro x y h1 h2 h3 h4
    have hx : x = 0 := by omega
    have hy : y = 0 := by omega
    subst hx; subst hy; decide
  | succ n ih =>
    intro x y h1 h2 h3 h4
    have hp : (2 : Int) ^ (n + 1) = 2 * 2 ^ n := by rw [Int.pow_succ]; omega
    rw [hp] at h2 h4 ⊢
    have := ih (x / 2) (y / 2) (by omega) (by omega) (by omega) (by omega)
    rw [xor_half x y]
    split <;> omega
theorem xor256 {x y : Int} (h1 : 0 ≤ x) (h2 : x < 256) (h3 : 0 ≤ y) (h4 : y < 256) : 0 ≤ Op.xor.val x y ∧ Op.xor.val x y < 256 := xor_nat 8 x y h1 h2 h3 h4
theorem and_upto (x : Int) {y : Int} (h : 0 ≤ y) : 0 ≤ Op.and.val x y ∧ Op.and.val x y ≤ y := bitAnd_range x h
theorem mob1_of {t : Int} (h1 : 0 ≤ t) (h2 : t < 256) : 0 ≤ mob1 t ∧ mob1 t < 256 := by have := and_upto t (y := 85) (by decide); exact xor256 h1 h2 (by omega) (by omega)
theorem mob2_of {t : Int} (h1 : 0 ≤ t) (h2 : t < 256) : 0 ≤ mob2 t ∧ mob2 t < 256 := by have := and_upto t (y := 51) (by decide); exact xor256 h1 h2 (by omega) (by omega)
theorem mob3_of {t : Int} (h1 : 0 ≤ t) (h2 : t < 256) : 0 ≤ mob3 t ∧ mob3 t < 256 := by have := and_upto t (y := 15) (by decide); exact xor256 h1 h2 (by omega) (by omega)
theorem mobi_of {t : Int} (h1 : 0 ≤ t) (h2 : t < 256) : 0 ≤ mobi t ∧ mobi t < 256 := by
  have a := mob1_of h1 h2
  have b := mob2_of a.1 a.2
  exact mob3_of b.1 b.2
inductive CoefIn (news : List (Addr × Obj)) : List Value → Int → Prop where
  | mk {k : Int} {t : Tok} : 0 ≤ k → k < 256 → CoefIn news [.int k t] k
noncomputable abbrev coefT : ToldN Int where
  Rel := CoefIn
  Ok := fun _ => True
  size := fun _ => 30
  Tl := fun tl => tl = []
  Out := fun _ r d => ∃ tk, r = .int (mobi d) tk
local macro_rules | `(tactic| k_room) => `(tactic| ktr_room)
local macro_rules | `(tactic| walk_at "exec For Tuple Name cons nil") => `(tactic| (k_here; (rename Fr _ _ _ _ => lF'); (with_unfolding_all refine' For_turns lF' ?_; k_whole)))
local macro_rules | `(tactic| walk_at "exec For Tuple Tuple cons nil") => `(tactic| (k_here; (rename Fr _ _ _ _ => lF'); (with_unfolding_all refine' For_turns lF' ?_; k_whole)))
local macro_rules | `(tactic| walk_at "pyIter ref") => `(tactic| (k_here; (with_reducible show wpAny _ _ (pyIter (Value.ref _)) (fun it s₂ => TurnsAt _ _ _ _ _ _ _ _ _ it s₂) _ _); (rename Fr _ _ _ _ => lF'); (rename News _ _ _ _ => lN'); (with_unfolding_all refine iter_tupTurns (by rfl) lF' lN' (by k_mem) (by rfl) (by rfl) ?_); clear lF' lN'; intro i' l1; (try k_lt l1)))
theorem unrEndW0 {h₀ : Heap} {L I : Addr} {it : Obj} {kp : Addr × Obj} {R : (Str → Option Value) → List (Addr × Obj) → Prop} {s₁ : Shared} {h' : Heap} {tk : Nat} {m' : Str → Option Value} {tl : List (Addr × Obj)} (F : Fr h₀ L h' m') (N : News h₀ L h' ((I, it) :: tl))
    (off : ∀ p ∈ tl, p.1 ≠ I) (hl : kp ∈ tl) (r : R m' tl) : UnrEndW h₀ L s₁ [(I, it)] (fun m' n' => SubL [kp] n' ∧ R m' n') { s₁ with heap := h', toks := tk } :=
  ⟨h', tk, m', tl, rfl, F, N, fun p hp p2 hp2 => by rw [List.mem_singleton.mp hp2]; exact off p hp, ⟨hl, trivial⟩, r⟩
theorem off_lt {I : Addr} : ∀ {l : List (Addr × Obj)}, AllLt I l → ∀ p ∈ l, p.1 ≠ I := fun h p hp => Nat.ne_of_lt (ktn_ltOf h p hp)
local macro_rules | `(tactic| walk_at "my offI") => `(tactic| first | exact off_lt (by first | tbn_find | ktn_lt) | (refine List.forall_mem_cons.mpr ⟨by k_ne, ?_⟩; walk_at "my offI"))
local macro_rules | `(tactic| walk_at "UnrEndW") => `(tactic| (k_dflt (refine' unrEndW0 ?F ?N ?o ?l ?_; (case F | N => assumption); (case o => walk_at "my offI"); (case l => k_mem))))
theorem c_coef (w : World) (mean : ExcName → Option Value) (mg mb : Str → Option Value) : ∀ d, TellsN PySem.Challenge.rw_xm0020_01.row.prog w (hd.heap_1 w.params) vw (looseW vw [Str.ofString "BasicError"]) mean mg mb 419 coefT d := by
  refine tellsN_of fun d IH => ?_
  unfold TellsN
  k_fill
  w_top off
  k_with_none
  have Cr := c_reck w mean mg mb
  have Cl := c_logic w mean mg mb
  k_with "call ref" => ktn_call (Str.ofString "reckoned") reckT
  k_with "call ref" => ktn_call (Str.ofString "logic") logicT
  k_with "tree" => simp only [reckT, logicT] at *
  intro dp un gd cn cs ad ccd cl outer A₀ base h₀ L m news s vs Q E B F X N T hk hR hok hd hu hret
  have hKd := kdMark
  dsimp only [coefT] at hd hu
  cases hR with
  | mk hk0 hk8 => ?_
  have ia : IsOp (Str.ofString "AND") .and := ⟨rfl⟩
  have ix : IsOp (Str.ofString "XOR") .xor := ⟨rfl⟩
  have n1 : (-32768 : Int) ≤ 85 := by decide
  have n2 : (85 : Int) < 32768 := by decide
  have n3 : (-32768 : Int) ≤ 51 := by decide
  have n4 : (51 : Int) < 32768 := by decide
  have n5 : (-32768 : Int) ≤ 15 := by decide
  have n6 : (15 : Int) < 32768 := by decide
  have d1 : -32768 ≤ d := by omega
  have d2 : d < 32768 := by omega
  have a1 := and_upto d (y := 85) (by decide)
  have a2 : -32768 ≤ 2 * Op.and.val d 85 := by omega
  have a3 : 2 * Op.and.val d 85 < 32768 := by omega
  have m1 := mob1_of hk0 hk8
  have b1 := and_upto (mob1 d) (y := 51) (by decide)
  have b2 : -32768 ≤ 4 * Op.and.val (mob1 d) 51 := by omega
  have b3 : 4 * Op.and.val (mob1 d) 51 < 32768 := by omega
  have b4 : -32768 ≤ mob1 d := by omega
  have b5 : mob1 d < 32768 := by omega
  have m2 := mob2_of m1.1 m1.2
  have c1 := and_upto (mob2 (mob1 d)) (y := 15) (by decide)
  have c2 : -32768 ≤ 16 * Op.and.val (mob2 (mob1 d)) 15 := by omega
  have c3 : 16 * Op.and.val (mob2 (mob1 d)) 15 < 32768 := by omega
  have c4 : -32768 ≤ mob2 (mob1 d) := by omega
  have c5 : mob2 (mob1 d) < 32768 := by omega
  obtain ⟨a11, a12⟩ := a1
  obtain ⟨b11, b12⟩ := b1
  obtain ⟨c11, c12⟩ := c1
  have a13 : Op.and.val d 85 ≤ 255 := by omega
  have b13 : Op.and.val (mob1 d) 51 ≤ 255 := by omega
  have c13 : Op.and.val (mob2 (mob1 d)) 15 ≤ 255 := by omega
  have s1 : (0 : Int) ≤ 2 := by decide
  have s2 : (2 : Int) ≤ 16 := by decide
  have s3 : (0 : Int) ≤ 4 := by decide
  have s4 : (4 : Int) ≤ 16 := by decide
  have s5 : (0 : Int) ≤ 16 := by decide
  have s6 : (16 : Int) ≤ 16 := by decide
  unfold mob2 mob1 at *
  refine wpAny_call ?_
  k_dflt ktr_enter
  k_steps
  rename News _ _ _ _ => lN
  exact hret _ [] _ _ (by k_asm) (by rw [List.append_nil]; exact news_sub lN (fun p hp => by simp only [List.mem_cons, hp, or_true])) ktn_ord0 rfl ⟨_, rfl⟩
end PartCCoef
section PartPlain2
open PySem PySem.W PyProof.Rows PySem.Calls
open PySem.Builtin (bitAnd bitOr bitXor bitNot)
theorem bit256 (x : Int) : x % 256 = bt x 0 + 2 * bt x 1 + 4 * bt x 2 + 8 * bt x 3 + 16 * bt x 4 + 32 * bt x 5 + 64 * bt x 6 + 128 * bt x 7 := by
  simp only [bt]
  omega
theorem row0 : row 170 204 240 0 = 0 := by decide
theorem row1 : row 170 204 240 1 = 1 := by decide
theorem row2 : row 170 204 240 2 = 2 := by decide
theorem row3 : row 170 204 240 3 = 3 := by decide
theorem row4 : row 170 204 240 4 = 4 := by decide
theorem row5 : row 170 204 240 5 = 5 := by decide
theorem row6 : row 170 204 240 6 = 6 := by decide
theorem row7 : row 170 204 240 7 = 7 := by decide
/-- the table of a tree -/
noncomputable def tabT (t : Tr) : Int := t.truth 0 + 2 * t.truth 1 + 4 * t.truth 2 + 8 * t.truth 3 + 16 * t.truth 4 + 32 * t.truth 5 + 64 * t.truth 6 + 128 * t.truth 7
theorem table_is (t : Tr) : Op.and.val (t.eval 170 204 240) 255 = tabT t := by
  show bitAnd (t.eval 170 204 240) 255 = _
  rw [bitAnd_m8, bit256, bt_eval, bt_eval, bt_eval, bt_eval, bt_eval, bt_eval, bt_eval, bt_eval, row0, row1, row2, row3, row4, row5, row6, row7]
  rfl
theorem tabT_of (t : Tr) : 0 ≤ tabT t ∧ tabT t < 256 := by
  have h0 := truth01 0 t
  have h1 := truth01 1 t
  have h2 := truth01 2 t
  have h3 := truth01 3 t
  have h4 := truth01 4 t
  have h5 := truth01 5 t
  have h6 := truth01 6 t
  have h7 := truth01 7 t
  unfold tabT
  omega
theorem tabT_bit (t : Tr) {k : Int} (h0 : 0 ≤ k) (h8 : k < 8) : tabT t / 2 ^ k.toNat % 2 = t.truth k := by
  have h0 := truth01 0 t
  have h1 := truth01 1 t
  have h2 := truth01 2 t
  have h3 := truth01 3 t
  have h4 := truth01 4 t
  have h5 := truth01 5 t
  have h6 := truth01 6 t
  have h7 := truth01 7 t
  have hk : k = 0 ∨ k = 1 ∨ k = 2 ∨ k = 3 ∨ k = 4 ∨ k = 5 ∨ k = 6 ∨ k = 7 := by omega
  unfold tabT
  rcases hk with rfl | rfl | rfl | rfl | rfl | rfl | rfl | rfl <;> simp only [Int.reduceToNat, Int.reducePow, Int.toNat_one, Int.toNat_zero] <;> omega
noncomputable def zhOk (T : Nat) : Bool := (List.range 8).all fun k => (sumT (mobi (T : Int))).truth (k : Int) == (T : Int) / 2 ^ k % 2
theorem zh_all : (List.range 256).all zhOk = true := by decide +kernel
theorem zh_bit {T k : Int} (h0 : 0 ≤ T) (h1 : T < 256) (h2 : 0 ≤ k) (h3 : k < 8) : (sumT (mobi T)).truth k = T / 2 ^ k.toNat % 2 := by
  obtain ⟨n, rfl⟩ := Int.eq_ofNat_of_zero_le h0
  obtain ⟨i, rfl⟩ := Int.eq_ofNat_of_zero_le h2
  have a := List.all_eq_true.mp zh_all n (List.mem_range.mpr (by omega))
  have b := List.all_eq_true.mp a i (List.mem_range.mpr (by omega))
  simpa using b
/-- Zhegalkin: the sum of the products that the table's coefficients choose -/
theorem zheg {a b c : Int} (t : Tr) (ha1 : -32768 ≤ a) (ha2 : a < 32768) (hb1 : -32768 ≤ b) (hb2 : b < 32768) (hc1 : -32768 ≤ c) (hc2 : c < 32768) : (sumT (mobi (tabT t))).eval a b c = t.eval a b c := by
  have h1 := eval16 ha1 ha2 hb1 hb2 hc1 hc2 t
  have h2 := eval16 ha1 ha2 hb1 hb2 hc1 hc2 (sumT (mobi (tabT t)))
  refine eq_of_bits 15 _ _ h2.1 h2.2 h1.1 h1.2 fun i _ => ?_
  have hr := row_of a b c i
  have hT := tabT_of t
  rw [bt_eval, bt_eval, zh_bit hT.1 hT.2 hr.1 hr.2, tabT_bit t hr.1 hr.2]
theorem prodT_size (k : Int) : (prodT k).size ≤ 5 := by
  unfold prodT
  repeat' split
  all_goals decide
theorem sum_size (c : Int) : ∀ (ks : List Int) (d : Option Tr) (n : Nat), (∀ t, d = some t → t.size ≤ n) → ∀ t, ks.foldl (sumStep c) d = some t → t.size ≤ n + 6 * ks.length
  | [], d, n, h, t, e => by
    have := h t e
    rw [List.length_nil]; omega
  | k :: r, d, n, h, t, e => by
    have hp := prodT_size k
    have := sum_size c r (sumStep c d k) (n + 6) (by
      intro t' e'
      unfold sumStep at e'
      split at e'
      · cases d with
        | none => have e2 := Option.some.inj e'; dsimp only at e2; subst e2; omega
        | some t0 =>
          have e2 := Option.some.inj e'; dsimp only at e2; subst e2
          have := h t0 rfl
          unfold Tr.size; omega
      · have := h t' e'; omega) t e
    rw [List.length_cons]; omega
theorem sumT_size (c : Int) : (sumT c).size ≤ 49 := by
  unfold sumT
  generalize hq : (rangeKs 0 8).foldl (sumStep c) none = q
  cases q with
  | none => decide
  | some t =>
    have h := sum_size c (rangeKs 0 8) none 0 (fun _ e => nomatch e) t hq
    have e : (rangeKs 0 8).length = 8 := by rfl
    rw [e] at h
    show t.size ≤ 49
    omega
theorem dual_size : ∀ t : Tr, t.dual.size ≤ 2 * t.size
  | .nm _ => by simp only [Tr.dual, Tr.size]; omega
  | .zero => by simp only [Tr.dual, Tr.size]; omega
  | .not t => by have := dual_size t; simp only [Tr.dual, Tr.size]; omega
  | .two o l r => by
    have h1 := dual_size l
    have h2 := dual_size r
    cases o <;> simp only [Tr.dual, Tr.size] <;> omega
end PartPlain2
section PartCTree
open PySem PySem.W PyProof.Rows PySem.Spec PySem.Calls
local macro_rules | `(tactic| k_room) => `(tactic| ktr_room)
local macro_rules | `(tactic| walk_at "eval Name") => `(tactic| walk_at "my name")
local macro_rules | `(tactic| walk_at "exec Assign cons ListComp") => `(tactic| (k_here; k_dflt (refine comp_assign (_F := by k_asm) (by rfl) (by with_unfolding_all rfl) (by with_unfolding_all rfl) (by decide) (by rfl) (by decide) (by rfl) (by rfl) (by rfl) ?_)))
local macro_rules | `(tactic| lcg_src) => `(tactic| first | exact trivial | k_mem)
local macro_rules | `(tactic| walk_at "CompEnd") => `(tactic| walk_at "my CE")
local macro_rules | `(tactic| walk_at "SrcG") => `(tactic| (k_here; (with_unfolding_all refine srcG_str (by rfl) (by k_asm) (by k_asm) (by exact Nat.le_of_ble_eq_true rfl) (by rfl) ?_); intro g'; lcg_lit))
local macro_rules | `(tactic| walk_at "newTuple") => `(tactic| walk_at "my nt")
local macro_rules | `(tactic| walk_at "my upd") => `(tactic| first | (refine' UpdF.head ?a; (case a => assumption)) | (refine' UpdF.tail ?a ?b; (case a => k_ne); (case b => walk_at "my upd")))
local macro_rules | `(tactic| walk_at "call ref") => `(tactic| ((with_reducible show wpAny _ _ (call (Value.ref 393) _) _ _ _); k_dflt (refine' c_num ?qX ?qB ?qF ?qN ?qT ?qk ?qU ?ql ?qne ?qI ?qns ?q0 ?q1 ?qb0 ?qb1 ?qd ?qu ?_; (case qB | qF => k_asm); (case qN | qX | qT => k_asm); (case qk => first | rfl | assumption); (case qU => walk_at "my upd"); (case ql => k_mem); (case qne | qI | qns => assumption); (case q0 | q1 => walk_at "my q"); (case qb0 | qb1 => walk_at "my q"); (case qd => ktr_room); (case qu => ktr_units)); intro r9 tr9 tk9 h9 tks9 F9 N9 hr9 hs9; (try dsimp only at N9)))
local macro_rules | `(tactic| walk_at "exec For Name Call cons nil") => `(tactic| walk_at "my ForV")
local macro_rules | `(tactic| walk_at "exec For Name Call") => `(tactic| walk_at "my ForV")
local macro_rules | `(tactic| walk_at "subscriptTail List") => `(tactic| (k_here; k_dflt (refine kba_turn (value' := PySem.Expr.Name (PySem.Str.ofString "_") ⟨0, 0, 0, 0⟩) (fun _ => rfl) ?_)))
local macro_rules | `(tactic| walk_at "pyIter ref") => `(tactic| (refine stop_here ?_))
local macro_rules | `(tactic| walk_at "CompRest") => `(tactic| (with_unfolding_all (refine LCg.CompRest.succ ?_; intro v' I' oI' C' oC' D' m' h' tk' E' hv' hC' hx' F' N' off' ne'; (obtain ⟨c9', t9', hc9', hv9'⟩ := hv'); (replace hc9' := Option.some.inj hc9'); subst hc9'; subst hv9'; (try simp only [LCg.Off3, and_true] at off'))))
/-- what holds at the head of each turn -/
structure PoolAt (bag P : Addr) (i : Nat) (ps : List Value) (k : Int) (tl : List (Addr × Obj)) : Prop where
  len : ps.length = 3 + i
  at_ : k = 1 + 3 * (i : Int)
  above : ∀ q ∈ tl, bag < q.1
  off : ∀ q ∈ tl, q.1 ≠ P
  all : ∀ v ∈ ps, ∃ t, TrIn tl v t ∧ noZero t ∧ t.size + 1 ≤ 2 ^ (i + 1)
noncomputable def TreeJ (bag lst P : Addr) (nb nl : Nat) (vs : List Value) (news : List (Addr × Obj)) (i : Nat) (m₁ : Str → Option Value) (nx : List (Addr × Obj)) : Prop :=
  ∃ (ps : List Value) (np : Nat) (k : Int) (tk1 : Tok) (tl : List (Addr × Obj)), nx = (P, listOf ps.toArray np) :: (bag, listOf #[.ref lst, .int k tk1] nb) :: (lst, listOf vs.toArray nl) :: (news ++ tl) ∧ PoolAt bag P i ps k tl ∧
    m₁ (Str.ofString "pool") = some (.ref P) ∧ m₁ (Str.ofString "bag") = some (.ref bag)
theorem news_pool {h₀ h : Heap} {L : Addr} {p t1 t2 t3 b l : Addr × Obj} {news : List (Addr × Obj)} (N : News h₀ L h (p :: t3 :: t2 :: t1 :: b :: l :: news)) : News h₀ L h (p :: b :: l :: (news ++ [t3, t2, t1])) := news_sub N (by
  intro q hq
  simp only [List.mem_append, List.mem_cons, List.not_mem_nil, or_false] at hq ⊢
  rcases hq with h | h | h | h | h | h | h <;> simp only [h, true_or, or_true])
theorem snoc_of {ps : List Value} (h : 0 < ps.length) : ∃ qs v, ps = qs ++ [v] := by
  rcases List.eq_nil_or_concat ps with e | e
  · rw [e] at h; exact absurd h (by decide)
  · obtain ⟨a, b, e⟩ := e
    exact ⟨a, b, by rw [e, List.concat_eq_append]⟩
theorem item_last {prog : Program} {w : World} {A : Around} {E : Value → Shared → Prop} {s : Shared} {h₀ : Heap} {L l : Addr} {news : List (Addr × Obj)} {n : Nat} {value slice : PySem.Expr} {ws : List Value} {y : Value} {u : Tok} {Q : Value → Shared → Prop} (N : News h₀ L s.heap news) (hm : (l, listOf (ws ++ [y]).toArray n) ∈ news) (h : Q y s)
    (hs : subscripted slice false (.ref l) (.int (-1) u) = operate [.ref l, .int (-1) u] (getItem (.ref l) (.int (-1) u)) := by with_unfolding_all rfl) (hg : ∀ r, letTemporaryGo value (.ref l) r = pure () := by intro _; with_unfolding_all rfl) :
    wpAny (model prog w) A (subscriptTail value slice (.ref l) (.int (-1) u)) Q E s := by
  refine subscriptTail_builtin (News.isList N hm).typeIs slot_list_getitem.lookup (wpAny_getItem_list_neg (News.isList N hm) (by decide) ?_ (by decide) ?_ h) hs hg
  · simp; omega
  · have e : (-1 + ((ws ++ [y]).toArray.size : Int)).toNat = ws.length := by simp; omega
    rw [e]; simp
local macro_rules | `(tactic| walk_at "subscriptTail") => `(tactic| (k_here; (with_reducible show wpAny _ _ (subscriptTail _ _ (Value.ref _) (Value.int (-1) _)) _ _ _); k_dflt (refine' item_last ?N ?m ?_ ?a ?b; (case N => k_asm); (case m => k_mem); (case a => with_unfolding_all rfl); (case b => (intro _; with_unfolding_all rfl)))))
theorem item_pool {prog : Program} {w : World} {A : Around} {E : Value → Shared → Prop} {s : Shared} {h₀ : Heap} {L l : Addr} {news : List (Addr × Obj)} {n : Nat} {value slice : PySem.Expr} {ps : List Value} {k : Int} {u : Tok} {Q : Value → Shared → Prop} (N : News h₀ L s.heap news) (hm : (l, listOf ps.toArray n) ∈ news) (h0 : 0 ≤ k) (h1 : k < (ps.length : Int)) (hz : ps.length ≤ 200000) (h : ∀ v, v ∈ ps → Q v s)
    (hs : subscripted slice false (.ref l) (.int k u) = operate [.ref l, .int k u] (getItem (.ref l) (.int k u)) := by with_unfolding_all rfl) (hg : ∀ r, letTemporaryGo value (.ref l) r = pure () := by intro _; with_unfolding_all rfl) :
    wpAny (model prog w) A (subscriptTail value slice (.ref l) (.int k u)) Q E s := by
  have hlt : k.toNat < ps.length := by omega
  exact item_listL (News.isList N hm) h0 (by omega) (List.getElem?_eq_getElem hlt) (h _ (List.getElem_mem hlt)) hs hg
local macro_rules | `(tactic| walk_at "call builtin:len") => `(tactic| (k_here; (with_reducible show wpAny _ _ (call (Value.builtin _) [Value.ref _]) _ _ _); k_dflt (refine' len_snoc ?N ?m ?z ?_; (case N => k_asm); (case m => k_mem); (case z => omega))))
local macro_rules | `(tactic| walk_at "subscriptTail") => `(tactic| (k_here; (with_reducible show wpAny _ _ (subscriptTail _ _ (Value.ref _) (Value.int _ _)) _ _ _); k_dflt (refine' item_pool ?N ?m ?z0 ?z1 ?z2 ?_ ?a ?b; (case N => k_asm); (case m => k_mem); (case z0 => assumption); (case z1 => (simp only [List.length_append, List.length_singleton, Int.natCast_add]; omega)); (case z2 => (simp only [List.length_append, List.length_singleton]; omega)); (case a => with_unfolding_all rfl); (case b => (intro _; with_unfolding_all rfl))); intro v8' hv8'; (obtain ⟨t8', ht8', hz8', hs8'⟩ := PoolAt.all (by assumption) _ hv8'); (obtain ⟨a8', e8'⟩ := ht8'.ref); subst e8'))
theorem item_ops {prog : Program} {w : World} {A : Around} {E : Value → Shared → Prop} {s : Shared} {h₀ : Heap} {L l : Addr} {news : List (Addr × Obj)} {n : Nat} {value slice : PySem.Expr} {k : Int} {u t0 t1 t2 t3 t4 t5 : Tok} {e0 : Str} {Q : Value → Shared → Prop} (N : News h₀ L s.heap news)
    (hm : (l, listOf [.str e0 t0, .str (Op.str .and) t1, .str (Op.str .or) t2, .str (Op.str .xor) t3, .str (Op.str .eqv) t4, .str (Op.str .imp) t5].toArray n) ∈ news) (h0 : 0 ≤ k) (h1 : k < 6) (hn : k ≠ 0) (h : ∀ (o : Op) (t : Tok), Q (.str o.str t) s)
    (hs : subscripted slice false (.ref l) (.int k u) = operate [.ref l, .int k u] (getItem (.ref l) (.int k u)) := by with_unfolding_all rfl) (hg : ∀ r, letTemporaryGo value (.ref l) r = pure () := by intro _; with_unfolding_all rfl) :
    wpAny (model prog w) A (subscriptTail value slice (.ref l) (.int k u)) Q E s := by
  have hc : k = 1 ∨ k = 2 ∨ k = 3 ∨ k = 4 ∨ k = 5 := by omega
  rcases hc with rfl | rfl | rfl | rfl | rfl
  · exact item_listL (News.isList N hm) h0 (by omega) rfl (h .and _) hs hg
  · exact item_listL (News.isList N hm) h0 (by omega) rfl (h .or _) hs hg
  · exact item_listL (News.isList N hm) h0 (by omega) rfl (h .xor _) hs hg
  · exact item_listL (News.isList N hm) h0 (by omega) rfl (h .eqv _) hs hg
  · exact item_listL (News.isList N hm) h0 (by omega) rfl (h .imp _) hs hg
local macro_rules | `(tactic| walk_at "subscriptTail") => `(tactic| (k_here; (with_reducible show wpAny _ _ (subscriptTail _ _ (Value.ref _) (Value.int _ _)) _ _ _); k_dflt (refine' item_ops ?N ?m ?z0 ?z1 ?z2 ?_ ?a ?b; (case N => k_asm); (case m => k_mem); (case z0 | z1 | z2 => assumption); (case a => with_unfolding_all rfl); (case b => (intro _; with_unfolding_all rfl))); intro o8' t7'))
theorem off1_all {D : Addr} : ∀ {l : List (Addr × Obj)}, LCg.Off1 D l → ∀ p ∈ l, p.1 ≠ D
  | [], _, _, h => nomatch h
  | _ :: _, x, p, h => by
    rcases List.mem_cons.mp h with rfl | h
    · exact x.1
    · exact off1_all x.2 p h
noncomputable def OffP (bag P : Addr) (rest : List (Addr × Obj)) : Prop := bag ≠ P ∧ ∀ p ∈ rest, p.1 ≠ P
theorem OffP.of {bag P : Addr} {rest : List (Addr × Obj)} {o : Obj} (h : OffP bag P rest) : ∀ p ∈ (bag, o) :: rest, p.1 ≠ P := List.forall_mem_cons.mpr h
local macro_rules | `(tactic| walk_at "my updo") => `(tactic| first | (refine' Upd.head ?a; (case a => exact OffP.of (by assumption))) | (refine' Upd.tail ?a ?b; (case a => k_ne); (case b => walk_at "my updo")))
local macro_rules | `(tactic| walk_at "call builtin:list.append") => `(tactic| (k_here; (with_reducible show wpAny _ _ (call (Value.builtin _) [Value.ref _, _]) _ _ _); k_dflt (refine' append_snoc ?F ?N ?U ?z ?_; (case F | N => k_asm); (case U => walk_at "my updo"); (case z => (simp only [List.length_append, List.length_cons, List.length_nil]; omega))); (intro h' F' N')))
theorem two_at {m₁ : Str → Option Value} {x y : Str} {u v : Value} (h1 : m₁ x = some u) (h2 : m₁ y = some v) : m₁ = fun z => if z = x then some u else if z = y then some v else m₁ z := by
  funext z
  by_cases a : z = x
  · subst a; simp only [if_true, h1]
  · by_cases b : z = y
    · subst b; simp only [if_true, if_neg a, h2]
    · simp only [if_neg a, if_neg b]
theorem tree_end {h₀ : Heap} {L bag lst P D : Addr} {nb nl np np' i : Nat} {vs ps : List Value} {news tl own all : List (Addr × Obj)} {k0 k : Int} {tk0 tk1 : Tok} {m' : Str → Option Value} {h' : Heap} {tk : Nat} {s₁ : Shared} {o : Obj} {t : Tr}
    (hp : PoolAt bag P i ps k0 tl) (ho : TbOff own ((P, listOf ps.toArray np) :: (bag, listOf #[.ref lst, .int k0 tk0] nb) :: (lst, listOf vs.toArray nl) :: (news ++ tl))) (F : Fr h₀ L h' m') (N : News h₀ L h' all)
    (n1 : (P, listOf (ps ++ [Value.ref D]).toArray np') ∈ all) (n2 : (bag, listOf #[.ref lst, .int k tk1] nb) ∈ all) (n3 : (lst, listOf vs.toArray nl) ∈ all) (n4 : (D, o) ∈ all) (n5 : ∀ p ∈ news ++ (tl ++ own), p ∈ all)
    (hk : k = k0 + 3) (l1 : @LT.lt Nat _ bag D) (l2 : @Ne Nat D P) (l3 : AllLt D (news ++ (tl ++ own))) (hT : TrIn ((D, o) :: tl) (.ref D) t) (hz : noZero t) (hs : t.size + 1 ≤ 2 ^ (i + 2))
    (m1 : m' (Str.ofString "pool") = some (.ref P)) (m2 : m' (Str.ofString "bag") = some (.ref bag)) :
    TbEnd h₀ L (TreeJ bag lst P nb nl vs news (i + 1)) own s₁ { s₁ with heap := h', toks := tk } := by
  refine ⟨h', tk, m', all, (P, listOf (ps ++ [Value.ref D]).toArray np') :: (bag, listOf #[.ref lst, .int k tk1] nb) :: (lst, listOf vs.toArray nl) :: (news ++ ((D, o) :: tl)), rfl, F, N, ?_, fun p h => n5 p (List.mem_append_right _ (List.mem_append_right _ h)), ?_, ⟨_, _, _, _, _, rfl, ⟨?_, ?_, ?_, ?_, ?_⟩, m1, m2⟩⟩
  · intro p h
    rcases List.mem_cons.mp h with rfl | h
    · exact n1
    rcases List.mem_cons.mp h with rfl | h
    · exact n2
    rcases List.mem_cons.mp h with rfl | h
    · exact n3
    rcases List.mem_append.mp h with h | h
    · exact n5 p (List.mem_append_left _ h)
    rcases List.mem_cons.mp h with rfl | h
    · exact n4
    · exact n5 p (List.mem_append_right _ (List.mem_append_left _ h))
  · intro p h q hq
    rcases List.mem_cons.mp hq with rfl | hq
    · exact ho p h (P, listOf ps.toArray np) (.head _)
    rcases List.mem_cons.mp hq with rfl | hq
    · exact ho p h (bag, listOf #[.ref lst, .int k0 tk0] nb) (.tail _ (.head _))
    rcases List.mem_cons.mp hq with rfl | hq
    · exact ho p h _ (.tail _ (.tail _ (.head _)))
    rcases List.mem_append.mp hq with hq | hq
    · exact ho p h _ (.tail _ (.tail _ (.tail _ (List.mem_append_left _ hq))))
    rcases List.mem_cons.mp hq with rfl | hq
    · exact Nat.ne_of_lt (ktn_ltOf l3 p (List.mem_append_right _ (List.mem_append_right _ h)))
    · exact ho p h _ (.tail _ (.tail _ (.tail _ (List.mem_append_right _ hq))))
  · rw [List.length_append, hp.len]; rfl
  · rw [hk, hp.at_]; omega
  · exact List.forall_mem_cons.mpr ⟨l1, hp.above⟩
  · exact List.forall_mem_cons.mpr ⟨l2, hp.off⟩
  · intro v hv
    rcases List.mem_append.mp hv with hv | hv
    · obtain ⟨t', a, b, c⟩ := hp.all v hv
      refine ⟨t', a.mono fun p h => .tail _ h, b, Nat.le_trans c ?_⟩
      rw [Nat.pow_succ 2 (i + 1)]; omega
    · rw [List.mem_singleton.mp hv]
      exact ⟨t, hT, hz, hs⟩
/-- the drawn tree -/
theorem c_tree (w : World) (mean : ExcName → Option Value) (mg mb : Str → Option Value) :
    ∀ (dp un : Nat) (gd : Option (List Code)) (cn : Str) (cs : Scope) (ad : Addr) (ccd : Value) (cl : List (Str × Addr)) (outer : List Env) (A₀ : Around) (base h₀ : Heap) (L : Addr) (m : Str → Option Value) (news : List (Addr × Obj)) (s : Shared)
      (bag lst : Addr) (tk : Tok) (nb nl : Nat) (vs : List Value) (ns : List Int) (Q E : Value → Shared → Prop),
      (hd.heap_1 w.params).In h₀ → Below A₀ base outer h₀ → Fr h₀ L s.heap m → News h₀ L s.heap ((bag, listOf #[.ref lst, .int 0 tk] nb) :: (lst, listOf vs.toArray nl) :: news) → Top vw (looseW vw [Str.ofString "BasicError"]) mean mg mb h₀ → cs.kind = .function →
      (lst < bag ∧ AllLt bag news) → IntsAre vs ns → ns.length ≤ 63 → dp + 40 < recursionLimit → un + 320 < cLine →
      (∀ r t k tk1 tl h' toks', Fr h₀ L h' m → News h₀ L h' ((bag, listOf #[.ref lst, .int k tk1] nb) :: (lst, listOf vs.toArray nl) :: (news ++ tl)) → (∀ q ∈ tl, bag < q.1) → 0 ≤ k → k ≤ 100 → TrIn tl r t → noZero t → t.size ≤ 31 → Q r { s with heap := h', toks := toks' }) →
      wpAny (model PySem.Challenge.rw_xm0020_01.row.prog w) (ktrTop dp un gd cn cs L ad ccd cl outer) (call (.ref 398) [.ref bag]) Q E s := by
  k_fill
  w_top off
  k_with_none
  intro dp un gd cn cs ad ccd cl outer A₀ base h₀ L m news s bag lst tk nb nl vs ns Q E X B F N T hk hlt hI hns hd hu hret
  have hKd := kdMark
  have hoff : ∀ p ∈ (lst, listOf vs.toArray nl) :: news, p.1 ≠ bag := by
    intro p hp
    rcases List.mem_cons.mp hp with rfl | hp
    · exact Nat.ne_of_lt hlt.1
    · exact Nat.ne_of_lt (ktn_ltOf hlt.2 p hp)
  have hne : @Ne Nat lst bag := Nat.ne_of_lt hlt.1
  obtain ⟨l0, l1⟩ := hlt
  refine wpAny_call ?_
  k_dflt ktr_enter
  k_steps
  all_goals unfold Stop
  all_goals try (exfalso; omega)
  all_goals (
    (rename Fr _ _ _ _ => lF'); (rename News _ _ _ _ => lN'); (rename IsRange _ _ _ _ _ _ _ _ => rgX)
    have lN2 := news_pool lN'
    (rename @Ne Nat _ _ ∧ @Ne Nat _ _ ∧ @Ne Nat _ _ ∧ @Ne Nat _ _ ∧ @Ne Nat _ _ ∧ LCg.Off1 _ _ => o1P)
    have oP := o1P.2.2.2
    with_unfolding_all refine' tbr_invG (TreeJ bag lst _ nb nl vs news) (by rfl) rgX (by decide) (by rfl) lF' lN2 ⟨_, _, _, _, _, rfl, ⟨by rfl, by rfl, ?ja, ?jo, ?jt⟩, by rfl, by rfl⟩ ?t1 ?d1
    case ja => exact List.forall_mem_cons.mpr ⟨by (show @LT.lt Nat _ _ _; omega), List.forall_mem_cons.mpr ⟨by (show @LT.lt Nat _ _ _; omega), List.forall_mem_cons.mpr ⟨by (show @LT.lt Nat _ _ _; omega), List.forall_mem_nil _⟩⟩⟩
    case jo => k_all
    case jt => exact List.forall_mem_cons.mpr ⟨⟨.nm .a, TrIn.nm .a (.tail _ (.tail _ (.head _))), trivial, Nat.le_refl _⟩, List.forall_mem_cons.mpr ⟨⟨.nm .b, TrIn.nm .b (.tail _ (.head _)), trivial, Nat.le_refl _⟩, List.forall_mem_cons.mpr ⟨⟨.nm .c, TrIn.nm .c (.head _), trivial, Nat.le_refl _⟩, List.forall_mem_nil _⟩⟩⟩
    case d1 =>
      intro m₁ nx h1 tk1 hJ F1 N1
      obtain ⟨ps, np, k, tk2, tl, rfl, hp, hm1, hm2⟩ := hJ
      rw [two_at hm1 hm2] at F1
      have hl : ps.length = 7 ∨ ps.length = 6 := by first | exact .inl hp.len | exact .inr hp.len
      obtain ⟨qs, v9, rfl⟩ := snoc_of (ps := ps) (by omega)
      obtain ⟨t9, ht9, hz9, hs9⟩ := hp.all v9 (by simp)
      obtain ⟨a9, rfl⟩ := ht9.ref
      clear hm1 hm2
      have hk9 : k = 13 ∨ k = 10 := by first | exact .inl hp.at_ | exact .inr hp.at_
      have hz8 : t9.size + 1 ≤ 32 := by first | exact hs9 | exact Nat.le_trans (show t9.size + 1 ≤ 16 from hs9) (by decide)
      k_steps
      (rename News h₀ L _ _ => kN9)
      exact hret _ t9 _ _ tl _ _ (by k_asm) (news_sub kN9 (fun p hp => .tail _ hp)) hp.above (by omega) (by omega) ht9 hz9 (by omega)
    case t1 =>
      intro i k' t' m₁ nx h1 tk1 own hk' ho hJ F1 N1
      obtain ⟨ps, np, k, tk2, tl, rfl, hp, hm1, hm2⟩ := hJ
      rw [two_at hm1 hm2] at F1
      have hi4 : i < 4 := by
        have := (List.getElem?_eq_some_iff.mp hk').1
        rw [rangeKs_length] at this
        first | exact this | exact Nat.lt_succ_of_lt this
      have hl := hp.len
      have hk9 := hp.at_
      have k0 : 0 ≤ k := by omega
      have k1 : k ≤ 100 := by omega
      obtain ⟨qs, v9, rfl⟩ := snoc_of (ps := ps) (by omega)
      obtain ⟨t9, ht9, hz9, hs9⟩ := hp.all v9 (by simp)
      obtain ⟨a9, rfl⟩ := ht9.ref
      clear hm1 hm2 hk'
      have hq9 : qs.length = 2 + i := by rw [List.length_append, List.length_singleton] at hl; omega
      have hq8 : qs.length ≤ 6 := by omega
      have hoff2 : ∀ p ∈ (lst, listOf vs.toArray nl) :: (news ++ (tl ++ own)), p.1 ≠ bag := by
        intro p hq
        rcases List.mem_cons.mp hq with rfl | hq
        · exact hne
        rcases List.mem_append.mp hq with hq | hq
        · exact hoff p (.tail _ hq)
        rcases List.mem_append.mp hq with hq | hq
        · exact Nat.ne_of_gt (hp.above p hq)
        · exact ho p hq _ (.tail _ (.head _))
      have hoffP : OffP bag _ ((lst, listOf vs.toArray nl) :: (news ++ (tl ++ own))) := ⟨oP.1, by
        intro p hq
        rcases List.mem_cons.mp hq with rfl | hq
        · exact oP.2.1
        rcases List.mem_append.mp hq with hq | hq
        · exact off1_all oP.2.2 p hq
        rcases List.mem_append.mp hq with hq | hq
        · exact hp.off p hq
        · exact ho p hq _ (.head _)⟩
      replace N1 := news_sub (a := _ :: _ :: _ :: (news ++ (tl ++ own))) N1 (by
        intro p hq
        simp only [List.cons_append, List.mem_append, List.mem_cons] at hq ⊢
        rcases hq with h | h | h | h | h | h
        · exact .inl h
        · exact .inr (.inl h)
        · exact .inr (.inr (.inl h))
        · exact .inr (.inr (.inr (.inl (.inl h))))
        · exact .inr (.inr (.inr (.inl (.inr h))))
        · exact .inr (.inr (.inr (.inr h))))
      k_steps
      all_goals (
        (rename TrIn _ _ _ => ht8); (rename noZero _ => hz8); (rename Tr.size _ + 1 ≤ _ => hs8); (rename Fr _ _ _ _ => lF9); (rename News _ _ _ _ => lN9)
        have hx2 : 2 ^ (i + 2) = 2 * 2 ^ (i + 1) := by rw [Nat.pow_succ 2 (i + 1)]; omega
        have hx1 : 1 ≤ 2 ^ (i + 1) := Nat.one_le_two_pow
        first
          | refine tree_end hp ho lF9 lN9 (by k_mem) (by k_mem) (by k_mem) (.head _) (fun p h => by simp only [List.mem_cons, h, or_true]) (by omega) (by (show @LT.lt Nat _ _ _; omega)) (by (show @Ne Nat _ _; omega)) (by first | tbn_find | ktn_lt) (TrIn.not (.head _) (ht9.mono fun p h => .tail _ h)) hz9 (by simp only [Tr.size]; omega) (by rfl) (by rfl)
          | refine tree_end hp ho lF9 lN9 (by k_mem) (by k_mem) (by k_mem) (.head _) (fun p h => by simp only [List.mem_cons, h, or_true]) (by omega) (by (show @LT.lt Nat _ _ _; omega)) (by (show @Ne Nat _ _; omega)) (by first | tbn_find | ktn_lt) (TrIn.not (.head _) (ht8.mono fun p h => .tail _ h)) hz8 (by simp only [Tr.size]; omega) (by rfl) (by rfl)
          | refine tree_end hp ho lF9 lN9 (by k_mem) (by k_mem) (by k_mem) (.head _) (fun p h => by simp only [List.mem_cons, h, or_true]) (by omega) (by (show @LT.lt Nat _ _ _; omega)) (by (show @Ne Nat _ _; omega)) (by first | tbn_find | ktn_lt) (TrIn.two _ (.head _) (ht9.mono fun p h => .tail _ h) (ht8.mono fun p h => .tail _ h)) ⟨hz9, hz8⟩ (by simp only [Tr.size]; omega) (by rfl) (by rfl)
          | refine tree_end hp ho lF9 lN9 (by k_mem) (by k_mem) (by k_mem) (.head _) (fun p h => by simp only [List.mem_cons, h, or_true]) (by omega) (by (show @LT.lt Nat _ _ _; omega)) (by (show @Ne Nat _ _; omega)) (by first | tbn_find | ktn_lt) (TrIn.two _ (.head _) (ht8.mono fun p h => .tail _ h) (ht9.mono fun p h => .tail _ h)) ⟨hz8, hz9⟩ (by simp only [Tr.size]; omega) (by rfl) (by rfl)
          | skip))
end PartCTree
section PartLaw
open PySem PySem.W PyProof.Rows PySem.Spec PySem.Calls
theorem at_top {w : World} {mean : ExcName → Option Value} {mg mb : Str → Option Value} {h h2 : Heap} {P : World → (ExcName → Option Value) → (Str → Option Value) → (Str → Option Value) → Prop} (c : ∀ w mean mg mb, P w mean mg mb) (_ : Top vw (looseW vw [Str.ofString "BasicError"]) mean mg mb h) (_ : (hd.heap_1 w.params).In h2) : P w mean mg mb := c w mean mg mb
theorem off_above {c bag : Nat} {tl : List (Addr × Obj)} (h : ∀ q ∈ tl, bag < q.1) (hc : c ≤ bag) : ∀ q ∈ tl, q.1 ≠ c := fun q hq => Nat.ne_of_gt (Nat.lt_of_le_of_lt hc (h q hq))
theorem take63 {α : Type} (l : List α) : (l.take 24).length ≤ 63 := Nat.le_trans (List.length_take_le 24 l) (by decide)
theorem tellsQ_use {D : Type} {prog : Program} {w : World} {K : Frag} {p : Program} {loose : List Str} {mean : ExcName → Option Value} {mg mb : Str → Option Value} {f : Addr} {Rel : List Value → D → Prop} {n : Nat} {Out : List (Addr × Obj) → Value → D → Prop} {d : D}
    {dp un : Nat} {gd : Option (List Code)} {cn : Str} {cs : Scope} {a : Addr} {ccd : Value} {cl : List (Str × Addr)} {outer : List Env} {A₀ : Around} {base h₀ : Heap} {L : Addr} {m : Str → Option Value} {news : List (Addr × Obj)} {s : Shared} {vs : List Value}
    {Q E : Value → Shared → Prop} (B : Below A₀ base outer h₀) (F : Fr h₀ L s.heap m) (X : K.In h₀) (N : News h₀ L s.heap news) (T : Top p loose mean mg mb h₀) (hk : cs.kind = .function) (R : Rel vs d) (C : TellsQ prog w K p loose mean mg mb f Rel n Out d)
    (hd : dp + n < recursionLimit) (hu : un + 8 * n < cLine)
    (ret : ∀ r tl h' tk', Fr h₀ L h' m → News h₀ L h' (news ++ tl) → Out (news ++ tl) r d → Q r { s with heap := h', toks := tk' }) :
    wpAny (model prog w) (ktrTop dp un gd cn cs L a ccd cl outer) (call (.ref f) vs) Q E s := C _ _ _ _ _ _ _ _ _ _ _ _ _ _ _ _ _ _ _ B F X N T hk R hd hu ret
theorem sum_is (t : Tr) : tabT t = 2 ^ Int.toNat 0 * t.truth 0 + (2 ^ Int.toNat 1 * t.truth 1 + (2 ^ Int.toNat 2 * t.truth 2 + (2 ^ Int.toNat 3 * t.truth 3 + (2 ^ Int.toNat 4 * t.truth 4 + (2 ^ Int.toNat 5 * t.truth 5 + (2 ^ Int.toNat 6 * t.truth 6 + (2 ^ Int.toNat 7 * t.truth 7 + 0))))))) := by
  show tabT t = 1 * t.truth 0 + (2 * t.truth 1 + (4 * t.truth 2 + (8 * t.truth 3 + (16 * t.truth 4 + (32 * t.truth 5 + (64 * t.truth 6 + (128 * t.truth 7 + 0)))))))
  unfold tabT
  omega
local macro_rules | `(tactic| k_room) => `(tactic| ktr_room)
local macro_rules | `(tactic| walk_at "my off") => `(tactic| first | exact off_above (by assumption) (by (show @LE.le Nat _ _ _; omega)) | (refine List.forall_mem_cons.mpr ⟨by k_ne, ?_⟩; walk_at "my off"))
local macro_rules | `(tactic| walk_at "my updc") => `(tactic| first | (refine' UpdF.head ?a; (case a => walk_at "my off")) | (refine' UpdF.tail ?a ?b; (case a => k_ne); (case b => walk_at "my updc")))
local macro_rules | `(tactic| walk_at "storeName") => `(tactic| (k_here; (with_reducible show wpAny _ _ (storeName (envOfC _ _ _ _ _) _ (Value.ref _)) _ _ _); k_dflt (refine' storeX_C ?F ?N ?c ?U ?d ?_ ?a ?b; (case a | b => rfl); (case F | N => k_asm); (case c => rfl); (case U => walk_at "my updc"); (case d => k_asm); k_whole); intro h' o' F' N' d'; (try dsimp only at N')))
theorem num_lo {r : Int} (h : 0 ≤ r) : -32768 ≤ r - 32768 := by omega
theorem num_hi {r : Int} (h : r < 65536) : r - 32768 < 32768 := by omega
theorem neg_lo {r : Int} (h : r < 32768) : -32768 ≤ -1 - r := by omega
theorem neg_hi {r : Int} (h : -32768 ≤ r) : -1 - r < 32768 := by omega
local macro_rules | `(tactic| walk_at "my 393") => `(tactic| ((with_reducible show wpAny _ _ (call (Value.ref 393) _) _ _ _); k_dflt (refine' c_num ?qX ?qB ?qF ?qN ?qT ?qk ?qU ?ql ?qne ?qI ?qns ?q0 ?q1 ?qb0 ?qb1 ?qd ?qu ?_; (case qB | qF => k_asm); (case qN | qX | qT => k_asm); (case qk => first | rfl | assumption); (case qU => walk_at "my updc"); (case ql => k_mem); (case qne => k_ne); (case qI => assumption); (case qns => exact take63 _); (case q0 | q1 => walk_at "my q"); (case qb0 | qb1 => decide); (case qd => ktr_room); (case qu => ktr_units)); intro r9 tr9 tk9 h9 tks9 F9 N9 hr9 hs9; (try dsimp only at N9); (have n1 := num_lo hr9); (have n2 := num_hi hs9); (have n3 := neg_lo n2); (have n4 := neg_hi n1)))
local macro_rules | `(tactic| ktd_rel) => `(tactic| ((show (_ : Int) ≤ _); decide))
local macro_rules | `(tactic| ktd_rel) => `(tactic| ((show (_ : Int) < _); decide))
local macro_rules | `(tactic| ktd_rel) => `(tactic| exact (eval16 (by assumption) (by assumption) (by assumption) (by assumption) (by assumption) (by assumption) _).1)
local macro_rules | `(tactic| ktd_rel) => `(tactic| exact (eval16 (by assumption) (by assumption) (by assumption) (by assumption) (by assumption) (by assumption) _).2)
local macro_rules | `(tactic| walk_at "CompEnd") => `(tactic| (k_dflt (first
  | (refine' compEnd0 ?F ?N ?o ?S ?_; (case F | N | o => assumption); (case S => lcg_src)))))
local macro_rules | `(tactic| walk_at "exec Assign cons ListComp") => `(tactic| (k_here; k_dflt (refine LCg.Assign_ListComp_U (F₀ := by k_asm) (by rfl) (by with_unfolding_all rfl) (by with_unfolding_all rfl) (by decide) (by rfl) (by decide) (by rfl) (by rfl) (by rfl) ?_); k_dflt lcg_toSrc))
local macro_rules | `(tactic| walk_at "eval ListComp") => `(tactic| (k_here; k_dflt (refine LCg.ListComp_U (F₀ := by k_asm) (by with_unfolding_all rfl) (by decide) (by rfl) (by decide) (by rfl) ?_); k_dflt lcg_toSrc))
local macro_rules | `(tactic| walk_at "CompSrc") => `(tactic| (k_here; k_dflt (first
  | (refine LCg.CompSrc.ledger (by rfl) (by k_asm) (by k_asm) (by k_mem) (by exact Nat.le_of_ble_eq_true rfl) ?_; intro g'; lcg_lit)
  | (refine LCg.CompSrc.range (by rfl) (by k_asm) (by k_asm) (by assumption) (by first | decide | rfl) (by first | rfl | decide) (by exact Nat.le_of_ble_eq_true rfl) ?_; intro g'; lcg_lit))))
local macro_rules | `(tactic| walk_at "my lit") => `(tactic| (rename _ = Value.int _ _ => hl9; first | (replace hl9 : _ = Value.int 0 _ := hl9; subst hl9) | (replace hl9 : _ = Value.int 1 _ := hl9; subst hl9) | (replace hl9 : _ = Value.int 2 _ := hl9; subst hl9) | (replace hl9 : _ = Value.int 3 _ := hl9; subst hl9) | (replace hl9 : _ = Value.int 4 _ := hl9; subst hl9) | (replace hl9 : _ = Value.int 5 _ := hl9; subst hl9) | (replace hl9 : _ = Value.int 6 _ := hl9; subst hl9) | (replace hl9 : _ = Value.int 7 _ := hl9; subst hl9)))
local macro_rules | `(tactic| walk_at "CompRest") => `(tactic| (with_unfolding_all first
  | (refine LCg.CompRest.succ ?_; intro v' I' oI' C' oC' D' m' h' tk' E' hv' hC' hx' F' N' off' ne'; (first | lcg_open hv' | (obtain ⟨t9', hv9'⟩ := hv'; walk_at "my lit")); (try simp only [LCg.Off3, and_true] at off'))
  | refine LCg.CompRest.zero ?_))
section
variable {w : World} {mean : ExcName → Option Value} {mg mb : Str → Option Value} {dp un : Nat} {gd : Option (List Code)} {cn : Str} {cs : Scope} {a : Addr} {ccd : Value} {cl : List (Str × Addr)} {outer : List Env} {A₀ : Around} {base h₀ : Heap} {L : Addr} {m : Str → Option Value} {news : List (Addr × Obj)} {s : Shared} {vs : List Value} {Q E : Value → Shared → Prop}
theorem int_use {D : Type} {c : ToldN D} {f : Addr} {d : D} {v : Int} (B : Below A₀ base outer h₀) (F : Fr h₀ L s.heap m) (X : (hd.heap_1 w.params).In h₀) (N : News h₀ L s.heap news) (T : Top vw (looseW vw [Str.ofString "BasicError"]) mean mg mb h₀) (hk : cs.kind = .function) (R : c.Rel news vs d)
    (C : TellsN PySem.Challenge.rw_xm0020_01.row.prog w (hd.heap_1 w.params) vw (looseW vw [Str.ofString "BasicError"]) mean mg mb f c d) (ok : c.Ok d) (h1 : dp + c.size d < recursionLimit) (h2 : un + 8 * c.size d < cLine) (ht : ∀ tl, c.Tl tl → tl = []) (ho : ∀ nw r, c.Out nw r d → ∃ tk, r = .int v tk)
    (ret : ∀ tk h' tk', Fr h₀ L h' m → News h₀ L h' news → Q (.int v tk) { s with heap := h', toks := tk' }) :
    wpAny (model PySem.Challenge.rw_xm0020_01.row.prog w) (ktrTop dp un gd cn cs L a ccd cl outer) (call (.ref f) vs) Q E s := by
  refine tellsN_use B F X N T hk R C ok h1 h2 fun r tl h' tk' F' N' _ t o => ?_
  obtain ⟨tk, rfl⟩ := ho _ _ o
  have e := ht _ t
  subst e
  rw [List.append_nil] at N'
  exact ret _ _ _ F' N'
theorem worth_use {d : Nums} (B : Below A₀ base outer h₀) (F : Fr h₀ L s.heap m) (X : (hd.heap_1 w.params).In h₀) (N : News h₀ L s.heap news) (T : Top vw (looseW vw [Str.ofString "BasicError"]) mean mg mb h₀) (hk : cs.kind = .function) (R : WAtIn news vs d) (h1 : dp + 60 < recursionLimit) (h2 : un + 480 < cLine)
    (ret : ∀ tk h' tk', Fr h₀ L h' m → News h₀ L h' news → Q (.int (d.t.eval d.a d.b d.c) tk) { s with heap := h', toks := tk' }) :
    wpAny (model PySem.Challenge.rw_xm0020_01.row.prog w) (ktrTop dp un gd cn cs L a ccd cl outer) (call (.ref 405) vs) Q E s := int_use B F X N T hk (c := worthT) R (c_worth _ _ _ _ _) trivial h1 h2 (fun _ h => h) (fun _ _ h => h) ret
theorem truth_use {d : Tr × Int} (B : Below A₀ base outer h₀) (F : Fr h₀ L s.heap m) (X : (hd.heap_1 w.params).In h₀) (N : News h₀ L s.heap news) (T : Top vw (looseW vw [Str.ofString "BasicError"]) mean mg mb h₀) (hk : cs.kind = .function) (R : TruthIn news vs d) (R2 : d.1.size ≤ 31) (h1 : dp + 31 < recursionLimit) (h2 : un + 248 < cLine)
    (ret : ∀ tk h' tk', Fr h₀ L h' m → News h₀ L h' news → Q (.int (d.1.truth d.2) tk) { s with heap := h', toks := tk' }) :
    wpAny (model PySem.Challenge.rw_xm0020_01.row.prog w) (ktrTop dp un gd cn cs L a ccd cl outer) (call (.ref 412) vs) Q E s := int_use B F X N T hk (c := truthT) R (c_truth _ _ _ _ _) trivial (room_of h1 R2) (units_of h2 (Nat.mul_le_mul_left 8 R2)) (fun _ h => h) (fun _ _ h => h) ret
theorem coef_use {d : Int} (B : Below A₀ base outer h₀) (F : Fr h₀ L s.heap m) (X : (hd.heap_1 w.params).In h₀) (N : News h₀ L s.heap news) (T : Top vw (looseW vw [Str.ofString "BasicError"]) mean mg mb h₀) (hk : cs.kind = .function) (R : CoefIn news vs d) (h1 : dp + 30 < recursionLimit) (h2 : un + 240 < cLine)
    (ret : ∀ tk h' tk', Fr h₀ L h' m → News h₀ L h' news → Q (.int (mobi d) tk) { s with heap := h', toks := tk' }) :
    wpAny (model PySem.Challenge.rw_xm0020_01.row.prog w) (ktrTop dp un gd cn cs L a ccd cl outer) (call (.ref 419) vs) Q E s := int_use B F X N T hk (c := coefT) R (c_coef _ _ _ _ _) trivial h1 h2 (fun _ h => h) (fun _ _ h => h) ret
theorem inv_use {d : Int} (B : Below A₀ base outer h₀) (F : Fr h₀ L s.heap m) (X : (hd.heap_1 w.params).In h₀) (N : News h₀ L s.heap news) (T : Top vw (looseW vw [Str.ofString "BasicError"]) mean mg mb h₀) (hk : cs.kind = .function) (R : InvIn news vs d) (h1 : dp + 10 < recursionLimit) (h2 : un + 80 < cLine)
    (ret : ∀ tk h' tk', Fr h₀ L h' m → News h₀ L h' news → Q (.int (-1 - d) tk) { s with heap := h', toks := tk' }) :
    wpAny (model PySem.Challenge.rw_xm0020_01.row.prog w) (ktrTop dp un gd cn cs L a ccd cl outer) (call (.ref 262) vs) Q E s := int_use B F X N T hk (c := invT) R (c_inv _ _ _ _ _) trivial h1 h2 (fun _ h => h) (fun _ _ h => h) ret
theorem tab_use {t : Tr} (B : Below A₀ base outer h₀) (F : Fr h₀ L s.heap m) (X : (hd.heap_1 w.params).In h₀) (N : News h₀ L s.heap news) (T : Top vw (looseW vw [Str.ofString "BasicError"]) mean mg mb h₀) (hk : cs.kind = .function) (R : LogicIn news vs (.and, t.eval 170 204 240, 255)) (h1 : dp + 10 < recursionLimit) (h2 : un + 80 < cLine)
    (ret : ∀ tk h' tk', Fr h₀ L h' m → News h₀ L h' news → Q (.int (tabT t) tk) { s with heap := h', toks := tk' }) :
    wpAny (model PySem.Challenge.rw_xm0020_01.row.prog w) (ktrTop dp un gd cn cs L a ccd cl outer) (call (.ref 269) vs) Q E s := int_use B F X N T hk (c := logicT) R (c_logic _ _ _ _ _) trivial h1 h2 (fun _ h => h) (fun _ _ h => by rw [← table_is]; exact h) ret
end
local macro_rules | `(tactic| walk_at "my use") => `(tactic| (k_here; k_dflt ((first | ((with_reducible show wpAny _ _ (call (Value.ref 405) _) _ _ _); refine' worth_use ?k1 ?k2 ?k3 ?k4 ?k5 ?kK ?kR ?kd ?ku ?_) | ((with_reducible show wpAny _ _ (call (Value.ref 412) _) _ _ _); refine' truth_use ?k1 ?k2 ?k3 ?k4 ?k5 ?kK ?kR ?kz ?kd ?ku ?_) | ((with_reducible show wpAny _ _ (call (Value.ref 419) _) _ _ _); refine' coef_use ?k1 ?k2 ?k3 ?k4 ?k5 ?kK ?kR ?kd ?ku ?_) | ((with_reducible show wpAny _ _ (call (Value.ref 262) _) _ _ _); refine' inv_use ?k1 ?k2 ?k3 ?k4 ?k5 ?kK ?kR ?kd ?ku ?_) | ((with_reducible show wpAny _ _ (call (Value.ref 269) _) _ _ _); refine' tab_use ?k1 ?k2 ?k3 ?k4 ?k5 ?kK ?kR ?kd ?ku ?_)); (case k1 | k2 => k_asm); (case k3 | k4 | k5 => k_asm); (case kK => first | rfl | assumption); (case kR => ktr_rel); (try (case kz => assumption)); (case kd => ktr_room); (case ku => ktr_units)); intro tk9 h9 tks9 F9 N9))
local macro_rules | `(tactic| walk_at "call ref") => `(tactic| first | walk_at "my use" | k_extra "call ref" | walk_at "my 393" | refine stop_here ?_)
theorem eq_tt {prog : Program} {w : World} {A : Around} {E : Value → Shared → Prop} {s : Shared} {x y : Int} {t u : Tok} {Q : Value → Shared → Prop} (h : x = y) (k : Q (.bool true) s) : wpAny (model prog w) A (compareOp .Eq (.int x t) (.int y u)) Q E s := PyProof.Rows.eq_int (by rw [beq_iff_eq.mpr h]; exact k)
local macro_rules | `(tactic| walk_at "compareOp Eq int int") => `(tactic| (k_here; k_dflt (refine' eq_tt ?h ?_; (case h => exact dual_eval _ _ _ _ (by assumption)))))
theorem ne_ff {prog : Program} {w : World} {A : Around} {E : Value → Shared → Prop} {s : Shared} {x y : Int} {t u : Tok} {Q : Value → Shared → Prop} (h : x = y) (k : Q (.bool false) s) : wpAny (model prog w) A (compareOp .NotEq (.int x t) (.int y u)) Q E s := PyProof.Rows.ne_int (by rw [bne_eq_false_iff_eq.mpr h]; exact k)
local macro_rules | `(tactic| walk_at "compareOp NotEq int int") => `(tactic| (k_here; k_dflt (refine' ne_ff ?h ?_; (case h => first | exact sum_is _ | exact zheg _ (by assumption) (by assumption) (by assumption) (by assumption) (by assumption) (by assumption)))))
theorem law_all : PySem.Challenge.rw_xm0020_01.Holds := hd (by
  k_with_none
  k_with "call ref" => ktn_call (Str.ofString "_law_dual") dualT
  k_with "tree" => simp only [dualT] at *
  k_go0
  all_goals try k_fold
  (rename Top _ _ _ _ _ _ => T9); (rename Frag.In _ _ => X9)
  have ia : IsOp (Str.ofString "AND") .and := ⟨rfl⟩
  have C4 := at_top c_dual T9 X9
  k_steps
  unfold Stop
  ((with_reducible show wpAny _ _ (call (Value.ref 398) _) _ _ _); k_dflt (refine' c_tree _ _ _ _ _ _ _ _ _ _ _ _ _ _ _ _ _ _ _ _ _ _ _ _ _ _ _ _ _ ?ztqX ?ztqB ?ztqF ?ztqN ?ztqT ?ztqk ?ztql ?ztqI ?ztqns ?ztqd ?ztqu ?_; (case ztqB | ztqF => k_asm); (case ztqN | ztqX | ztqT => k_asm); (case ztqk => first | rfl | assumption); (case ztql => exact And.intro (by (show @LT.lt Nat _ _ _; omega)) ⟨by (show @LT.lt Nat _ _ _; omega), by (show @LT.lt Nat _ _ _; omega), trivial⟩); (case ztqI => assumption); (case ztqns => exact take63 _); (case ztqd => ktr_room); (case ztqu => ktr_units)); intro r9 tT k9 tk9 tl9 h9 tks9 F9 N9 hab hk0 hk1 hT9 hz9 hs9; (try simp only [List.nil_append, List.cons_append] at N9); (obtain ⟨a9, e9⟩ := hT9.ref); subst e9; (have sz1 : tT.size ≤ 50000 := Nat.le_trans hs9 (by decide)); (have ev1 := (eval16 (a := 170) (b := 204) (c := 240) (by decide) (by decide) (by decide) (by decide) (by decide) (by decide) tT).1); (have ev2 := (eval16 (a := 170) (b := 204) (c := 240) (by decide) (by decide) (by decide) (by decide) (by decide) (by decide) tT).2); (have tb1 := (tabT_of tT).1); (have tb2 := (tabT_of tT).2); (have mb1 := (mobi_of tb1 tb2).1); (have mb2 := (mobi_of tb1 tb2).2); (have sz2 : (sumT (mobi (tabT tT))).size ≤ 50000 := Nat.le_trans (sumT_size _) (by decide)); (have sz3 : tT.dual.size ≤ 50000 := Nat.le_trans (dual_size tT) (by omega)))
  k_steps
  unfold Stop
  ((with_reducible show wpAny _ _ (call (Value.ref 431) _) _ _ _); k_dflt (refine' tellsQ_use ?zsk1 ?zsk2 ?zsk3 ?zsk4 ?zsk5 ?zskK (SumIn.mk ?zsr1 ?zsr2) (c_sum _ _ _ _ _) ?zskd ?zsku ?_; (case zsk1 | zsk2 => k_asm); (case zsk3 | zsk4 | zsk5 => k_asm); (case zskK => first | rfl | assumption); (case zsr1 | zsr2 => assumption); (case zskd => ktr_room); (case zsku => ktr_units)); intro r9 tl9 h9 tk9 F9 N9 ho9; (try simp only [List.nil_append, List.cons_append, List.append_nil, List.append_assoc] at N9); (try simp only [List.nil_append, List.cons_append, List.append_nil, List.append_assoc] at ho9); (obtain ⟨a9, e9⟩ := ho9.ref); subst e9)
  k_steps
  all_goals (try k_data))
end PartLaw
end Mine
theorem PySem.Challenge.cw_xm0020_01_holds : PySem.Challenge.rw_xm0020_01.Holds :=
  Mine.law_all
