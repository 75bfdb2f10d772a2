import PyProof.Rows.All
import Wide.All
import OpenK.AllK
import Wide.FinOn
import PySem.Challenge.RW_on0183_01
open PySem PySem.W PyProof.Rows
set_option Elab.async false
set_option maxRecDepth 100000
set_option maxHeartbeats 8000000
set_option linter.all false
set_option rowWalk.seconds 0
set_option bootstrap.genMatcherCode false
set_option genInjectivity false
set_option genSizeOf false
set_option genSizeOfSpec false
namespace Mine
/-- the head at once: what the top leaves, as one equation -/
noncomputable abbrev LeftP (p q : Program) (loose : List Str) (Xt : Shared → Bool) {α : Type} (Yf : Shared → α) (Ya : World → α) (N : Nat) : Prop := LeftO p q loose Xt Yf Ya N
theorem PySem.W.holds_open {r : OpenRow} {q : Program} {loose : List Str} {Xt : Shared → Bool} {XP : (Str → Option Value) → Heap → Prop} {α : Type} {Yf : Shared → α} {Ya : World → α} {YP : World → Heap → Prop} {d : DefRec} {kwd : List (Str × Expr)} {N : Nat} (left : LeftP r.prog q loose Xt Yf Ya N)
    (hY : ∀ w s, Yf s = Ya w → YP w s.heap) (hYk : ∀ w h h', YP w h → (∀ b o, h.get? b = some o → h'.get? b = some o) → YP w h') (hX : ∀ s, Xt s = true → XP (s.heap.nsMap mainGlobals) s.heap) (hXk : ∀ mg h h', XP mg h → (∀ b o, h.get? b = some o → h'.get? b = some o) → XP mg h')
    (hdef : defOf q r.name = some (d, kwd)) (hp : r.prog.theDef r.name = some (d.params, d.body, d.scope)) (hk : kwWritten? d.params.kwonlyargs d.params.kw_defaults = some kwd) (hRf : ∀ s, Xt s = true → RecFacts r.records s.heap) (hwr : (!r.writes || r.records.isEmpty) = true) (k1 : r.wellSaid = true)
    (ok : (chainsOk q && opensWell r.prog && (frees r.toRowW && r.within.isEmpty)) = true) (hb : r.prog.bare) (hw : r.toRowW.promised) (call : WalkO q loose XP YP r.toRowW d kwd fun f vs => PySem.call f vs) : r.Holds :=
  _root_.PySem.W.holds_open left hY hYk hX hXk hdef hp hk hRf hwr k1 ok hb hw call
open_top hd for PySem.Challenge.rw_on0183_01
theorem fill : (fun (_ : OpenLaw) (_ : Params → Frag) => True) PySem.Challenge.rw_on0183_01 hd.heap_39 := by w_top off; k_fill; trivial
open PySem.Calls
set_option tactic.hygienic false
section
open PySem PySem.W PyProof.Rows
theorem envAll {sc : Scope} {P : Env → Prop} (h : ∀ env : Env, P { env with scope := sc }) (env : Env) (e : env.scope = sc) : P env := by
  subst e; exact h env
noncomputable abbrev Ld := List (Addr × Obj)
noncomputable abbrev tupO (vs : List Value) : Obj := { cls := .type "tuple", data := .seq vs.toArray }
set_option genInjectivity true
inductive Lab where
  | s (x : Str)
  | t (a b c : Str)
  deriving DecidableEq
set_option genInjectivity false
noncomputable def Lab.data : Lab → PyData
  | .s x => .str x
  | .t a b c => .tuple [.str a, .str b, .str c]
noncomputable def Lab.ok : Lab → Prop
  | .s x => PyData.strOk x = true
  | .t a b c => PyData.strOk a = true ∧ PyData.strOk b = true ∧ PyData.strOk c = true
theorem Lab.shaped {l : Lab} (h : l.ok) : SeqAt.shaped l.data = true := by
  cases l <;> simp_all [Lab.data, Lab.ok, SeqAt.shaped, PyData.canLay0, PyData.canLayAll0, PyData.depth, PyData.depthAll]
theorem Lab.eqv (l k : Lab) : PyData.eqv l.data k.data = decide (l = k) := by
  cases l <;> cases k <;> simp [Lab.data, PyData.eqv, PyData.eqvAll] <;> exact Bool.eq_iff_iff.mpr (by simp [and_assoc])
structure Att where
  key : Str
  name : Str
  value : Str
  deriving DecidableEq
noncomputable def Att.ok (a : Att) : Bool := PyData.strOk a.name && PyData.strOk a.value
noncomputable def attsOk (l : List Att) : Bool := l.all Att.ok && [[], [Str.ofString "k"], [Str.ofString "m"], [Str.ofString "k", Str.ofString "m"]].contains (l.map (·.key))
inductive Form where
  | mk (kind : Str) (lab : Lab) (value : Str) (atts : List Att) (kids : List Form)
end
section
open PySem PySem.W PyProof.Rows
section
variable {prog : Program} {w : World} {A : Around} {E : Value → Shared → Prop} {s : Shared} {env : Env} {h₀ : Heap} {x : Str} {body : List Stmt} {Q : Flow → Shared → Prop}
theorem app_led {L D : Addr} {m : Str → Option Value} {news : Ld} {g : Obj → Ld} {vs : List Value} {n : Nat} {v : Value} {Q : Value → Shared → Prop} (F : Fr h₀ L s.heap m) (N : News h₀ L s.heap news) (U : UpdF D (listOf vs.toArray n) news g) (hsz : vs.length ≤ sizeLine)
    (h : ∀ h', Fr h₀ L h' m → News h₀ L h' (g (listOf (vs ++ [v]).toArray (n + 1))) → Q .none { s with heap := h' }) : wpAny (model prog w) A (call (.builtin "list.append") [.ref D, v]) Q E s := by
  obtain ⟨pre, post, rfl, hg, a, b⟩ := U.split
  have z := N (D, listOf vs.toArray n) (List.mem_append.mpr (.inr (.head _)))
  refine append_at (hsz := by simpa using hsz) z.1 fun h' hs ho' => h h' (F.change hs z.2.1 z.2.2) ?_
  have e : listOf (vs.toArray.push v) (n + 1) = listOf (vs ++ [v]).toArray (n + 1) := by simp
  rw [hg, ← e]
  exact news_set N a b hs ho'
theorem len_led {L l : Addr} {news : Ld} {vs : List Value} {n : Nat} {Q : Value → Shared → Prop} (N : News h₀ L s.heap news) (hl : (l, listOf vs.toArray n) ∈ news) (hz : vs.length ≤ 1000) (h : Q (.int vs.length (s.toks + 1)) { s with toks := s.toks + 1 + 1 }) :
    wpAny (model prog w) A (call (.builtin "len") [.ref l]) Q E s := kun_lenL (items := vs.toArray) ⟨_, N.get hl, rfl, _, rfl⟩ (by simp) (by omega) h
theorem len_tup {L l : Addr} {news : Ld} {vs : List Value} {Q : Value → Shared → Prop} (N : News h₀ L s.heap news) (hl : (l, tupO vs) ∈ news) (hz : vs.length ≤ 1000) (h : Q (.int vs.length (s.toks + 1)) { s with toks := s.toks + 1 + 1 }) :
    wpAny (model prog w) A (call (.builtin "len") [.ref l]) Q E s := kun_lenT (items := vs.toArray) ⟨_, N.get hl, rfl, _, rfl⟩ (by simp) (by omega) h
end
end
section
open PySem PySem.W PyProof.Rows
theorem list_no_keys : typeLookup (.type "list") "keys" = pure none := am_miss_of_fast (by decide +kernel)
theorem getAttrQ_list {prog : Program} {w : World} {A : Around} {E : Value → Shared → Prop} {s : Shared} {a : Addr} {xs : Array Value} {k : Nat} {Q : Option Value → Shared → Prop}
    (hx : s.heap.get? a = some { cls := .type "list", data := .seq xs k }) (hA : A.handled = none)
    (h : ∀ h' tk, (∀ b o, s.heap.get? b = some o → h'.get? b = some o) → Q none { s with heap := h', toks := tk }) :
    wpAny (model prog w) A (getAttr? (.ref a) "keys") Q E s := by
  obtain ⟨hp, g, d, tk, os⟩ := s
  have hT : ∀ tk', (⟨hp, g, d, tk', os⟩ : Shared).TypeIs (.ref a) "list" := fun _ => ⟨_, hx, rfl⟩
  have f1 := sub_AttributeError
  have f3 := F.slot_list_getattribute.lookup
  have f4 := F.slot_list_getattribute.bind (.ref a)
  have f5 := am_list_getattr_none
  unfold getAttr? getAttrBy? getAttrBy
  repeat (any_goals (first | assumption | exact hT _ | ((with_reducible show wpAny _ _ (call (Value.builtin "list.__getattribute__") _ _) _ _ _); refine call_meets F.slot_list_getattribute (hT _) am_entry_list_getattribute (F.args_list_getattribute_2 _ _) (meets_getattribute_miss_list a xs k #[] "keys" _ list_no_keys (by decide +kernel) (by decide +kernel)) ⟨hx, hA, fun h' tk' e hx' => ?_⟩) | wp_step))
  obtain ⟨t', u', he⟩ := hx'.there
  show wpAny _ _ (getattributeRaised _ _ _ _ _ _ _) _ _ _
  unfold getattributeRaised
  repeat (any_goals (first | assumption | wp_step))
  exact h _ _ hx'.keeps
section
variable {prog : Program} {w : World} {K : Type} [DecidableEq K] {knd : HeapKind prog w K} {A : Around} {E : Value → Shared → Prop} {s : Shared}
noncomputable def PairAt (h : Heap) (knd : HeapKind prog w K) (v : Value) (x : K × Addr × Value) : Prop := ∃ a n, v = .ref a ∧ h.get? a = some { cls := .type "tuple", data := .seq #[.ref x.2.1, x.2.2] n } ∧ knd.is h x.1 x.2.1
theorem loop_entry : entryFor table "dict.update.loop" = some Builtin.«dict.update.loop» := entryFor_of_tree (by kernel_rfl)
theorem pairItems_tuple {M : Model} {a : Addr} {o : Obj} {items : Array Value} {n : Nat} {Q : List Value → Shared → Prop} (ho : s.heap.get? a = some o) (hc : o.cls = .type "tuple") (hd : o.data = .seq items n) (h : Q items.toList s) : wpAny M A (Builtin.Dict.pairItems (.ref a)) Q E s := by
  unfold Builtin.Dict.pairItems
  refine wpAny_bind (wpAny_typeOf (T := "tuple") ⟨o, ho, hc⟩ ?_)
  rw [if_pos (by decide)]
  refine wpAny_bind (wpAny_seqItems ho hd ?_)
  exact wpAny_pure h
theorem atKey_none {xs : List (K × Addr × Value)} {k : K} (h : k ∉ xs.map (·.1)) : atKey xs k = none :=
  atKey_none_of_get fun j p e => h (List.mem_map.mpr ⟨(k, p), List.mem_of_getElem? e, rfl⟩)
theorem dictOfH_keep {h h' : Heap} {d : Addr} {xs : List (K × Addr × Value)} (x : h.DictOfH knd d xs) (e : h'.get? d = h.get? d) (hk : ∀ y ∈ xs, knd.is h y.1 y.2.1 → knd.is h' y.1 y.2.1) : h'.DictOfH knd d xs :=
  let ⟨o, es, ep, ho, hc, hd, he, hi, hn⟩ := x
  ⟨o, es, ep, e.trans ho, hc, hd, he, fun y hy => hk y hy (hi y hy), hn⟩
theorem pairs_loop {l I d : Addr} {vs : Array Value} {R : Result → Shared → Prop} (hh : A.handled = none) (hu : knd.room A.in1) (xs : List (K × Addr × Value)) (hn : (xs.map (·.1)).Nodup) (hlI : l ≠ I) (hld : l ≠ d) (hId : I ≠ d) (hsz : xs.length ≤ sizeLine)
    (mono : ∀ {h h' : Heap} {k : K} {a : Addr}, knd.is h k a → (∀ o, h.get? a = some o → h'.get? a = some o) → knd.is h' k a) :
    ∀ (k i : Nat) (t : Tok) (s : Shared), i + k = xs.length → vs.size = xs.length → s.heap.IsListIter I l i → s.heap.IsList l vs → s.heap.DictOfH knd d (xs.take i) →
      (∀ (j : Nat) x, xs[j]? = some x → ∃ v, vs[j]? = some v ∧ PairAt s.heap knd v x) → (∀ x ∈ xs, x.2.1 ≠ I ∧ x.2.1 ≠ d) → (∀ (j : Nat) a, vs[j]? = some (.ref a) → a ≠ I ∧ a ≠ d) →
      (∀ h' tk, h'.DictOfH knd d xs → (∀ b o, b ≠ I → b ≠ d → s.heap.get? b = some o → h'.get? b = some o) → R (.ok (.ret .none)) { s with heap := h', toks := tk }) →
      codeAny (model prog w) A (.builtin "dict.update.loop" ⟨[.ref d, .ref I, .int (i : Int) t, .none], []⟩) R s
  | 0, i, t, s, hik, hvs, hit, hl, hd, hp, hk, hv, h => by
    refine codeAny_builtin loop_entry ?_
    rw [Around.under_plainId (by decide +kernel)]
    unfold Builtin.«dict.update.loop»
    show wpAny _ _ (pyNext (.ref I) >>= _) _ _ _
    refine wpAny_bind (wpAny_pyNext_list_end (A := A.in1) hh hit hl (by rw [Array.getElem?_eq_none]; omega) fun h' he => ?_)
    have e : xs.take i = xs := List.take_of_length_le (by omega)
    rw [e] at hd
    have keep : ∀ b o, b ≠ I → s.heap.get? b = some o → h'.get? b = some o := fun b o hb e => he b o hb e
    refine wpAny_bind (wpAny_pure (wpAny_pure (h h' s.toks ?_ fun b o hb _ e => keep b o hb e)))
    obtain ⟨o, es, ep, ho, hc, hdd, hee, hi, hnn⟩ := hd
    exact ⟨o, es, ep, keep d o (Ne.symm hId) ho, hc, hdd, hee, fun y hy => mono (hi y hy) fun o e => keep _ o (hk y hy).1 e, hnn⟩
  | k + 1, i, t, s, hik, hvs, hit, hl, hd, hp, hk, hv, h => by
    refine codeAny_builtin loop_entry ?_
    rw [Around.under_plainId (by decide +kernel)]
    unfold Builtin.«dict.update.loop»
    show wpAny _ _ (pyNext (.ref I) >>= _) _ _ _
    have hi : i < xs.length := by omega
    obtain ⟨x, hx⟩ : ∃ x, xs[i]? = some x := ⟨xs[i], by simp [hi]⟩
    obtain ⟨v, hv1, a, n, rfl, ha, hka⟩ := hp i x hx
    obtain ⟨haI, had⟩ := hv i a hv1
    obtain ⟨hkI, hkd⟩ := hk x (List.mem_of_getElem? hx)
    refine wpAny_bind (wpAny_pyNext_list_item hit hl hv1 fun h₁ hit₁ hs₁ => ?_)
    have ha₁ : h₁.get? a = _ := (hs₁.2 a haI).trans ha
    refine wpAny_bind (wpAny_holding ?_)
    refine wpAny_bind (wpAny_tryCatch (pairItems_tuple ha₁ rfl rfl ?_))
    show wpAny _ _ (holding _ (dictSet d (.ref x.2.1) x.2.2)) _ _ _
    refine wpAny_holding (wpAny_dictSet_heap hu (mono hka fun o e => (hs₁.2 _ hkI).trans e) (dictOfH_keep hd (hs₁.2 d (Ne.symm hId)) fun y hy hh' => mono hh' fun o e => (hs₁.2 _ (hk y (List.mem_of_mem_take hy)).1).trans e) (fun h₂ hd₂ hs₂ => ?_) (by rw [List.length_take]; omega))
    have hnew : atKey (xs.take i) x.1 = none := atKey_none fun hm => by
      have hlt : i < xs.length := hi
      have hs' : xs.take (i + 1) = xs.take i ++ [x] := by simp [List.take_add_one, hx]
      have hnd : ((xs.take (i + 1)).map (·.1)).Nodup := (hn.sublist ((List.take_sublist _ _).map _))
      rw [hs', List.map_append, List.nodup_append] at hnd
      exact hnd.2.2 _ hm _ (by simp) rfl
    rw [storedH_new hnew] at hd₂
    have e : xs.take i ++ [(x.1, x.2.1, x.2.2)] = xs.take (i + 1) := by simp [List.take_add_one, hx]
    rw [e] at hd₂
    have keep : ∀ b o, b ≠ I → b ≠ d → s.heap.get? b = some o → h₂.get? b = some o := fun b o hb hb' e => (hs₂.2 b hb').trans ((hs₁.2 b hb).trans e)
    have e1 : ((i : Int) + 1) = ((i + 1 : Nat) : Int) := by omega
    refine wpAny_pure ⟨Code.quiet_builtin _ (by decide +kernel), ?_⟩
    show codeAny _ _ (.builtin "dict.update.loop" ⟨[.ref d, .ref I, .int ((i : Int) + 1) _, .none], []⟩) _ _
    rw [e1]
    refine pairs_loop hh hu xs hn hlI hld hId hsz mono k (i + 1) _ _ (by omega) hvs (hit₁.extBut hs₂.extBut hId) (hl.at fun o e => keep _ _ hlI hld e) hd₂ (fun j y hy => ?_) hk hv fun h' tk hd' hk' => ?_
    · obtain ⟨v, hv2, b, n', e2, hb, hkb⟩ := hp j y hy
      subst e2
      obtain ⟨hbI, hbd⟩ := hv j b hv2
      exact ⟨_, hv2, b, n', rfl, keep _ _ hbI hbd hb, mono hkb fun o e => keep _ _ (hk y (List.mem_of_getElem? hy)).1 (hk y (List.mem_of_getElem? hy)).2 e⟩
    · have := h h' tk hd' fun b o hb hb' e => hk' b o hb hb' (keep b o hb hb' e)
      exact this
theorem dict_of_pairs {l : Addr} {vs : Array Value} {n : Nat} {Q : Value → Shared → Prop} (hh : A.handled = none) (hu : knd.room A.in1.in1) (xs : List (K × Addr × Value)) (hn : (xs.map (·.1)).Nodup) (hsz : xs.length ≤ sizeLine)
    (mono : ∀ {h h' : Heap} {k : K} {a : Addr}, knd.is h k a → (∀ o, h.get? a = some o → h'.get? a = some o) → knd.is h' k a) (isLt : ∀ {h : Heap} {k : K} {a : Addr}, knd.is h k a → a < h.objs.size)
    (hl : s.heap.get? l = some { cls := .type "list", data := .seq vs n }) (hvs : vs.size = xs.length) (hp : ∀ (j : Nat) x, xs[j]? = some x → ∃ v, vs[j]? = some v ∧ PairAt s.heap knd v x)
    (h : ∀ h' tk, h'.DictOfH knd s.heap.objs.size xs → (∀ b o, s.heap.get? b = some o → h'.get? b = some o) → Q (.ref s.heap.objs.size) { s with heap := h', toks := tk }) :
    wpAny (model prog w) A (call (.type "dict") [.ref l]) Q E s := by
  refine callType_codes (Q₁ := fun obj s₁ => obj = .ref s.heap.objs.size ∧ s₁ = { s with heap := s.heap.push { cls := .type "dict", data := .dict #[] } }) F.kt_called_dict (F.kt_typeCall_dict_1 _) F.entry_dict_init (kt_code_dict_new _ ⟨rfl, rfl⟩) ?_
  rintro obj s₁ ⟨rfl, rfl⟩
  have up : ∀ b o, s.heap.get? b = some o → (s.heap.push { cls := .type "dict", data := .dict #[] }).get? b = some o := fun b o e => Heap.get?_push_of_some _ e
  have hnew : (s.heap.push { cls := .type "dict", data := .dict #[] }).DictOfH knd s.heap.objs.size [] := Heap.DictOfH.new s.heap
  refine ⟨hnew.typeIs, F.args_dict_init_2 _ _, ?_⟩
  unfold Builtin.«dict.__init__»
  refine wpAny_bind ?_
  unfold Builtin.Dict.selfAndRest
  refine wpAny_bind (wpAny_notOrdered_dict hnew.typeIs ?_)
  show wpAny _ _ (pure (s.heap.objs.size, [Value.ref l])) _ _ _
  refine wpAny_pure ?_
  show wpAny _ _ (Builtin.Dict.updateFrom "dict.__init__" s.heap.objs.size (.ref l) [] .none) _ _ _
  unfold Builtin.Dict.updateFrom
  have hlt : ({ s with heap := s.heap.push { cls := .type "dict", data := .dict #[] } } : Shared).TypeIs (.ref l) "list" := ⟨_, up _ _ hl, rfl⟩
  refine wpAny_bind (wpAny_typeOf hlt ?_)
  rw [if_pos (by decide)]
  refine wpAny_bind (getAttrQ_list (up _ _ hl) hh fun h₁ tk₁ k₁ => ?_)
  simp only [Option.isNone_none, if_true]
  have hl₁ : h₁.IsList l vs := ⟨_, k₁ _ _ (up _ _ hl), rfl, _, rfl⟩
  have hsz₁ : s.heap.objs.size < h₁.objs.size := by
    obtain ⟨o, _, _, ho, _⟩ := hnew
    exact Heap.lt_size (k₁ _ _ ho)
  have hll : l < s.heap.objs.size := Heap.lt_size hl
  refine wpAny_bind (wpAny_rule (wpAny_bind (wpAny_pyIter_list hl₁ (wpAny_pure ?_))))
  refine ⟨Code.quiet_builtin _ (by decide +kernel), ?_⟩
  have k₂ : ∀ b o, s.heap.get? b = some o → (h₁.push { cls := .type "list_iterator", data := .fields #[.ref l, .int 0 0] }).get? b = some o := fun b o e => Heap.get?_push_of_some _ (k₁ _ _ (up _ _ e))
  have below : ∀ b o, s.heap.get? b = some o → b ≠ h₁.objs.size ∧ b ≠ s.heap.objs.size := fun b o e => ⟨Nat.ne_of_lt (Nat.lt_trans (Heap.lt_size e) hsz₁), Nat.ne_of_lt (Heap.lt_size e)⟩
  have hd0 : (h₁.push { cls := .type "list_iterator", data := .fields #[.ref l, .int 0 0] }).DictOfH knd s.heap.objs.size (xs.take 0) := by
    obtain ⟨o, es, ep, ho, hc, hdd, hee, _, hnn⟩ := hnew
    exact ⟨o, es, ep, Heap.get?_push_of_some _ (k₁ _ _ ho), hc, hdd, hee, fun y hy => by simp at hy, hnn⟩
  refine pairs_loop (A := A.in1) (vs := vs) (l := l) (I := h₁.objs.size) (d := s.heap.objs.size) hh hu xs hn (Nat.ne_of_lt (Nat.lt_trans hll hsz₁)) (Nat.ne_of_lt hll) (Nat.ne_of_gt hsz₁) hsz mono xs.length 0 _ _ (by omega) hvs ⟨_, Heap.get?_push_size _ rfl, rfl, rfl⟩ (hl₁.push _) hd0
    (fun j x hx => ?_) (fun x hx => ?_) (fun j a ha => ?_) fun h' tk hd hk => ?_
  · obtain ⟨v, hv, a, n', e, ha, hka⟩ := hp j x hx
    exact ⟨v, hv, a, n', e, k₂ _ _ ha, mono hka fun o e => k₂ _ _ e⟩
  · obtain ⟨j, hj⟩ := List.mem_iff_getElem?.mp hx
    obtain ⟨v, hv, a, n', e, ha, hka⟩ := hp j x hj
    have := isLt hka
    exact ⟨Nat.ne_of_lt (Nat.lt_trans this hsz₁), Nat.ne_of_lt this⟩
  · have hj : j < xs.length := by
      rw [← hvs]
      exact (Array.getElem?_eq_some_iff.mp ha).1
    obtain ⟨v, hv, a', n', e, ha', hka⟩ := hp j xs[j] (by simp [hj])
    rw [ha] at hv
    cases hv
    cases e
    exact below _ _ ha'
  · exact ⟨rfl, h h' tk hd fun b o e => hk b o (below b o e).1 (below b o e).2 (k₂ b o e)⟩
end
section
variable {prog : Program} {w : World} {K : Type} [DecidableEq K]
noncomputable def DObj (knd : KeyKind prog w K) (o : Obj) (xs : List (List K × Addr × Value)) : Prop := o.ExactDict ∧ ∃ es ep, o.data = .dict es ep ∧ es.toList = xs.map (entryOfKey (tupleKind knd)) ∧ (xs.map (·.1)).Nodup
noncomputable def KeysIn (knd : KeyKind prog w K) (news : Ld) (xs : List (List K × Addr × Value)) : Prop := ∀ x ∈ xs, ∃ ok, (x.2.1, ok) ∈ news ∧ TupKeyObj knd x.1 ok
noncomputable def TD (knd : KeyKind prog w K) (news : Ld) (d : Addr) (xs : List (List K × Addr × Value)) : Prop := (d == sysModules) = false ∧ ∃ o, (d, o) ∈ news ∧ DObj knd o xs ∧ KeysIn knd news xs
variable {knd : KeyKind prog w K} {A : Around} {E : Value → Shared → Prop} {s : Shared} {h₀ h : Heap} {L d a : Addr} {m : Str → Option Value} {news : Ld} {xs : List (List K × Addr × Value)} {ks : List K} {ok o : Obj}
theorem KeysIn.mono {news' : Ld} (x : KeysIn knd news xs) (hs : ∀ p ∈ news, p ∈ news') : KeysIn knd news' xs := fun y hy => let ⟨ok, hm, t⟩ := x y hy; ⟨ok, hs _ hm, t⟩
theorem TD.mono {news' : Ld} (x : TD knd news d xs) (hs : ∀ p ∈ news, p ∈ news') : TD knd news' d xs := let ⟨lo, o, hm, hd, hk⟩ := x; ⟨lo, o, hs _ hm, hd, hk.mono hs⟩
theorem dictAt (N : News h₀ L h news) (hm : (d, o) ∈ news) (D : DObj knd o xs) (k : KeysIn knd news xs) : h.DictOfH (tupleKind knd) d xs :=
  let ⟨hc, es, ep, hd, he, hn⟩ := D
  ⟨o, es, ep, N.get hm, hc, hd, he, fun x hx => let ⟨_, hk, t⟩ := k x hx; t.key (N.get hk), hn⟩
theorem TD.at (T : TD knd news d xs) (N : News h₀ L h news) : h.DictOfH (tupleKind knd) d xs := let ⟨_, _, hm, D, k⟩ := T; dictAt N hm D k
theorem TD.lo (T : TD knd news d xs) : (d == sysModules) = false := T.1
theorem DObj.of {h : Heap} (x : h.DictOfH (tupleKind knd) d xs) : ∃ o, h.get? d = some o ∧ DObj knd o xs := let ⟨o, es, ep, ho, hc, hd, he, _, hn⟩ := x; ⟨o, ho, hc, es, ep, hd, he, hn⟩
theorem td_method {name : Str} {id : String} {pl : Sem Bool} {Q : Value × List Value → Shared → Prop} (slot : Slot "dict" name id) (hty : typeOf (.builtin id) = pure (.type "method_descriptor"))
    (N : News h₀ L s.heap news) (T : TD knd news d xs) (h : Q (.builtin id, [.ref d]) s) : wpAny (model prog w) A (getMethod (.ref d) name pl) Q E s :=
  getMethod_builtin (T.at N).typeIs PySem.F.plainAttrs_dict slot hty (dictOfH_noDict (T.at N)) h
theorem td_get {pl : Sem Bool} {Q : Value × List Value → Shared → Prop} (N : News h₀ L s.heap news) (T : TD knd news d xs) (h : Q (.builtin "dict.get", [.ref d]) s) : wpAny (model prog w) A (getMethod (.ref d) "get" pl) Q E s :=
  td_method PySem.F.slot_dict_get PySem.F.type_dict_get N T h
theorem td_get1 {Q : Value → Shared → Prop} (hu : A.units + 1 < cLine) (N : News h₀ L s.heap news) (T : TD knd news d xs) (hka : (a, ok) ∈ news) (tk : TupKeyObj knd ks ok)
    (h : ∀ t, Q (((atKey xs ks).map (·.2)).getD .none) { s with toks := t }) : wpAny (model prog w) A (call (.builtin "dict.get") [.ref d, .ref a]) Q E s :=
  call_meetsIn PySem.F.slot_dict_get (T.at N).typeIs PySem.F.entry_dict_get (PySem.F.args_dict_get_2 _ _) (meetsH_dict_get (tupleKind knd) d a T.lo) ⟨tupleKind_room_in1 hu, ks, xs, tk.key (N.get hka), T.at N, h _⟩
theorem td_get2 {dflt : Value} {Q : Value → Shared → Prop} (hu : A.units + 1 < cLine) (N : News h₀ L s.heap news) (T : TD knd news d xs) (hka : (a, ok) ∈ news) (tk : TupKeyObj knd ks ok)
    (h : ∀ t, Q (((atKey xs ks).map (·.2)).getD dflt) { s with toks := t }) : wpAny (model prog w) A (call (.builtin "dict.get") [.ref d, .ref a, dflt]) Q E s :=
  call_meetsIn PySem.F.slot_dict_get (T.at N).typeIs PySem.F.entry_dict_get (PySem.F.args_dict_get_3 _ _ _) (meetsH_dict_get_default (tupleKind knd) d a T.lo dflt) ⟨tupleKind_room_in1 hu, ks, xs, tk.key (N.get hka), T.at N, h _⟩
theorem td_notin {Q : Value → Shared → Prop} (hu : A.units + 1 < cLine) (N : News h₀ L s.heap news) (T : TD knd news d xs) (hka : (a, ok) ∈ news) (tk : TupKeyObj knd ks ok)
    (h : ∀ t, Q (.bool (!(atKey xs ks).isSome)) { s with toks := t }) : wpAny (model prog w) A (compareOp .NotIn (.ref a) (.ref d)) Q E s :=
  wpAny_notIn_heap (tupleKind_room_in1 hu) (tk.key (N.get hka)) T.lo (T.at N) (h _)
theorem td_item {value slice : Expr} {p : Addr × Value} {Q : Value → Shared → Prop} (hu : A.units + 1 < cLine) (N : News h₀ L s.heap news) (T : TD knd news d xs) (hka : (a, ok) ∈ news) (tk : TupKeyObj knd ks ok) (hp : atKey xs ks = some p)
    (h : ∀ t, Q p.2 { s with toks := t }) (hs : subscripted slice false (.ref d) (.ref a) = operate [.ref d, .ref a] (getItem (.ref d) (.ref a)))
    (hg : ∀ r, letTemporaryGo value (.ref d) r = pure ()) :
    wpAny (model prog w) A (subscriptTail value slice (.ref d) (.ref a)) Q E s :=
  subscriptTail_builtin (T.at N).typeIs slot_dict_getitem.lookup (wpAny_getItem_heap (tupleKind_room_in1 hu) (tk.key (N.get hka)) (T.at N) hp (h _)) hs hg
theorem td_set {v : Value} {g : Obj → Ld} {Q : Unit → Shared → Prop} (hu : A.units + 1 < cLine) (F : Fr h₀ L s.heap m) (N : News h₀ L s.heap news) (U : UpdF d o news g) (D : DObj knd o xs) (k : KeysIn knd news xs) (hka : (a, ok) ∈ news) (tk : TupKeyObj knd ks ok) (hsz : xs.length ≤ 1000)
    (h : ∀ h' t o', Fr h₀ L h' m → News h₀ L h' (g o') → DObj knd o' (storedH xs ks a v) → Q () { s with heap := h', toks := t }) : wpAny (model prog w) A (setItem (.ref d) (.ref a) v) Q E s := by
  obtain ⟨pre, post, rfl, hg, h1, h2⟩ := U.split
  have hm := N (d, o) (List.mem_append_right _ (.head _))
  refine wpAny_setItem_heap (tupleKind_room_in1 hu) (tk.key (N.get hka)) (dictAt N (List.mem_append_right _ (.head _)) D k) (fun h' hmm hs => ?_) (by rw [sizeLine_eq]; omega)
  obtain ⟨o', ho', hd'⟩ := DObj.of hmm
  exact h h' _ o' (F.change hs hm.2.1 hm.2.2) (hg o' ▸ N.setIn h1 h2 hs ho') hd'
theorem isTupleKey_local {h h' : Heap} {k : List K} {a : Addr} (x : IsTupleKey knd h k a) (e : ∀ o, h.get? a = some o → h'.get? a = some o) : IsTupleKey knd h' k a := let ⟨o, items, n, ho, r⟩ := x; ⟨o, items, n, e _ ho, r⟩
theorem td_new {l : Addr} {vs : List Value} {n : Nat} {Q : Value → Shared → Prop} (hh : A.handled = none) (hu : A.units + 2 < cLine) (F : Fr h₀ L s.heap m) (N : News h₀ L s.heap news) (hbig : h₀.NoLimit) (hl : (l, listOf vs.toArray n) ∈ news)
    (hn : (xs.map (·.1)).Nodup) (hsz : xs.length ≤ 1000) (hvs : vs.length = xs.length) (hp : ∀ (j : Nat) x, xs[j]? = some x → ∃ a, vs[j]? = some (.ref a) ∧ (a, tupO [.ref x.2.1, x.2.2]) ∈ news) (hk : KeysIn knd news xs)
    (h : ∀ d h' tk o, Fr h₀ L h' m → News h₀ L h' ((d, o) :: news) → (∀ p ∈ news, p.1 < d) → DObj knd o xs → TD knd ((d, o) :: news) d xs → Q (.ref d) { s with heap := h', toks := tk }) :
    wpAny (model prog w) A (call (.type "dict") [.ref l]) Q E s := by
  refine dict_of_pairs (knd := tupleKind knd) (vs := vs.toArray) hh (tupleKind_room_in1 (A := A.in1) (by simp only [Around.in1_units]; omega)) xs hn (by rw [sizeLine_eq]; omega) isTupleKey_local (fun x => Heap.lt_size x.choose_spec.choose_spec.choose_spec.1) (N.get hl) (by simpa using hvs) (fun j x hx => ?_) fun h' tk hd k => ?_
  · obtain ⟨a, hv, ha⟩ := hp j x hx
    obtain ⟨ok, hok, t⟩ := hk x (List.mem_of_getElem? hx)
    exact ⟨_, by simpa using hv, a, 0, rfl, N.get ha, t.key (N.get hok)⟩
  · obtain ⟨o, ho, D⟩ := DObj.of hd
    have hL : L < s.heap.objs.size := F.ns.lt
    have h0 : h₀.get? s.heap.objs.size = none := by
      cases q : h₀.get? s.heap.objs.size with
      | none => rfl
      | some o' => exact absurd (Heap.lt_size (F.keep _ _ q)) (Nat.lt_irrefl _)
    have N' : News h₀ L h' ((s.heap.objs.size, o) :: news) := fun p hp => by
      rcases List.mem_cons.mp hp with rfl | hp
      · exact ⟨ho, Nat.ne_of_gt hL, h0⟩
      · exact ⟨k _ _ (N p hp).1, (N p hp).2⟩
    exact h _ h' tk o (F.keeps k) N' (fun p hp => Heap.lt_size (N p hp).1) D ⟨F.notModules (modules_low hbig), o, .head _, D, hk.mono fun p hp => .tail _ hp⟩
end
end
section
open PySem PySem.W PyProof.Rows
section
variable {prog : Program} {w : World} {A : Around} {E : Value → Shared → Prop} {s : Shared} {h₀ : Heap} {L : Addr} {m : Str → Option Value} {news : Ld}
theorem adjust_upto (b n : Nat) (hb : b ≤ n) : Builtin.Slice.sliceAdjust none (some (b : Int)) 1 (n : Int) = (0, (b : Int)) := by
  unfold Builtin.Slice.sliceAdjust
  have h1 : ¬ ((1 : Int) < 0) := by omega
  have h2 : ¬ ((b : Int) < 0) := by omega
  simp only [h1, h2, if_false]
  congr 1
  omega
theorem places_upto (b : Nat) : Builtin.Slice.slicePlaces 0 (b : Int) 1 = b := by
  unfold Builtin.Slice.slicePlaces
  have h1 : (1 : Int) > 0 := by omega
  simp only [h1, if_true, Int.ediv_one]
  split <;> omega
theorem sliceApplied_upto {sl : Addr} {b n : Nat} {u : Tok} {Q : Int × Int × Nat → Shared → Prop} (hs : s.heap.IsSliceOf sl .none (.int b u) .none) (hb : b ≤ n) (h : Q (0, 1, b) s) :
    wpAny (model prog w) A (Builtin.Slice.sliceApplied (.ref sl) (pure (n : Int))) Q E s := by
  obtain ⟨os, hos, hcs, hds⟩ := id hs
  unfold Builtin.Slice.sliceApplied Builtin.Slice.sliceFields
  refine wpAny_bind (wpAny_bind (wpAny_field hos hds (x := .none) rfl (wpAny_bind (wpAny_field hos hds (x := .int b u) rfl (wpAny_bind (wpAny_field hos hds (x := .none) rfl (wpAny_pure ?_)))))))
  refine wpAny_bind (slicePart_none ?_)
  show wpAny _ _ (if ((1 : Int) == 0) = true then _ else _) _ _ s
  rw [if_neg (by decide)]
  refine wpAny_bind (slicePart_none (wpAny_bind (slicePart_int (wpAny_bind (wpAny_pure ?_)))))
  show wpAny _ _ (match Builtin.Slice.sliceAdjust none (some (b : Int)) 1 (n : Int) with | (lo, hi) => pure (lo, (1 : Int), Builtin.Slice.slicePlaces lo hi 1)) _ _ s
  rw [adjust_upto b n hb]
  show wpAny _ _ (pure ((0 : Int), (1 : Int), Builtin.Slice.slicePlaces 0 (b : Int) 1)) _ _ s
  rw [places_upto b]
  exact wpAny_pure h
theorem pick_upto (xs : Array Value) (b : Nat) : ((List.range b).filterMap fun (k : Nat) => xs[((0 : Int) + (k : Int) * 1).toNat]?).toArray = (xs.toList.take b).toArray := by
  have e : (fun (k : Nat) => xs[((0 : Int) + (k : Int) * 1).toNat]?) = fun k => xs[0 + k]? := by
    funext k
    have : ((0 : Int) + (k : Int) * 1).toNat = 0 + k := by omega
    rw [this]
  rw [e]
  have := pick_run xs 0 b
  rw [List.filterMap_map] at this
  have e2 : ((fun x => xs[x]?) ∘ fun x => 0 + x) = fun k => xs[0 + k]? := rfl
  rw [e2] at this
  rw [this, List.drop_zero]
theorem getItem_tuple_upto {t sl : Addr} {items : Array Value} {b : Nat} {u : Tok} {Q : Value → Shared → Prop} (ht : IsTup s.heap t items) (hs : s.heap.IsSliceOf sl .none (.int b u) .none) (hb : b < items.size)
    (h : Q (.ref s.heap.objs.size) { s with heap := s.heap.push { cls := .type "tuple", data := .seq (items.toList.take b).toArray } })
    (hsz : items.size ≤ sizeLine) : wpAny (model prog w) A (getItem (.ref t) (.ref sl)) Q E s := by
  have hdrop : sizeOk (.seq (items.toList.take b).toArray) := by
    show (items.toList.take b).toArray.size ≤ sizeLine
    rw [List.size_toArray, List.length_take, Array.length_toList]
    omega
  obtain ⟨os, hos, hcs, hds⟩ := id hs
  have hTs : s.TypeIs (.ref sl) "slice" := ⟨os, hos, hcs⟩
  unfold getItem
  try with_reducible refine wpAny_holding ?_
  first | refine wpAny_bind (wpAny_pure ?_) | skip
  refine wpAny_bind (wpAny_sequenceKey ht.typeIs (by decide) ?_)
  refine wpAny_bind (wpAny_callSpecial?_slot (name := Str.ofString "__getitem__") ht.typeIs slot_tuple_getitem
    (wpAny_call_entry slot_tuple_getitem ht.typeIs entry_tuple_getitem ?_ (args_tuple_getitem _ _)))
  show wpAny _ _ (Builtin.Tuple.tupleItemsOf (.ref t) >>= _) _ _ s
  refine wpAny_bind (tupleItemsOf_ ht ?_)
  refine wpAny_bind (wpAny_typeOf hTs ?_)
  rw [if_pos (by decide)]
  refine wpAny_bind (sliceApplied_upto hs (Nat.le_of_lt hb) ?_)
  have hno : ¬ (((0 : Int) == 0 && (1 : Int) == 1 && b == items.size) = true) := by
    have : (b == items.size) = false := by rw [beq_eq_false_iff_ne]; omega
    rw [this]; simp
  show wpAny _ _ (if ((0 : Int) == 0 && (1 : Int) == 1 && b == items.size) = true then _ else _) _ _ s
  rw [if_neg hno, pick_upto items b]
  first
    | exact wpAny_bind (m := Builtin.Tuple.tupleExact _) (wpAny_newObj_type (wpAny_pure ⟨_, rfl, wpAny_pure h⟩) hdrop)
    | exact wpAny_bind (m := Builtin.Tuple.tupleExact _) (wpAny_newObj_type (wpAny_bind (wpAny_pure (wpAny_pure ⟨_, rfl, wpAny_pure h⟩))) hdrop)
    | exact wpAny_bind (wpAny_bind (m := Builtin.Tuple.tupleExact _) (wpAny_newObj_type (wpAny_pure (wpAny_pure ⟨_, rfl, wpAny_pure h⟩)) hdrop))
    | exact wpAny_bind (wpAny_bind (m := Builtin.Tuple.tupleExact _) (wpAny_newObj_type (wpAny_pure ⟨_, rfl, wpAny_pure h⟩) hdrop))
theorem sl_upto {value slice : Expr} {t : Addr} {vs : List Value} {b : Nat} {k : Int} {u : Tok} {Q : Value → Shared → Prop}
    (F : Fr h₀ L s.heap m) (N : News h₀ L s.heap news) (hm : (t, tupO vs) ∈ news) (hk : k = (b : Int)) (hb : b < vs.length) (hsz : vs.length ≤ sizeLine)
    (h : ∀ D h', Fr h₀ L h' m → News h₀ L h' ((D, tupO (vs.take b)) :: news) → (∀ p ∈ news, p.1 < D) → Q (.ref D) { s with heap := h' })
    (hs : subscripted slice false (.ref t) (.ref s.heap.objs.size) = operate [.ref s.heap.objs.size, .ref t] (getItem (.ref t) (.ref s.heap.objs.size)))
    (hg : ∀ r, letTemporaryGo value (.ref t) r = pure ()) :
    wpAny (model prog w) A (subscriptTail value slice (.ref t) (.ref s.heap.objs.size)) Q E { s with heap := s.heap.push { cls := .type "slice", data := .fields #[.none, .int k u, .none] } } := by
  subst hk
  have ht : IsTup s.heap t vs.toArray := ⟨_, N.get hm, rfl, _, rfl⟩
  have ht' : IsTup (s.heap.push { cls := .type "slice", data := .fields #[.none, .int b u, .none] }) t vs.toArray := ht.keeps fun _ _ e => Heap.get?_push_of_some _ e
  refine subscriptTail_ops (s := { s with heap := s.heap.push { cls := .type "slice", data := .fields #[.none, .int b u, .none] } }) ht'.typeIs slot_tuple_getitem.lookup
    (getItem_tuple_upto ht' (Heap.IsSliceOf.new ..) (by simpa using hb) ?_ (by simpa using hsz)) hs hg
  have N1 := News.push (F.push { cls := .type "slice", data := .fields #[.none, .int b u, .none] }) (N.grown fun _ _ e => Heap.get?_push_of_some _ e) (tupO (vs.take b))
  rw [Heap.size_push] at N1
  show Q (.ref (s.heap.push _).objs.size) _
  rw [Heap.size_push]
  exact h _ _ ((F.push _).push _) N1 fun p hp => Nat.lt_succ_of_lt (Heap.lt_size (N p hp).1)
theorem sl_from {value slice : Expr} {t : Addr} {vs : List Value} {a : Nat} {k : Int} {u : Tok} {Q : Value → Shared → Prop}
    (F : Fr h₀ L s.heap m) (N : News h₀ L s.heap news) (hm : (t, tupO vs) ∈ news) (hk : k = (a : Int)) (h1 : 1 ≤ a) (ha : a ≤ vs.length) (hsz : vs.length ≤ sizeLine)
    (h : ∀ D h', Fr h₀ L h' m → News h₀ L h' ((D, tupO (vs.drop a)) :: news) → (∀ p ∈ news, p.1 < D) → Q (.ref D) { s with heap := h' })
    (hs : subscripted slice false (.ref t) (.ref s.heap.objs.size) = operate [.ref s.heap.objs.size, .ref t] (getItem (.ref t) (.ref s.heap.objs.size)))
    (hg : ∀ r, letTemporaryGo value (.ref t) r = pure ()) :
    wpAny (model prog w) A (subscriptTail value slice (.ref t) (.ref s.heap.objs.size)) Q E { s with heap := s.heap.push { cls := .type "slice", data := .fields #[.int k u, .none, .none] } } := by
  subst hk
  have ht : IsTup s.heap t vs.toArray := ⟨_, N.get hm, rfl, _, rfl⟩
  refine slice_tuple_from F N ht h1 (by simpa using ha) (fun h' F' N' => ?_) hs hg (by simpa using hsz)
  exact h _ _ F' N' fun p hp => Nat.lt_succ_of_lt (Heap.lt_size (N p hp).1)
end
end
section
open PySem PySem.W PyProof.Rows PySem.Calls
section
variable {prog : Program} {w : World} {A : Around} {E : Value → Shared → Prop} {s : Shared} {h₀ : Heap} {L a l : Addr} {m : Str → Option Value} {news : Ld} {vs : List Value}
theorem few_sort {n : Nat} {P : PySem.Fin → Shared → Prop} (F : Fr h₀ L s.heap m) (N : News h₀ L s.heap news) (ho : s.heap.get? a = some (seqObj "list" vs.toArray n)) (haL : a ≠ L) (ha0 : h₀.get? a = none) (hna : ∀ p ∈ news, p.1 ≠ a) (h2 : vs.length < 2)
    (h : ∀ c h', Fr h₀ L h' m → News h₀ L h' ((a, seqObj "list" vs.toArray c) :: news) → P (.done (.ret .none)) { s with heap := h' }) :
    wpAny (model prog w) A (Builtin.«list.sort» ⟨[.ref a], []⟩) P E s := by
  have s1 := Heap.SameBut.update s.heap a (Obj.mapSeq fun _ => (#[] : Array Value))
  obtain ⟨e1, ho1⟩ : ∃ e1, (s.heap.update a (Obj.mapSeq fun _ => (#[] : Array Value))).get? a = some (seqObj "list" #[] e1) := ⟨_, get?_update_seq ho fun _ => #[]⟩
  rw [list_sort_plain]
  refine wpAny_bind (listItems_at ho rfl ?_)
  refine wpAny_bind (listUpdate_at ho rfl ?_ (by rw [List.size_toArray, sizeLine_eq]; omega) (Nat.zero_le _))
  refine wpAny_bind (seqEpoch_at ho1 rfl ?_)
  refine wpAny_bind (wpAny_newTuple ?_ (by show vs.length ≤ _; rw [sizeLine_eq]; omega))
  refine wpAny_bind (wpAny_newList ?_ (Nat.zero_le _))
  refine wpAny_holding ?_
  show wpAny (model prog w) A _ P E { s with heap := ((s.heap.update a (Obj.mapSeq fun _ => (#[] : Array Value))).push (seqObj "tuple" vs.toArray 0)).push (seqObj "list" #[] 0) }
  dsimp only
  have hn2 : vs.toArray.size < 2 := by rw [List.size_toArray]; omega
  rw [if_pos hn2, if_pos hn2]
  refine wpAny_bind (wpAny_pure ?_)
  refine wpAny_bind (m := pure ((), SortSt.mk' general' (vs.toArray.zip vs.toArray) #[] 7 none)) (wpAny_pure ?_)
  dsimp only
  have hout : (arrOf (SortSt.mk' general' (vs.toArray.zip vs.toArray) #[] 7 none)).map (·.2) = vs.toArray := by
    show (vs.toArray.zip vs.toArray).map (·.2) = vs.toArray
    refine Array.toList_inj.mp ?_
    simp [List.map_snd_zip]
  rw [hout]
  have na : (((s.heap.update a (Obj.mapSeq fun _ => (#[] : Array Value))).push (seqObj "tuple" vs.toArray 0)).push (seqObj "list" #[] 0)).get? a = some (seqObj "list" #[] e1) := Heap.get?_push_of_some _ (Heap.get?_push_of_some _ ho1)
  refine wpAny_bind (seqEpoch_at na rfl ?_)
  refine wpAny_bind (listUpdate_at na rfl ?_ (Nat.zero_le _) (by rw [List.size_toArray, sizeLine_eq]; omega))
  simp only [show failedOf (SortSt.mk' general' (vs.toArray.zip vs.toArray) #[] 7 none) = none from rfl, bne_self_eq_false, Bool.false_eq_true, if_false]
  have s2 := Heap.SameBut.update (((s.heap.update a (Obj.mapSeq fun _ => (#[] : Array Value))).push (seqObj "tuple" vs.toArray 0)).push (seqObj "list" #[] 0)) a (Obj.mapSeq fun _ => vs.toArray)
  obtain ⟨c2, hc2⟩ : ∃ c2, ((((s.heap.update a (Obj.mapSeq fun _ => (#[] : Array Value))).push (seqObj "tuple" vs.toArray 0)).push (seqObj "list" #[] 0)).update a (Obj.mapSeq fun _ => vs.toArray)).get? a = some (seqObj "list" vs.toArray c2) := ⟨_, get?_update_seq na fun _ => vs.toArray⟩
  refine wpAny_pure (h c2 _ (kas_fr (((kas_fr F s1 haL ha0).push _).push _) s2 haL ha0) fun p hp => ?_)
  rcases List.mem_cons.mp hp with rfl | hp
  · exact ⟨hc2, haL, ha0⟩
  · exact kas_news ((kas_news N s1 hna).grown fun b x e => Heap.get?_push_of_some _ (Heap.get?_push_of_some _ e)) s2 hna p hp
set_option tactic.hygienic true in
theorem few_sorted {k : Nat} {Q : Value → Shared → Prop} (F : Fr h₀ L s.heap m) (N : News h₀ L s.heap news) (hl : (l, listOf vs.toArray k) ∈ news) (h2 : vs.length < 2)
    (h : ∀ D c h', Fr h₀ L h' m → News h₀ L h' ((D, listOf vs.toArray c) :: news) → (∀ q ∈ news, q.1 < D) → Q (.ref D) { s with heap := h' }) :
    wpAny (model prog w) A (call (.builtin "sorted") [.ref l]) Q E s := by
  have hls : s.heap.IsList l vs.toArray := ⟨_, N.get hl, rfl, _, rfl⟩
  refine Calls.call_function_entry kind_sorted plain_sorted entry_sorted (args_sorted1 _) ?_
  unfold Builtin.«sorted»
  refine wpAny_bind (m := checkCount "sorted" 1 1 _) (wpAny_pure ?_)
  refine wpAny_bind (collect_list hls ?_ (by rw [sizeLine_eq]; omega))
  refine wpAny_bind (wpAny_newList ?_ (by rw [sizeLine_eq]; omega))
  generalize hH : (s.heap.push (seqObj "list" #[] 0)).update s.heap.objs.size (Obj.mapSeq (· ++ vs.toArray)) = H
  have hsz : H.objs.size = s.heap.objs.size + 1 := by rw [← hH, Heap.size_update, Heap.size_push]
  have keep : ∀ b o, s.heap.get? b = some o → (H.push (seqObj "list" vs.toArray 0)).get? b = some o := fun b o q => by
    have hlt : b < s.heap.objs.size := Heap.lt_size q
    rw [Heap.get?_push_ne _ _ _ (by rw [hsz]; exact Nat.ne_of_lt (Nat.lt_succ_of_lt hlt)), ← hH, Heap.get?_update_ne _ _ _ _ (Nat.ne_of_lt hlt), Heap.get?_push_ne _ _ _ (Nat.ne_of_lt hlt)]
    exact q
  have hoL : (H.push (seqObj "list" vs.toArray 0)).get? H.objs.size = some (seqObj "list" vs.toArray 0) := Heap.get?_push_size _ rfl
  have hL : L < s.heap.objs.size := F.ns.lt
  show wpAny _ _ _ _ _ { s with heap := H.push (seqObj "list" vs.toArray 0) }
  rw [hsz] at hoL ⊢
  refine wpAny_bind (wpAny_holding (wpAny_call_entry slot_list_sort ⟨_, hoL, rfl⟩ entry_list_sort ?body (args_list_sort _)))
  case body =>
    refine few_sort (s := { s with heap := H.push (seqObj "list" vs.toArray 0) }) (F.kept keep) (N.grown keep) hoL (Nat.ne_of_gt (Nat.lt_succ_of_lt hL)) (Heap.get?_none_of_le (Nat.le_trans F.above (Nat.le_succ_of_le (Nat.le_of_lt hL))))
      (fun p hp => Nat.ne_of_lt (Nat.lt_succ_of_lt (Heap.lt_size (N p hp).1))) h2 fun c h' F' N' => ?_
    exact ⟨_, rfl, wpAny_pure ⟨_, rfl, h _ c h' F' N' fun q hq => Nat.lt_succ_of_lt (Heap.lt_size (N q hq).1)⟩⟩
end
end
section
open PySem PySem.W PyProof.Rows
section
variable {prog : Program} {w : World} {A : Around} {E : Value → Shared → Prop} {s : Shared} {h₀ : Heap} {L : Addr} {m : Str → Option Value}
noncomputable def RawD (h : Heap) (d : Addr) (es : Array DictEntry) (ep : Nat) : Prop := ∃ o, h.get? d = some o ∧ o.ExactDict ∧ o.data = .dict es ep
theorem RawD.typeIs {es ep d} (x : RawD s.heap d es ep) : s.TypeIs (.ref d) "dict" := let ⟨o, ho, hc, _⟩ := x; ⟨o, ho, hc.1⟩
theorem RawD.at {h h' : Heap} {d : Addr} {es ep} (x : RawD h d es ep) (e : ∀ o, h.get? d = some o → h'.get? d = some o) : RawD h' d es ep := let ⟨o, ho, r⟩ := x; ⟨o, e _ ho, r⟩
theorem RawD.lt {h : Heap} {d : Addr} {es ep} (x : RawD h d es ep) : d < h.objs.size := let ⟨_, ho, _⟩ := x; Heap.lt_size ho
theorem raw_iter {d : Addr} {es : Array DictEntry} {ep : Nat} {Q : Value → Shared → Prop} (lo : (d == sysModules) = false) (hm : RawD s.heap d es ep)
    (h : Q (.ref s.heap.objs.size) { s with heap := s.heap.push { cls := .type "dict_keyiterator", data := .fields #[.ref d, .int 0 0, .int es.size 0, .int ep 0] } }) :
    wpAny (model prog w) A (pyIter (.ref d)) Q E s := by
  have hT := hm.typeIs
  obtain ⟨o, ho, hc, hd⟩ := hm
  refine wpAny_pyIter_slot hT PySem.F.slot_dict_iter (wpAny_call_entry PySem.F.slot_dict_iter hT PySem.F.entry_dict_iter ?_ (PySem.F.args_dict_iter_1 _))
  unfold Builtin.«dict.__iter__»
  refine wpAny_bind ?_
  unfold Builtin.Dict.dictSlotNone
  refine wpAny_bind (wpAny_notOrdered_dict hT ?_)
  show wpAny _ _ (pure (Value.ref d)) _ _ s
  refine wpAny_pure ?_
  show wpAny _ _ (Builtin.Dict.showsAll d >>= _) _ _ s
  unfold Builtin.Dict.showsAll
  rw [if_neg (by rw [lo]; exact Bool.false_ne_true)]
  refine wpAny_bind (wpAny_pure (wpAny_bind (wpAny_dictEntries ho hd (wpAny_bind (wpAny_dictEpoch ho hd ?_)))))
  refine wpAny_bind (wpAny_newObj_type (wpAny_pure ⟨_, rfl, "dict_keyiterator", _, ⟨_, Heap.get?_push_size _ rfl, rfl⟩, PySem.F.slot_dict_keyiterator_next.lookup, ?_⟩))
  simpa [rawInt] using h
theorem raw_item {it d : Addr} {i ep : Nat} {es : Array DictEntry} {e : DictEntry} {Q : Option Value → Shared → Prop} (hit : s.heap.IsKeyIter it d i es.size ep) (hm : RawD s.heap d es ep) (hx : es[i]? = some e)
    (h : ∀ h', h'.IsKeyIter it d (i + 1) es.size ep → Heap.SameBut it s.heap h' → Q (some e.key) { s with heap := h' }) : wpAny (model prog w) A (pyNext (.ref it)) Q E s := by
  have hT := hit.typeIs
  obtain ⟨o, ho, hc, hd⟩ := id hit
  obtain ⟨od, hod, hcd, hdd⟩ := hm
  unfold pyNext
  refine wpAny_bind (wpAny_attempt (wpAny_callSpecial?_slot (name := Str.ofString "__next__") hT PySem.F.slot_dict_keyiterator_next
    (wpAny_call_entry PySem.F.slot_dict_keyiterator_next hT PySem.F.entry_dict_keyiterator_next ?_ (PySem.F.args_dict_keyiterator_next_1 _))))
  refine wpAny_bind (wpAny_pure (wpAny_bind (wpAny_bind ?_)))
  first | refine wpAny_bind (wpAny_typeNameOfWhole_keyiter hT (wpAny_pure ?_)) | refine wpAny_bind (wpAny_typeNameOf_keyiter hT (wpAny_pure ?_))
  refine wpAny_bind (wpAny_fieldsOf ho hd ?_)
  show wpAny _ _ (if (Value.ref d == Value.none) = true then _ else _) _ _ s
  rw [if_neg (show ¬ ((Value.ref d == Value.none) = true) from Bool.false_ne_true)]
  refine wpAny_bind (wpAny_pure (wpAny_bind (wpAny_dictEntries hod hdd ?_)))
  rw [if_neg (by simp)]
  refine wpAny_bind (wpAny_pure (wpAny_bind (wpAny_dictEpoch hod hdd ?_)))
  rw [if_neg (by simp)]
  refine wpAny_pure ?_
  simp only [show ¬ ((i : Int) < 0) from by omega, if_false, Int.toNat_natCast, hx]
  refine wpAny_bind ?_
  first | refine wpAny_bind (wpAny_typeNameOfWhole_keyiter hT (wpAny_pure ?_)) | refine wpAny_bind (wpAny_typeNameOf_keyiter hT (wpAny_pure ?_))
  refine wpAny_bind (wpAny_isOneOf_keyiter hT ?_)
  show wpAny _ _ (setField (.ref it) 1 (rawInt ((i : Int) + 1)) >>= _) _ _ s
  refine wpAny_bind (wpAny_setField ho hd (by simp) ?_)
  have hit' : (s.heap.update it (Obj.mapFields (·.setIfInBounds 1 (rawInt ((i : Int) + 1))))).IsKeyIter it d (i + 1) es.size ep :=
    ⟨_, Heap.get?_update_self _ ho (Obj.isFreed_of_fields (Obj.data_mapFields hd _)), (Obj.cls_mapFields ..).trans hc, by rw [Obj.data_mapFields hd]; simp [rawInt]⟩
  refine wpAny_bind (wpAny_holding ?_)
  refine wpAny_bind (wpAny_isOneOf_keyiter (s := { s with heap := s.heap.update it (Obj.mapFields (·.setIfInBounds 1 (rawInt ((i : Int) + 1)))) }) hit'.typeIs ?_)
  show wpAny _ _ (pure e.key) _ _ _
  exact wpAny_pure (wpAny_pure ⟨_, rfl, wpAny_pure (h _ hit' (Heap.SameBut.update ..))⟩)
theorem raw_end {it d : Addr} {i ep : Nat} {es : Array DictEntry} {Q : Option Value → Shared → Prop} (hh : A.handled = none) (hit : s.heap.IsKeyIter it d i es.size ep) (hm : RawD s.heap d es ep) (hx : es[i]? = none)
    (h : ∀ h', Heap.ExtBut it s.heap h' → Q none { s with heap := h' }) : wpAny (model prog w) A (pyNext (.ref it)) Q E s := by
  have hT := hit.typeIs
  obtain ⟨o, ho, hc, hd⟩ := id hit
  obtain ⟨od, hod, hcd, hdd⟩ := hm
  unfold pyNext
  refine wpAny_bind (wpAny_attempt (wpAny_callSpecial?_slot (name := Str.ofString "__next__") hT PySem.F.slot_dict_keyiterator_next
    (wpAny_call_entry PySem.F.slot_dict_keyiterator_next hT PySem.F.entry_dict_keyiterator_next ?_ (PySem.F.args_dict_keyiterator_next_1 _))))
  refine wpAny_bind (wpAny_pure (wpAny_bind (wpAny_bind ?_)))
  first | refine wpAny_bind (wpAny_typeNameOfWhole_keyiter hT (wpAny_pure ?_)) | refine wpAny_bind (wpAny_typeNameOf_keyiter hT (wpAny_pure ?_))
  refine wpAny_bind (wpAny_fieldsOf ho hd ?_)
  show wpAny _ _ (if (Value.ref d == Value.none) = true then _ else _) _ _ s
  rw [if_neg (show ¬ ((Value.ref d == Value.none) = true) from Bool.false_ne_true)]
  refine wpAny_bind (wpAny_pure (wpAny_bind (wpAny_dictEntries hod hdd ?_)))
  rw [if_neg (by simp)]
  refine wpAny_bind (wpAny_pure (wpAny_bind (wpAny_dictEpoch hod hdd ?_)))
  rw [if_neg (by simp)]
  refine wpAny_pure ?_
  simp only [show ¬ ((i : Int) < 0) from by omega, if_false, Int.toNat_natCast, hx]
  refine wpAny_bind ?_
  first | refine wpAny_bind (wpAny_typeNameOfWhole_keyiter hT (wpAny_pure ?_)) | refine wpAny_bind (wpAny_typeNameOf_keyiter hT (wpAny_pure ?_))
  show wpAny _ _ (setField (.ref it) 0 .none >>= _) _ _ s
  refine wpAny_bind (wpAny_setField ho hd (by simp) ?_)
  show wpAny _ _ (newExc (.type "StopIteration") [] >>= _) _ _ _
  refine wpAny_bind ?_
  simp only [newExc, newTuple]
  refine wpAny_bind (wpAny_newObj_type ?_ (by size_fits))
  refine wpAny_bind (m := firstArgMember _ _) (wpAny_of_eq (a := Value.none) (by first | rfl | (simp only [firstArgMember]; rfl)) ?_)
  refine wpAny_newObj_type ?_ (by size_fits)
  simp only [raiseNew]
  refine wpAny_bind (wpAny_handled ?_)
  rw [show A.in1.handled = none from hh]
  refine wpAny_bind (wpAny_pure (wpAny_throw ?_))
  refine wpAny_bind (wpAny_isInstance (T := "StopIteration") (b := true) ⟨_, Heap.get?_push_size _ rfl, rfl⟩ isSubtype_stop ?_)
  exact wpAny_pure (h _ (((Heap.SameBut.update ..).extBut.push _).push _))
theorem raw_walks (hh : A.handled = none) (I d : Addr) (hne : d ≠ I) (es : Array DictEntry) (ep : Nat) :
    Walks prog w A I [I, d] [I] es.size (fun i v => ∃ e, es[i]? = some e ∧ v = e.key) (fun i h => h.IsKeyIter I d i es.size ep ∧ RawD h d es ep) where
  sub := fun b hb => by simp at hb; simp [hb]
  frame := fun _ _ _ st hk => ⟨st.1.at fun o e => hk I (by simp) o e, st.2.at fun o e => hk d (by simp) o e⟩
  item := fun i s Q E hi st hQ => by
    obtain ⟨e, hx⟩ : ∃ e, es[i]? = some e := ⟨es[i], by simp [hi]⟩
    refine raw_item st.1 st.2 hx fun h' hit' hs' => ?_
    exact hQ e.key h' s.toks ⟨e, hx, rfl⟩ ⟨hit', st.2.at fun o q => hs'.extBut d o hne q⟩ fun b o hb q => hs'.extBut b o (fun h => hb (by simp [h])) q
  done := fun s Q E st hQ => raw_end hh st.1 st.2 (by simp) fun h' he' => hQ h' s.toks fun b o hb e => he' b o (fun h => hb (by simp [h])) e
  self := fun _ _ _ _ st hQ => wpAny_pyIter_keyiter st.1 hQ
theorem raw_src {d : Addr} {es : Array DictEntry} {ep : Nat} (lo : (d == sysModules) = false) : KdlSrc prog w "dict" d d es.size (fun i v => ∃ e, es[i]? = some e ∧ v = e.key) (fun h => RawD h d es ep) where
  type := fun _ hm => hm.typeIs
  there := fun _ hm => ⟨hm.lt, hm.lt⟩
  keep := fun _ _ hm hk => hm.at fun o e => hk d (.inl rfl) o e
  notList := by decide
  notTuple := by decide
  hint := fun _ _ _ _ hm hq => kdl_hint_dict hm.typeIs hq
  iter := fun _ _ hh hm => ⟨_, _, (fun _ _ hq => raw_iter lo hm hq), raw_walks hh _ d (Nat.ne_of_lt hm.lt) es ep, ⟨⟨_, Heap.get?_push_size _ rfl, rfl, rfl⟩, hm.at fun o e => Heap.get?_push_of_some _ e⟩⟩
end
section
variable {prog : Program} {w : World} {A : Around} {E : Value → Shared → Prop} {s : Shared} {h₀ h : Heap} {L d : Addr} {m : Str → Option Value} {K : Type} [DecidableEq K] {knd : KeyKind prog w K} {news : Ld} {xs : List (List K × Addr × Value)}
noncomputable def keysOf (xs : List (List K × Addr × Value)) : List Value := xs.map fun x => .ref x.2.1
theorem TD.raw (N : News h₀ L h news) (T : TD knd news d xs) : ∃ es ep, RawD h d es ep ∧ es.toList.map (·.key) = keysOf xs := by
  obtain ⟨lo, o, hm, ⟨hx, es, ep, hd, he, hn⟩, _⟩ := T
  refine ⟨es, ep, ⟨o, N.get hm, hx, hd⟩, ?_⟩
  rw [he, keysOf, List.map_map]
  rfl
theorem td_list {Q : Value → Shared → Prop} (hh : A.handled = none) (F : Fr h₀ L s.heap m) (N : News h₀ L s.heap news) (T : TD knd news d xs) (hn : xs.length ≤ sizeLine)
    (h : ∀ (D : Addr) c h' tk, Fr h₀ L h' m → News h₀ L h' ((D, listOf (keysOf xs).toArray c) :: news) → (∀ q ∈ news, q.1 < D) → Q (.ref D) { s with heap := h', toks := tk }) :
    wpAny (model prog w) A (call (.type "list") [.ref d]) Q E s := by
  obtain ⟨es, ep, hr, hk⟩ := T.raw N
  have hl : es.size = xs.length := by have := congrArg List.length hk; simpa [keysOf] using this
  refine kdl_N (raw_src (ep := ep) T.lo) hh F N hr (by rw [hl]; exact hn) fun D c h' tk vs F' N' l hv hp => ?_
  have e : vs = keysOf xs := by
    rw [← hk]
    refine List.ext_getElem? fun j => ?_
    cases hj : vs[j]? with
    | none =>
      have : vs.length ≤ j := by simpa using hj
      rw [List.getElem?_eq_none (by simp; omega)]
    | some v =>
      obtain ⟨e, he, rfl⟩ := hp j v hj
      simp [he]
  subst e
  exact h D c h' tk F' N' l
end
end
section
open PySem PySem.W PyProof.Rows PySem.Calls
open PyProof.Rows.LCg
section
variable {prog : Program} {w : World} {A : Around} {E : Value → Shared → Prop} {s : Shared} {env : Env} {h₀ : Heap} {L : Addr} {m : Str → Option Value}
theorem own_tup_iter {elts : List Expr} {x1} {pos : Pos} {I l T : Addr} {i : Nat} {Q : Unit → Shared → Prop} (hit : s.heap.IsTupleIter I l i) (hQ : Q () s) :
    wpAny (model prog w) A (letOwnedTupleGo (.Tuple elts x1 pos) (.ref I) (.ref T)) Q E s := by
  obtain ⟨o, ho, hc, hd⟩ := hit
  unfold letOwnedTupleGo
  refine wpAny_bind (wpAny_load ho ?_)
  rw [hc, hd]
  show wpAny _ A (if (["enumerate", "zip", "dict_itemiterator", "dict_reverseitemiterator", "odict_iterator", "itertools.zip_longest", "itertools.pairwise"].contains "tuple_iterator" &&
      (#[.ref l, .int i 0] : Array Value)[0]? == some (rawInt T)) = true then _ else _) Q E s
  have hno : (["enumerate", "zip", "dict_itemiterator", "dict_reverseitemiterator", "odict_iterator", "itertools.zip_longest", "itertools.pairwise"].contains "tuple_iterator") = false := by decide
  rw [if_neg (by rw [hno, Bool.false_and]; exact Bool.false_ne_true)]
  exact wpAny_pure hQ
end
end
section
open PySem PySem.W PyProof.Rows
section
variable {prog : Program} {w : World} {A : Around} {E : Value → Shared → Prop} {s : Shared} {h₀ : Heap} {L t : Addr} {m : Str → Option Value} {news : Ld} {vs : List Value} {x : Value} {i n : Nat} {k : Int} {u : Tok} {value slice : Expr} {Q : Value → Shared → Prop}
theorem item_last (N : News h₀ L s.heap news) (hm : (t, listOf vs.toArray n) ∈ news) (hk : k = -1) (hz : vs.length < 100000) (hx : vs[vs.length - 1]? = some x) (h : Q x s)
    (hs : subscripted slice false (.ref t) (.int k u) = operate [.ref t, .int k u] (getItem (.ref t) (.int k u)) := by with_unfolding_all rfl) :
    wpAny (model prog w) A (subscriptTail value slice (.ref t) (.int k u)) Q E s := by
  subst hk
  have hl : s.heap.IsList t vs.toArray := PySem.IsL.isList (n := n) (N _ hm).1
  have hi : 0 < vs.length := by
    rcases Nat.lt_or_ge (vs.length - 1) vs.length with h | h
    · omega
    · rw [List.getElem?_eq_none h] at hx; cases hx
  refine tail_any hl.typeIs slot_list_getitem.lookup (wpAny_getItem_list_neg hl (by omega) (by simp; omega) (by omega) ?_ h) hs
  have e : ((-1 : Int) + (vs.toArray.size : Int)).toNat = vs.length - 1 := by simp; omega
  rw [e]
  simpa using hx
theorem set_lst {v : Value} {g : Obj → Ld} {Q : Unit → Shared → Prop} (F : Fr h₀ L s.heap m) (N : News h₀ L s.heap news) (U : UpdF t (listOf vs.toArray n) news g) (hk : k = (i : Int)) (hz : i < 100000) (hi : i < vs.length)
    (h : ∀ h', Fr h₀ L h' m → News h₀ L h' (g (listOf (vs.set i v).toArray n)) → Q () { s with heap := h' }) : wpAny (model prog w) A (setItem (.ref t) (.int k u) v) Q E s := by
  subst hk
  obtain ⟨pre, post, rfl, hg, a, b'⟩ := U.split
  have z := N (t, listOf vs.toArray n) (List.mem_append.mpr (.inr (.head _)))
  refine ki_setAt z.1 (by omega) (by omega) (by simpa using hi) (h _ (F.change (Heap.SameBut.update ..) z.2.1 z.2.2) (hg _ ▸ ki_turn _ N a b' ?_ ?_))
  · show vs.toArray.setIfInBounds (i : Int).toNat v = (vs.set i v).toArray
    apply Array.toList_inj.mp
    simp
  · simp
theorem eq_tup_nil {a b : Addr} (N : News h₀ L s.heap news) (ha : (a, tupO vs) ∈ news) (hb : (b, tupO []) ∈ news) (hu : A.units < cLine) (h : Q (.bool vs.isEmpty) s) : wpAny (model prog w) A (compareOp .Eq (.ref a) (.ref b)) Q E s := by
  refine PySem.SeqAt.eq_tupleAt (items := vs.toArray) (items2 := #[]) (e := fun _ => true) ⟨_, N.get ha, rfl, _, rfl⟩ ⟨_, N.get hb, rfl, _, rfl⟩ hu (fun j h1 h2 => absurd h2 (by simp)) ?_
  have e : ((List.range (min vs.toArray.size (#[] : Array Value).size)).all (fun _ => true) && vs.toArray.size == (#[] : Array Value).size) = vs.isEmpty := by
    cases vs <;> simp
  rw [e]
  exact h
theorem min_lst {l : Addr} {ns : List Int} (hh : A.handled = none) (F : Fr h₀ L s.heap m) (N : News h₀ L s.heap news) (hm : (l, listOf vs.toArray n) ∈ news) (hi : IntsAre vs ns) (hne : 0 < ns.length)
    (h : ∀ h' M t tk, Fr h₀ L h' m → News h₀ L h' news → M ∈ ns → (∀ a ∈ ns, M ≤ a) → Q (.int M t) { s with heap := h', toks := tk }) : wpAny (model prog w) A (call (.builtin "min") [.ref l]) Q E s :=
  min_list_N hh F N (PySem.IsL.isList (n := n) (N _ hm).1) hi hne h
theorem range_len (n : Nat) : Builtin.Range.rangeSize 0 (n : Int) 1 = (n : Int) := by rw [rangeSize_one]; split <;> omega
theorem range_small (n : Nat) (h : n < 100000) : Builtin.Range.small 0 (n : Int) 1 = true := small_one (by omega) (by omega) (by omega) (by omega)
end
end
section
open PySem PySem.W PyProof.Rows
section
variable {prog : Program} {w : World} {A : Around} {E : Value → Shared → Prop} {s : Shared} {h₀ : Heap} {L a b : Addr} {m : Str → Option Value} {news : Ld} {vs : List Value} {n k : Nat} {value slice : Expr}
theorem ne_lst_nil {Q : Value → Shared → Prop} (N : News h₀ L s.heap news) (ha : (a, listOf vs.toArray n) ∈ news) (hb : (b, listOf [].toArray k) ∈ news) (hu : A.units < cLine) (h : Q (.bool (!vs.isEmpty)) s) : wpAny (model prog w) A (compareOp .NotEq (.ref a) (.ref b)) Q E s := by
  refine cmp_ofNotEq ?_
  have hl : s.heap.IsList a vs.toArray := ⟨_, N.get ha, rfl, _, rfl⟩
  have hl2 : s.heap.IsList b [].toArray := ⟨_, N.get hb, rfl, _, rfl⟩
  cases vs with
  | nil => exact PySem.SeqAt.RcNeAt.lists (e := fun _ => true) hl hl2 rfl hu (fun j h1 h2 => absurd h1 (by simp)) _ _ _ _ (by simpa using h)
  | cons x r => exact PySem.SeqAt.RcNeAt.lists_lengths hl hl2 (by simp) hu _ _ _ _ (by simpa using h)
theorem updF_upd {d : Addr} {o o' : Obj} : ∀ {l : Ld} {g : Obj → Ld}, UpdF d o l g → Upd d o o' l (g o')
  | _, _, .head h => .head h
  | _, _, .tail h r => .tail h (updF_upd r)
theorem pop_led {v : Value} {g : Obj → Ld} {Q : Value → Shared → Prop} (F : Fr h₀ L s.heap m) (N : News h₀ L s.heap news) (U : UpdF a (listOf (vs ++ [v]).toArray n) news g) (hz : vs.length < 100000)
    (h : ∀ h', Fr h₀ L h' m → News h₀ L h' (g (listOf vs.toArray (n + 1))) → Q v { s with heap := h' }) : wpAny (model prog w) A (call (.builtin "list.pop") [.ref a]) Q E s :=
  kl_pop F N (p := vs) (y := v) (by simpa using kpa_last v vs) (updF_upd U) (by rw [sizeLine_eq]; simp; omega) h
theorem rev_led {Q : Value → Shared → Prop} {vk : Value} {ops : List Value} (F : Fr h₀ L s.heap m) (N : News h₀ L s.heap news) (hl : (a, listOf vs.toArray n) ∈ news) (pk : IsPart vk (some (-1))) (hz : vs.length < 100000)
    (h : ∀ D h', Fr h₀ L h' m → News h₀ L h' ((D, listOf vs.reverse.toArray 0) :: news) → (∀ p ∈ news, p.1 < D) → Q (.ref D) { s with heap := h' })
    (hs : subscripted slice false (.ref a) (.ref s.heap.objs.size) = operate ops (getItem (.ref a) (.ref s.heap.objs.size))) (ht : ∀ r, letTemporaryGo value (.ref a) r = pure ()) :
    wpAny (model prog w) A (subscriptTail value slice (.ref a) (.ref s.heap.objs.size)) Q E { s with heap := s.heap.push { cls := .type "slice", data := .fields #[.none, .none, vk] } } :=
  krv_lit F N ⟨_, N.get hl, rfl, _, rfl⟩ pk (by simp) h hs ht (by rw [sizeLine_eq]; simp; omega)
theorem flat_none : ∀ k : Nat, List.foldl (fun (x1 x2 : Array Value) => x1 ++ x2) #[] (List.replicate k #[Value.none]) = (List.replicate k Value.none).toArray := by
  intro k
  have key : ∀ (k : Nat) (acc : Array Value), List.foldl (fun (x1 x2 : Array Value) => x1 ++ x2) acc (List.replicate k #[Value.none]) = acc ++ (List.replicate k Value.none).toArray := by
    intro k
    induction k with
    | zero => intro acc; simp
    | succ k ih =>
      intro acc
      rw [List.replicate_succ, List.foldl_cons, ih, List.replicate_succ]
      apply Array.toList_inj.mp
      simp
  rw [key k #[]]
  simp
theorem mul_none {i : Int} {u : Tok} {Q : Value → Shared → Prop} (F : Fr h₀ L s.heap m) (N : News h₀ L s.heap news) (hl : (a, listOf [.none].toArray n) ∈ news) (hi : i = (k : Int)) (hz : k < 100000)
    (h : ∀ D h', Fr h₀ L h' m → News h₀ L h' ((D, listOf (List.replicate k .none).toArray 0) :: news) → (∀ p ∈ news, p.1 < D) → Q (.ref D) { s with heap := h' }) :
    wpAny (model prog w) A (binaryOp .Mult (.ref a) (.int i u)) Q E s := by
  subst hi
  refine mul_list F N (N.get hl) (by omega) (by omega) (by simp; omega) fun h' F' N' => ?_
  have e : (if (#[Value.none] : Array Value).isEmpty = true then 0 else (k : Int).toNat) = k := by simp
  rw [show ([Value.none].toArray) = #[Value.none] from rfl, e, flat_none] at N'
  exact h _ _ F' N' fun p hp => Heap.lt_size (N p hp).1
end
end
section
open PySem PySem.W PyProof.Rows
noncomputable abbrev Pg : Program := PySem.Challenge.rw_on0183_01.row.prog
noncomputable abbrev KF (w : World) : Frag := hd.heap_39 w.params
noncomputable abbrev NoE : Value → Shared → Prop := fun _ _ => False
set_option genInjectivity true
mutual
inductive V where
  | d (x : PyData)
  | rng (n : Nat)
  | slot (k : Nat)
  | cel (k : Nat)
  | obj (c : Addr) (k : Nat)
  | ins (c : Addr) (fs : Fs)
  | dI (l : List (List Int × PyData))
  | dS (l : List (List Str × PyData))
  | raw (a : Addr)
inductive Fs where
  | nil
  | cons (x : Str) (v : V) (r : Fs)
end
set_option genInjectivity false
set_option genInjectivity true
inductive MO where
  | dead
  | lst (l : List PyData)
  | refs (l : List Nat)
  | flds (fs : Fs)
  | dI (l : List (List Int × PyData))
  | cell
set_option genInjectivity false
structure Sl where
  a : Addr
  o : Obj
  aux : Ld
noncomputable abbrev Sl.led (x : Sl) : Ld := (x.a, x.o) :: x.aux
noncomputable abbrev adr (sl : List Sl) : List Addr := sl.map (·.a)
noncomputable def slLd (sl : List Sl) : Ld := sl.flatMap Sl.led
mutual
noncomputable def PIn (ro : Ld) : Value → PyData → Prop
  | v, .none => v = .none
  | v, .bool b => v = .bool b
  | v, .int i => ∃ t, v = .int i t
  | v, .str x => ∃ t, v = .str x t
  | v, .tuple ds => ∃ a vs, v = .ref a ∧ (a, tupO vs) ∈ ro ∧ PIns ro vs ds
  | v, .list ds => ∃ a vs n, v = .ref a ∧ (a, listOf vs.toArray n) ∈ ro ∧ PIns ro vs ds
  | _, .dict _ => False
noncomputable def PIns (ro : Ld) : List Value → List PyData → Prop
  | vs, [] => vs = []
  | vs, d :: ds => ∃ v r, vs = v :: r ∧ PIn ro v d ∧ PIns ro r ds
end
noncomputable abbrev encS (k : List Str) : PyData := .tuple (k.map .str)
noncomputable abbrev encI (k : List Int) : PyData := .tuple (k.map .int)
noncomputable def DPairs (ro : Ld) {K : Type} (enc : List K → PyData) : List (List K × Addr × Value) → List (List K × PyData) → Prop
  | xs, [] => xs = []
  | xs, (k, d) :: l => ∃ a v r, xs = (k, a, v) :: r ∧ PIn ro (.ref a) (enc k) ∧ PIn ro v d ∧ DPairs ro enc r l
mutual
noncomputable def VIn (w : World) (ro : Ld) (ad : List Addr) : Value → V → Prop
  | v, .d x => PIn ro v x
  | v, .rng n => ∃ a t u x, v = .ref a ∧ (a, ({ cls := .type "range", dict := none, data := .fields #[.int 0 t, .int n u, .int 1 x], slots := #[] } : Obj)) ∈ ro
  | v, .slot k => ∃ a, v = .ref a ∧ ad[k]? = some a
  | v, .cel k => ∃ a, v = .ref a ∧ ad[k]? = some a
  | v, .obj c k => ∃ x dx, v = .ref x ∧ (x, instObj c dx) ∈ ro ∧ ad[k]? = some dx
  | v, .ins c fs => ∃ x dx es n, v = .ref x ∧ (x, instObj c dx) ∈ ro ∧ (dx, dictOf es n) ∈ ro ∧ FIns' w ro ad es fs
  | v, .dI l => ∃ a xs, v = .ref a ∧ TD (intKind Pg w) ro a xs ∧ DPairs ro encI xs l
  | v, .dS l => ∃ a xs, v = .ref a ∧ TD (strKind Pg w) ro a xs ∧ DPairs ro encS xs l
  | v, .raw a => v = .ref a
noncomputable def FIns' (w : World) (ro : Ld) (ad : List Addr) : List DictEntry → Fs → Prop
  | es, .nil => es = []
  | es, .cons x u r => ∃ t v es', es = ⟨PyData.keyHash w.params x, .str x t, v⟩ :: es' ∧ VIn w ro ad v u ∧ FIns' w ro ad es' r
end
noncomputable def VIns (w : World) (ro : Ld) (ad : List Addr) : List Value → List V → Prop
  | vs, [] => vs = []
  | vs, d :: ds => ∃ v r, vs = v :: r ∧ VIn w ro ad v d ∧ VIns w ro ad r ds
mutual
theorem PIn.mono {ro ro' : Ld} (hs : ∀ p ∈ ro, p ∈ ro') : ∀ (x : PyData) {v : Value}, PIn ro v x → PIn ro' v x
  | .none, _, h => h
  | .bool _, _, h => h
  | .int _, _, h => h
  | .str _, _, h => h
  | .tuple ds, _, h => let ⟨a, vs, e, m, r⟩ := h; ⟨a, vs, e, hs _ m, PIns.mono hs ds r⟩
  | .list ds, _, h => let ⟨a, vs, n, e, m, r⟩ := h; ⟨a, vs, n, e, hs _ m, PIns.mono hs ds r⟩
  | .dict _, _, h => h.elim
theorem PIns.mono {ro ro' : Ld} (hs : ∀ p ∈ ro, p ∈ ro') : ∀ (xs : List PyData) {vs : List Value}, PIns ro vs xs → PIns ro' vs xs
  | [], _, h => h
  | d :: ds, _, h => let ⟨v, r, e, a, b⟩ := h; ⟨v, r, e, PIn.mono hs d a, PIns.mono hs ds b⟩
end
theorem DPairs.mono {ro ro' : Ld} (hs : ∀ p ∈ ro, p ∈ ro') {K : Type} {enc : List K → PyData} : ∀ (l : List (List K × PyData)) {xs}, DPairs ro enc xs l → DPairs ro' enc xs l
  | [], _, h => h
  | (k, d) :: l, _, h => let ⟨a, v, r, e, z, x, y⟩ := h; ⟨a, v, r, e, PIn.mono hs (enc k) z, PIn.mono hs d x, DPairs.mono hs l y⟩
noncomputable def AdLe (ad ad' : List Addr) : Prop := ∀ (k : Nat) (a : Addr), ad[k]? = some a → ad'[k]? = some a
mutual
theorem VIn.mono {w : World} {ro ro' : Ld} {ad ad' : List Addr} (hs : ∀ p ∈ ro, p ∈ ro') (ha : AdLe ad ad') : ∀ (x : V) {v : Value}, VIn w ro ad v x → VIn w ro' ad' v x
  | .d x, _, h => PIn.mono hs x h
  | .rng _, _, h => let ⟨a, t, u, x, e, m⟩ := h; ⟨a, t, u, x, e, hs _ m⟩
  | .slot _, _, h => let ⟨a, e, m⟩ := h; ⟨a, e, ha _ _ m⟩
  | .cel _, _, h => let ⟨a, e, m⟩ := h; ⟨a, e, ha _ _ m⟩
  | .obj _ _, _, h => let ⟨x, dx, e, m, k⟩ := h; ⟨x, dx, e, hs _ m, ha _ _ k⟩
  | .ins _ fs, _, h => let ⟨x, dx, es, n, e, m, k, r⟩ := h; ⟨x, dx, es, n, e, hs _ m, hs _ k, FIns'.mono hs ha fs r⟩
  | .dI _, _, h => let ⟨a, xs, e, t, r⟩ := h; ⟨a, xs, e, t.mono hs, DPairs.mono hs _ r⟩
  | .dS _, _, h => let ⟨a, xs, e, t, r⟩ := h; ⟨a, xs, e, t.mono hs, DPairs.mono hs _ r⟩
  | .raw _, _, h => h
theorem FIns'.mono {w : World} {ro ro' : Ld} {ad ad' : List Addr} (hs : ∀ p ∈ ro, p ∈ ro') (ha : AdLe ad ad') : ∀ (fs : Fs) {es}, FIns' w ro ad es fs → FIns' w ro' ad' es fs
  | .nil, _, h => h
  | .cons _ u r, _, h => let ⟨t, v, es', e, a, b⟩ := h; ⟨t, v, es', e, VIn.mono hs ha u a, FIns'.mono hs ha r b⟩
end
theorem VIns.mono {w : World} {ro ro' : Ld} {ad ad' : List Addr} (hs : ∀ p ∈ ro, p ∈ ro') (ha : AdLe ad ad') : ∀ (xs : List V) {vs : List Value}, VIns w ro ad vs xs → VIns w ro' ad' vs xs
  | [], _, h => h
  | d :: ds, _, h => let ⟨v, r, e, a, b⟩ := h; ⟨v, r, e, VIn.mono hs ha d a, VIns.mono hs ha ds b⟩
structure Cx (sc : Scope) (D U : Nat) where
  w : World
  A : Around
  env : Env
  fenv : Env
  outer : List Env
  A₀ : Around
  base : Heap
  h₀ : Heap
  L : Addr
  mean : ExcName → Option Value
  mg : Str → Option Value
  mb : Str → Option Value
  fx : Ld
  mx : Ld
  cm : Option (Str → Option Value)
  gens : Array GenState
  drawn : Drawn
  os : OsState
  hh : A.handled = none
  hA : A.frames = some (fenv :: outer)
  hf : fenv.frame = some L
  hfk : fenv.scope.kind = .function
  hsc : env.scope = sc
  hk : sc.kind = .function
  B : Below A₀ base outer h₀
  X : (KF w).In h₀
  T : Top hd.view_39 (looseW hd.view_39 []) mean mg mb h₀
  room : A.depth + D < recursionLimit
  units : A.units + U < cLine
  glob : env.globals = mainGlobals
  hmx : ∀ p ∈ mx, p ∈ fx
  bui : env.builtins = builtinsNs
  loc : match cm with
    | none => env.locals = L
    | some cm => ∃ o, (env.locals, o) ∈ fx ∧ LCg.NsObj o cm
section
variable {sc : Scope} {D U : Nat}
noncomputable def V.isCel : V → Bool
  | .cel _ => true
  | _ => false
noncomputable def Nm (C : Cx sc D U) (m : Str → Option Value) (ro : Ld) (x : Str) (v : Value) : Prop :=
  (sc.names.lookup x = some .local ∧ (C.cm.getD m) x = some v) ∨ (sc.names.lookup x = some .cell ∧ ∃ c o, C.env.cells.lookup x = some c ∧ (c, o) ∈ ro ∧ o.data = .cell (some v))
noncomputable def NmD (C : Cx sc D U) (m : Str → Option Value) (ro : Ld) (x : Str) (v : Value) (d : V) : Prop :=
  match d.isCel with
  | false => Nm C m ro x v
  | true => sc.names.lookup x = some .cell ∧ ∃ c, C.env.cells.lookup x = some c ∧ v = .ref c
noncomputable abbrev Fm := List (Str × V)
noncomputable def Refs (ad : List Addr) : List Value → List Nat → Prop
  | vs, [] => vs = []
  | vs, k :: ks => ∃ a r, vs = .ref a :: r ∧ ad[k]? = some a ∧ Refs ad r ks
noncomputable def MoIn (w : World) (ro : Ld) (ad : List Addr) (x : Sl) : MO → Prop
  | .dead => True
  | .lst l => ∃ vs n, x.o = listOf vs.toArray n ∧ x.aux = [] ∧ PIns ro vs l
  | .refs l => ∃ vs n, x.o = listOf vs.toArray n ∧ x.aux = [] ∧ Refs ad vs l
  | .flds fs => ∃ es n, x.o = dictOf es n ∧ x.aux = [] ∧ FIns' w ro ad es fs
  | .dI l => ∃ xs, (x.a == sysModules) = false ∧ x.aux = [] ∧ DObj (intKind Pg w) x.o xs ∧ KeysIn (intKind Pg w) ro xs ∧ DPairs ro encI xs l
  | .cell => x.o.data = .cell none ∧ x.aux = []
noncomputable def Owns (w : World) (ro : Ld) (ad : List Addr) : List Sl → List MO → Prop
  | sl, [] => sl = []
  | sl, mo :: r => ∃ x sl', sl = x :: sl' ∧ MoIn w ro ad x mo ∧ Owns w ro ad sl' r
noncomputable def MO.alive : MO → Bool
  | .dead => false
  | _ => true
structure St (C : Cx sc D U) (m : Str → Option Value) (ro : Ld) (sl : List Sl) (fr : Fm) (own : List MO) (s : Shared) : Prop where
  F : Fr C.h₀ C.L s.heap m
  N : News C.h₀ C.L s.heap (slLd sl ++ (ro ++ C.fx))
  nd : ((slLd sl).map (·.1)).Nodup
  ap : ∀ (i : Nat) x mo, sl[i]? = some x → own[i]? = some mo → mo.alive = true → ∀ p ∈ x.led, ∀ q ∈ ro, q.1 ≠ p.1
  apx : ∀ p ∈ slLd sl, ∀ q ∈ C.fx, q.1 ≠ p.1
  mxa : ∀ q ∈ ro, ∀ p ∈ C.mx, q.1 ≠ p.1
  ow : Owns C.w ro (adr sl) sl own
  nm : ∀ x d, fr.lookup x = some d → ∃ v, NmD C m ro x v d ∧ VIn C.w ro (adr sl) v d
  gens : s.gens = C.gens
  drawn : s.drawn = C.drawn
  os : s.os = C.os
structure Ext (ro : Ld) (sl : List Sl) (ro' : Ld) (sl' : List Sl) : Prop where
  ro : ∀ p ∈ ro, p ∈ ro'
  ad : AdLe (adr sl) (adr sl')
noncomputable def WE (C : Cx sc D U) (e : Expr) (fr : Fm) (own : List MO) (P : V → List MO → Prop) : Prop :=
  ∀ m ro sl s (Q : Value → Shared → Prop), St C m ro sl fr own s →
    (∀ v d own' ro' sl' s', St C m ro' sl' fr own' s' → Ext ro sl ro' sl' → VIn C.w ro' (adr sl') v d → P d own' → Q v s') → wpAny (model Pg C.w) C.A (eval e C.env) Q NoE s
noncomputable def WEs (C : Cx sc D U) (es : List Expr) (fr : Fm) (own : List MO) (P : List V → List MO → Prop) : Prop :=
  ∀ pos m ro sl s (Q : List Value → Shared → Prop), St C m ro sl fr own s →
    (∀ vs ds own' ro' sl' s', St C m ro' sl' fr own' s' → Ext ro sl ro' sl' → VIns C.w ro' (adr sl') vs ds → P ds own' → Q vs s') → wpAny (model Pg C.w) C.A (spliced (backTo pos (starEach es C.env))) Q NoE s
noncomputable def WB (C : Cx sc D U) (e : Expr) (fr : Fm) (own : List MO) (P : Bool → List MO → Prop) : Prop :=
  ∀ m ro sl s (Q : Bool → Shared → Prop), St C m ro sl fr own s →
    (∀ b own' ro' sl' s', St C m ro' sl' fr own' s' → Ext ro sl ro' sl' → P b own' → Q b s') → wpAny (model Pg C.w) C.A (PySem.isTrue e C.env (eval e C.env)) Q NoE s
noncomputable def WS (C : Cx sc D U) (ss : List Stmt) (fr : Fm) (own : List MO) (PN : Fm → List MO → Prop) (PR : V → List MO → Prop) : Prop :=
  C.cm = none → ∀ m ro sl s (Q : Flow → Shared → Prop), St C m ro sl fr own s →
    (∀ m' fr' own' ro' sl' s', St C m' ro' sl' fr' own' s' → Ext ro sl ro' sl' → PN fr' own' → Q .next s') →
    (∀ v d m' own' ro' sl' s', St C m' ro' sl' [] own' s' → Ext ro sl ro' sl' → VIn C.w ro' (adr sl') v d → PR d own' → Q (.ret v) s') → wpAny (model Pg C.w) C.A (execs ss C.env) Q NoE s
noncomputable def WT (C : Cx sc D U) (st : Stmt) (fr : Fm) (own : List MO) (PN : Fm → List MO → Prop) (PR : V → List MO → Prop) : Prop :=
  C.cm = none → ∀ m ro sl s (Q : Flow → Shared → Prop), St C m ro sl fr own s →
    (∀ m' fr' own' ro' sl' s', St C m' ro' sl' fr' own' s' → Ext ro sl ro' sl' → PN fr' own' → Q .next s') →
    (∀ v d m' own' ro' sl' s', St C m' ro' sl' [] own' s' → Ext ro sl ro' sl' → VIn C.w ro' (adr sl') v d → PR d own' → Q (.ret v) s') → wpAny (model Pg C.w) C.A (exec st C.env) Q NoE s
noncomputable def Fn (w : World) (f : Addr) (D U : Nat) (ds : List V) (own : List MO) (P : V → List MO → Prop) : Prop :=
  ∀ {sc : Scope} (C : Cx sc D U), C.w = w → ∀ m ro sl s vs (Q : Value → Shared → Prop), St C m ro sl [] own s → VIns C.w ro (adr sl) vs ds →
    (∀ v d own' ro' sl' s', St C m ro' sl' [] own' s' → Ext ro sl ro' sl' → own'.length = own.length → VIn C.w ro' (adr sl') v d → P d own' → Q v s') → codeAny (model Pg C.w) C.A (.call (.ref f) ⟨vs, []⟩) (fun r s' => match r with | .ok (.ret v) => Q v s' | .ok _ => False | .error _ => False) s
noncomputable def FnG (H : Heap → Prop) (N : Nat) (w : World) (f : Addr) (D U : Nat) (ds : List V) (own : List MO) (P : V → List MO → Prop) : Prop :=
  ∀ {sc : Scope} (C : Cx sc D U), C.w = w → H C.h₀ → ∀ m ro sl s vs (Q : Value → Shared → Prop), St C m ro sl [] own s → VIns C.w ro (adr sl) vs ds →
    (∀ v d own' ro' sl' s', St C m ro' sl' [] own' s' → Ext ro sl ro' sl' → own'.length = N → VIn C.w ro' (adr sl') v d → P d own' → Q v s') → codeAny (model Pg C.w) C.A (.call (.ref f) ⟨vs, []⟩) (fun r s' => match r with | .ok (.ret v) => Q v s' | .ok _ => False | .error _ => False) s
end
end
section
open PySem PySem.W PyProof.Rows
section
variable {sc : Scope} {D U : Nat} {C : Cx sc D U} {m : Str → Option Value} {ro : Ld} {sl : List Sl} {fr : Fm} {own : List MO} {s : Shared}
theorem AdLe.refl {ad : List Addr} : AdLe ad ad := fun _ _ h => h
theorem AdLe.app {ad l : List Addr} : AdLe ad (ad ++ l) := fun k a h => by
  rw [List.getElem?_append_left (List.getElem?_eq_some_iff.mp h).1]; exact h
theorem Ext.refl : Ext ro sl ro sl := ⟨fun _ h => h, AdLe.refl⟩
theorem Ext.trans {r1 r2 r3 : Ld} {l1 l2 l3 : List Sl} (a : Ext r1 l1 r2 l2) (b : Ext r2 l2 r3 l3) : Ext r1 l1 r3 l3 := ⟨fun p h => b.ro p (a.ro p h), fun k x h => b.ad k x (a.ad k x h)⟩
theorem Ext.v {w : World} {r1 r2 : Ld} {l1 l2 : List Sl} (a : Ext r1 l1 r2 l2) {v : Value} {d : V} (h : VIn w r1 (adr l1) v d) : VIn w r2 (adr l2) v d := VIn.mono a.ro a.ad d h
theorem Ext.vs {w : World} {r1 r2 : Ld} {l1 l2 : List Sl} (a : Ext r1 l1 r2 l2) {v : List Value} {d : List V} (h : VIns w r1 (adr l1) v d) : VIns w r2 (adr l2) v d := VIns.mono a.ro a.ad d h
theorem St.ns (S : St C m ro sl fr own s) : s.heap.Ns C.env.locals (C.cm.getD m) := by
  have h := C.loc
  cases hc : C.cm with
  | none => rw [hc] at h; dsimp only at h; rw [h]; exact S.F.ns
  | some cm =>
    rw [hc] at h
    obtain ⟨o, ho, hn⟩ := h
    exact hn.ns (S.N _ (List.mem_append_right _ (List.mem_append_right _ ho))).1
theorem Cx.kof (C : Cx sc D U) (x : Str) : C.env.kindOf x = sc.names.lookup x := by rw [Env.kindOf, C.hsc]
theorem Cx.ek (C : Cx sc D U) : C.env.scope.kind = .function := by rw [C.hsc]; exact C.hk
theorem St.inro (S : St C m ro sl fr own s) {a : Addr} {o : Obj} (h : (a, o) ∈ ro) : s.heap.get? a = some o := (S.N _ (List.mem_append_right _ (List.mem_append_left _ h))).1
theorem Refs.mono {ad ad' : List Addr} (ha : AdLe ad ad') : ∀ {ks : List Nat} {vs : List Value}, Refs ad vs ks → Refs ad' vs ks
  | [], _, h => h
  | _ :: _, _, h => let ⟨a, r, e, m, k⟩ := h; ⟨a, r, e, ha _ _ m, Refs.mono ha k⟩
theorem MoIn.mono {w : World} {ro ro' : Ld} {ad ad' : List Addr} {x : Sl} (hs : ∀ p ∈ ro, p ∈ ro') (ha : AdLe ad ad') : ∀ {mo : MO}, MoIn w ro ad x mo → MoIn w ro' ad' x mo
  | .dead, h => h
  | .lst l, h => let ⟨vs, n, e, x, r⟩ := h; ⟨vs, n, e, x, PIns.mono hs l r⟩
  | .refs _, h => let ⟨vs, n, e, x, r⟩ := h; ⟨vs, n, e, x, r.mono ha⟩
  | .flds fs, h => let ⟨es, n, e, x, r⟩ := h; ⟨es, n, e, x, FIns'.mono hs ha fs r⟩
  | .dI _, h => let ⟨xs, a, x, b, c, d⟩ := h; ⟨xs, a, x, b, c.mono hs, DPairs.mono hs _ d⟩
  | .cell, h => h
theorem Owns.mono {w : World} {ro ro' : Ld} {ad ad' : List Addr} (hs : ∀ p ∈ ro, p ∈ ro') (ha : AdLe ad ad') : ∀ {own : List MO} {sl : List Sl}, Owns w ro ad sl own → Owns w ro' ad' sl own
  | [], _, h => h
  | _ :: _, _, h => let ⟨x, sl', e, a, b⟩ := h; ⟨x, sl', e, a.mono hs ha, Owns.mono hs ha b⟩
theorem Owns.len {w : World} {ro : Ld} {ad : List Addr} : ∀ {own : List MO} {sl : List Sl}, Owns w ro ad sl own → sl.length = own.length
  | [], _, h => by rw [h]; rfl
  | _ :: _, _, h => by obtain ⟨x, sl', rfl, a, b⟩ := h; simp [Owns.len b]
theorem NmD.mono {ro ro' : Ld} {x : Str} {v : Value} {d : V} (hs : ∀ p ∈ ro, p ∈ ro') (h : NmD C m ro x v d) : NmD C m ro' x v d := by
  unfold NmD at h ⊢
  cases e : d.isCel with
  | true => rw [e] at h; exact h
  | false => rw [e] at h; exact h.imp id fun ⟨a, c, o, b, d, e⟩ => ⟨a, c, o, b, hs _ d, e⟩
theorem St.re {ro' : Ld} {h' : Heap} {tk : Nat} (S : St C m ro sl fr own s) (F' : Fr C.h₀ C.L h' m) (N' : News C.h₀ C.L h' (slLd sl ++ (ro' ++ C.fx))) (hs : ∀ p ∈ ro, p ∈ ro') (hn : ∀ q ∈ ro', q ∈ ro ∨ ((∀ p ∈ slLd sl, q.1 ≠ p.1) ∧ ∀ p ∈ C.fx, q.1 ≠ p.1)) :
    St C m ro' sl fr own { s with heap := h', toks := tk } where
  F := F'
  N := N'
  nd := S.nd
  ap := fun i x mo hx ho hl p hp q hq => by
    rcases hn q hq with h | h
    · exact S.ap i x mo hx ho hl p hp q h
    · exact h.1 p (List.mem_flatMap.mpr ⟨x, List.mem_of_getElem? hx, hp⟩)
  apx := S.apx
  mxa := fun q hq p hp => by
    rcases hn q hq with h | h
    · exact S.mxa q h p hp
    · exact h.2 p (C.hmx p hp)
  ow := S.ow.mono hs AdLe.refl
  nm := fun x d h => let ⟨v, a, b⟩ := S.nm x d h; ⟨v, a.mono hs, VIn.mono hs AdLe.refl d b⟩
  gens := S.gens
  drawn := S.drawn
  os := S.os
theorem St.tk {k : Nat} (S : St C m ro sl fr own s) : St C m ro sl fr own { s with toks := k } := S.re S.F S.N (fun _ h => h) fun _ h => .inl h
theorem St.same {h' : Heap} {tk : Nat} (S : St C m ro sl fr own s) (F' : Fr C.h₀ C.L h' m) (N' : News C.h₀ C.L h' (slLd sl ++ (ro ++ C.fx))) : St C m ro sl fr own { s with heap := h', toks := tk } := S.re F' N' (fun _ h => h) fun _ h => .inl h
theorem St.push {D' : Addr} {o : Obj} {h' : Heap} {tk : Nat} (S : St C m ro sl fr own s) (F' : Fr C.h₀ C.L h' m) (N' : News C.h₀ C.L h' ((D', o) :: (slLd sl ++ (ro ++ C.fx)))) (l : ∀ p ∈ slLd sl ++ (ro ++ C.fx), p.1 < D') :
    St C m ((D', o) :: ro) sl fr own { s with heap := h', toks := tk } :=
  S.re F' (fun p hp => N' p (by simp only [List.mem_append, List.mem_cons] at hp ⊢; rcases hp with a | (a | a) | a <;> simp [a])) (fun p h => .tail _ h) fun q hq => by
    rcases List.mem_cons.mp hq with rfl | hq
    · exact .inr ⟨fun p hp => Ne.symm (Nat.ne_of_lt (l p (List.mem_append_left _ hp))), fun p hp => Ne.symm (Nat.ne_of_lt (l p (List.mem_append_right _ (List.mem_append_right _ hp))))⟩
    · exact .inl hq
theorem Ext.push {x : Addr × Obj} : Ext ro sl (x :: ro) sl := ⟨fun _ h => .tail _ h, AdLe.refl⟩
end
section
variable {sc : Scope} {D U : Nat} {C : Cx sc D U} {fr : Fm} {own : List MO} {pos : Pos} {P : V → List MO → Prop}
theorem WE.mono {e : Expr} {P' : V → List MO → Prop} (h : WE C e fr own P) (k : ∀ d o, P d o → P' d o) : WE C e fr own P' := fun m ro sl s Q S q => h m ro sl s Q S fun v d o r l s' a b c p => q v d o r l s' a b c (k _ _ p)
theorem WE_name {x : Str} {d : V} (h : fr.lookup x = some d) (hP : P d own) (hd' : d.isCel = false) (hd : (x == ("__debug__" : Str)) = false) : WE C (.Name x pos) fr own P := by
  intro m ro sl s Q S k
  obtain ⟨v, hn, hv⟩ := S.nm x d h
  refine wpAny_Name ?_ hd
  unfold NmD at hn
  rw [hd'] at hn
  rcases hn with ⟨hl, hm⟩ | ⟨hl, c, o, hc, ho, hdat⟩
  · exact wpAny_loadName_local C.ek ((C.kof x).trans hl) S.ns hm (k v d own ro sl s S .refl hv hP)
  · exact wpAny_loadName_cell C.ek ((C.kof x).trans hl) hc ⟨o, S.inro ho, hdat⟩ (k v d own ro sl s S .refl hv hP)
theorem WE_int {i : Int} {k} (hP : P (.d (.int i)) own) : WE C (.Constant (.int i) k pos) fr own P := fun _ _ _ _ _ S q => wpAny_Constant_int (q _ (.d (.int i)) _ _ _ _ S.tk .refl ⟨_, rfl⟩ hP)
theorem WE_str {x : Str} {k} (hP : P (.d (.str x)) own) : WE C (.Constant (.str x) k pos) fr own P := fun _ _ _ _ _ S q => Calls.Constant_str (q _ (.d (.str x)) _ _ _ _ S.tk .refl ⟨_, rfl⟩ hP)
theorem WE_none {k} (hP : P (.d .none) own) : WE C (.Constant .none k pos) fr own P := fun _ _ _ _ _ S q => wpAny_Constant_none (q _ (.d .none) _ _ _ _ S .refl rfl hP)
theorem WE_bool {b : Bool} {k} (hP : P (.d (.bool b)) own) : WE C (.Constant (.bool b) k pos) fr own P := fun _ _ _ _ _ S q => Constant_bool (q _ (.d (.bool b)) _ _ _ _ S .refl rfl hP)
theorem WEs_nil {P : List V → List MO → Prop} (hP : P [] own) : WEs C [] fr own P := fun _ _ _ _ _ _ S q => args_nil (q _ [] _ _ _ _ S .refl rfl hP)
noncomputable def plainE : Expr → Bool
  | .Starred _ _ => false
  | _ => true
theorem starEach_plain {e : Expr} {rest : List Expr} {env : Env} (h : plainE e = true) : starEach (e :: rest) env = (false, eval e env) :: starEach rest env := by
  cases e <;> first | rfl | (cases h)
theorem WEs_cons {e : Expr} {es : List Expr} {P : List V → List MO → Prop} (h : WE C e fr own fun d own' => WEs C es fr own' fun ds own'' => P (d :: ds) own'') (he : plainE e = true := by rfl) : WEs C (e :: es) fr own P := by
  intro pos m ro sl s Q S k
  refine args_cons (h m ro sl s _ S fun v d own' ro' sl' s' S' x hv h' => ?_) (starEach_plain he)
  refine h' pos m ro' sl' s' _ S' fun vs ds own'' ro'' sl'' s'' S'' x' hvs hP => ?_
  exact k _ (d :: ds) _ _ _ _ S'' (x.trans x') ⟨v, vs, rfl, x'.v hv, hvs⟩ hP
theorem VIns_pin {w : World} {ro : Ld} {ad : List Addr} : ∀ {ds : List PyData} {vs : List Value}, VIns w ro ad vs (ds.map .d) → PIns ro vs ds
  | [], _, h => h
  | _ :: _, _, h => let ⟨v, r, e, a, b⟩ := h; ⟨v, r, e, a, VIns_pin b⟩
theorem PIns.len {ro : Ld} : ∀ {ds : List PyData} {vs : List Value}, PIns ro vs ds → vs.length = ds.length
  | [], _, h => by rw [h]; rfl
  | _ :: _, _, h => by obtain ⟨v, r, rfl, a, b⟩ := h; simp [b.len]
noncomputable def V.ps : List V → Option (List PyData)
  | [] => some []
  | .d x :: r => match V.ps r with
    | some ys => some (x :: ys)
    | none => none
  | _ => none
theorem V.ps_eq : ∀ {ds : List V} {xs : List PyData}, V.ps ds = some xs → ds = xs.map .d
  | [], _, h => by cases h; rfl
  | .d x :: r, xs, h => by
    unfold V.ps at h
    cases e : V.ps r with
    | none => rw [e] at h; cases h
    | some ys => rw [e] at h; cases h; rw [V.ps_eq e]; rfl
theorem WE_tuple {es : List Expr} {k} (h : WEs C es fr own fun ds own' => ∃ xs, V.ps ds = some xs ∧ xs.length ≤ 1000 ∧ P (.d (.tuple xs)) own') : WE C (.Tuple es k pos) fr own P := by
  intro m ro sl s Q S q
  refine Tuple_ (h pos m ro sl s _ S fun vs ds own' ro' sl' s' S' x hvs hP => ?_)
  obtain ⟨xs, e, hz, hP⟩ := hP
  rw [V.ps_eq e] at hvs
  have hp := VIns_pin hvs
  refine kup_newTuple S'.F S'.N (fun D' h' F' N' l => ?_) (by rw [hp.len, sizeLine_eq]; omega)
  exact q _ (.d (.tuple xs)) _ _ _ _ (S'.push F' N' l) (x.trans .push) ⟨_, vs, rfl, .head _, PIns.mono (fun _ h => .tail _ h) _ hp⟩ hP
theorem WE_listF {es : List Expr} (h : WEs C es fr own fun ds own' => ∃ xs, V.ps ds = some xs ∧ xs.length ≤ 1000 ∧ P (.d (.list xs)) own') : WE C (.List es pos) fr own P := by
  intro m ro sl s Q S q
  refine List_ (h pos m ro sl s _ S fun vs ds own' ro' sl' s' S' x hvs hP => ?_)
  obtain ⟨xs, e, hz, hP⟩ := hP
  rw [V.ps_eq e] at hvs
  have hp := VIns_pin hvs
  refine newList_K S'.F S'.N (fun D' h' F' N' l => ?_) (by rw [hp.len, sizeLine_eq]; omega)
  exact q _ (.d (.list xs)) _ _ _ _ (S'.push F' N' l) (x.trans .push) ⟨_, vs, _, rfl, .head _, PIns.mono (fun _ h => .tail _ h) _ hp⟩ hP
end
end
section
open PySem PySem.W PyProof.Rows
section
variable {sc : Scope} {D U : Nat}
noncomputable def Kv (C : Cx sc D U) (m : Str → Option Value) (ro : Ld) (sl : List Sl) (fr : Fm) (Q : Value → Shared → Prop) (P : V → List MO → Prop) : Prop :=
  ∀ v d own' ro' sl' s', St C m ro' sl' fr own' s' → Ext ro sl ro' sl' → VIn C.w ro' (adr sl') v d → P d own' → Q v s'
noncomputable def WBin (C : Cx sc D U) (op : Operator) (a b : V) (fr : Fm) (own : List MO) (P : V → List MO → Prop) : Prop :=
  ∀ m ro sl s Q va vb, St C m ro sl fr own s → VIn C.w ro (adr sl) va a → VIn C.w ro (adr sl) vb b → Kv C m ro sl fr Q P → wpAny (model Pg C.w) C.A (binaryOp op va vb) Q NoE s
noncomputable def WCmp (C : Cx sc D U) (op : CmpOp) (a b : V) (fr : Fm) (own : List MO) (P : Bool → List MO → Prop) : Prop :=
  ∀ m ro sl s Q va vb, St C m ro sl fr own s → VIn C.w ro (adr sl) va a → VIn C.w ro (adr sl) vb b → Kv C m ro sl fr Q (fun d o => ∃ c, d = .d (.bool c) ∧ P c o) → wpAny (model Pg C.w) C.A (compareOp op va vb) Q NoE s
variable {C : Cx sc D U} {fr : Fm} {own : List MO} {pos : Pos} {P : V → List MO → Prop} {PB : Bool → List MO → Prop} {ro : Ld} {sl : List Sl} {m : Str → Option Value} {Q : Value → Shared → Prop}
theorem Kv.tk (h : Kv C m ro sl fr Q P) {s : Shared} (S : St C m ro sl fr own s) {v : Value} (d : V) (hv : VIn C.w ro (adr sl) v d) (hP : P d own) : Q v s := h v d own ro sl s S .refl hv hP
theorem Kv.ext {ro' : Ld} {sl' : List Sl} (h : Kv C m ro sl fr Q P) (x : Ext ro sl ro' sl') : Kv C m ro' sl' fr Q P := fun v d o r l s' a b c e => h v d o r l s' a (x.trans b) c e
theorem WE_bin {op : Operator} {l r : Expr} (h : WE C l fr own fun a o => WE C r fr o fun b o' => WBin C op a b fr o' P) : WE C (.BinOp l op r pos) fr own P := by
  intro m ro sl s Q S k
  refine wpAny_BinOp (h m ro sl s _ S fun va a o1 r1 l1 s1 S1 x1 ha h1 => h1 m r1 l1 s1 _ S1 fun vb b o2 r2 l2 s2 S2 x2 hb h2 => ?_)
  exact h2 m r2 l2 s2 Q va vb S2 (x2.v ha) hb (Kv.ext (Q := Q) k (x1.trans x2))
theorem WBin_add {i j : Int} (hP : P (.d (.int (i + j))) own) : WBin C .Add (.d (.int i)) (.d (.int j)) fr own P := by
  rintro m ro sl s Q va vb S ⟨t, rfl⟩ ⟨u, rfl⟩ k
  exact add_int (k.tk S.tk (.d (.int (i + j))) ⟨_, rfl⟩ hP)
theorem WBin_sub {i j : Int} (hP : P (.d (.int (i - j))) own) : WBin C .Sub (.d (.int i)) (.d (.int j)) fr own P := by
  rintro m ro sl s Q va vb S ⟨t, rfl⟩ ⟨u, rfl⟩ k
  exact sub_int (k.tk S.tk (.d (.int (i - j))) ⟨_, rfl⟩ hP)
theorem WBin_mul {i j : Int} (hz : IntMulOk i j) (hP : P (.d (.int (i * j))) own) : WBin C .Mult (.d (.int i)) (.d (.int j)) fr own P := by
  rintro m ro sl s Q va vb S ⟨t, rfl⟩ ⟨u, rfl⟩ k
  exact mul_int (k.tk S.tk (.d (.int (i * j))) ⟨_, rfl⟩ hP) hz
theorem WBin_div {i j : Int} (hj : j ≠ 0) (hz : Builtin.divisionGoesByPylong i j = false) (hP : P (.d (.int (i.fdiv j))) own) : WBin C .FloorDiv (.d (.int i)) (.d (.int j)) fr own P := by
  rintro m ro sl s Q va vb S ⟨t, rfl⟩ ⟨u, rfl⟩ k
  exact floordiv_int hj (k.tk S.tk (.d (.int (i.fdiv j))) ⟨_, rfl⟩ hP) (.inl hz)
theorem WBin_mod {i j : Int} (hj : j ≠ 0) (hP : P (.d (.int (i.fmod j))) own) : WBin C .Mod (.d (.int i)) (.d (.int j)) fr own P := by
  rintro m ro sl s Q va vb S ⟨t, rfl⟩ ⟨u, rfl⟩ k
  exact mod_int' hj (k.tk S.tk (.d (.int (i.fmod j))) ⟨_, rfl⟩ hP)
theorem WBin_pow {i n : Int} (h0 : 0 ≤ n) (h1 : n ≤ 1000000) (h2 : i.natAbs < 2 ^ 64) (hP : P (.d (.int (i ^ n.toNat))) own) : WBin C .Pow (.d (.int i)) (.d (.int n)) fr own P := by
  rintro m ro sl s Q va vb S ⟨t, rfl⟩ ⟨u, rfl⟩ k
  exact pow_int_small h0 h1 h2 (k.tk S.tk (.d (.int (i ^ n.toNat))) ⟨_, rfl⟩ hP)
theorem WBin_str {x y : Str} (hx : x.length ≤ 1000) (hy : y.length ≤ 1000) (hP : P (.d (.str (x ++ y))) own) : WBin C .Add (.d (.str x)) (.d (.str y)) fr own P := by
  rintro m ro sl s Q va vb S ⟨t, rfl⟩ ⟨u, rfl⟩ k
  exact KXadd.add hx hy (by decide) fun t' k' _ => k.tk S.tk (.d (.str (x ++ y))) ⟨_, rfl⟩ hP
theorem PIns.app {ro : Ld} : ∀ {as bs : List PyData} {vs us : List Value}, PIns ro vs as → PIns ro us bs → PIns ro (vs ++ us) (as ++ bs)
  | [], _, _, _, h, k => by rw [h]; exact k
  | _ :: _, _, _, _, h, k => by obtain ⟨v, r, rfl, a, b⟩ := h; exact ⟨v, _, rfl, a, PIns.app b k⟩
theorem WBin_tup {as bs : List PyData} (h1 : as ≠ []) (h2 : bs ≠ []) (hz : as.length + bs.length ≤ 1000) (hP : P (.d (.tuple (as ++ bs))) own) : WBin C .Add (.d (.tuple as)) (.d (.tuple bs)) fr own P := by
  rintro m ro sl s Q va vb S ⟨a, vs, rfl, ma, ha⟩ ⟨b, us, rfl, mb, hb⟩ k
  have e1 := ha.len
  have e2 := hb.len
  refine kde_addT S.F S.N (its := vs.toArray) (its2 := us.toArray) (zs := vs ++ us) ⟨_, S.inro ma, rfl, _, rfl⟩ ⟨_, S.inro mb, rfl, _, rfl⟩ ?_ ?_ (by simp; omega) (by simp) fun D' h' F' N' l => ?_
  · intro e; simp at e; subst e; exact h1 (List.length_eq_zero_iff.mp (by simpa using e1.symm))
  · intro e; simp at e; subst e; exact h2 (List.length_eq_zero_iff.mp (by simpa using e2.symm))
  exact k _ (.d (.tuple (as ++ bs))) _ _ _ _ (S.push F' N' l) .push ⟨_, _, rfl, .head _, PIns.mono (fun _ h => .tail _ h) _ (ha.app hb)⟩ hP
theorem WBin_lst {as bs : List PyData} (hz : as.length + bs.length ≤ 1000) (hP : P (.d (.list (as ++ bs))) own) : WBin C .Add (.d (.list as)) (.d (.list bs)) fr own P := by
  rintro m ro sl s Q va vb S ⟨a, vs, n, rfl, ma, ha⟩ ⟨b, us, n2, rfl, mb, hb⟩ k
  have e1 := ha.len
  have e2 := hb.len
  refine kmk_add_lit S.F S.N (its := vs.toArray) (its2 := us.toArray) (zs := vs ++ us) ⟨_, S.inro ma, rfl, _, rfl⟩ ⟨_, S.inro mb, rfl, _, rfl⟩ (by simp) (fun D' h' F' N' l => ?_) (by simp; rw [sizeLine_eq]; omega)
  exact k _ (.d (.list (as ++ bs))) _ _ _ _ (S.push F' N' l) .push ⟨_, _, _, rfl, .head _, PIns.mono (fun _ h => .tail _ h) _ (ha.app hb)⟩ hP
theorem WE_neg {e : Expr} (h : WE C e fr own fun a o => ∃ i, a = .d (.int i) ∧ P (.d (.int (-i))) o) : WE C (.UnaryOp .USub e pos) fr own P := by
  intro m ro sl s Q S k
  refine UnaryOp_ (h m ro sl s _ S fun va a o1 r1 l1 s1 S1 x1 ha h1 => ?_)
  obtain ⟨i, rfl, hP⟩ := h1
  obtain ⟨t, rfl⟩ := ha
  exact neg_int (k _ (.d (.int (-i))) _ _ _ _ S1.tk x1 ⟨_, rfl⟩ hP)
noncomputable def simpleE : Expr → Bool
  | .Set .. => false
  | _ => true
theorem behind_simple {op : CmpOp} {r : Expr} (h : simpleE r = true) : behindInMarks op r = false := by
  cases r <;> first | rfl | (cases h)
theorem WE_cmp {op : CmpOp} {l r : Expr} (h : WE C l fr own fun a o => WE C r fr o fun b o' => WCmp C op a b fr o' fun c o => P (.d (.bool c)) o) (hr : simpleE r = true := by rfl) : WE C (.Compare l [op] [r] pos) fr own P := by
  intro m ro sl s Q S k
  refine wpAny_Compare1 (h m ro sl s _ S fun va a o1 r1 l1 s1 S1 x1 ha h1 => h1 m r1 l1 s1 _ S1 fun vb b o2 r2 l2 s2 S2 x2 hb h2 => ?_) (behind_simple hr)
  refine h2 m r2 l2 s2 Q va vb S2 (x2.v ha) hb fun v d o3 r3 l3 s3 S3 x3 hv hp => ?_
  obtain ⟨c, rfl, hp⟩ := hp
  exact k _ _ _ _ _ _ S3 ((x1.trans x2).trans x3) hv hp
theorem WB_cmp {op : CmpOp} {l r : Expr} (h : WE C l fr own fun a o => WE C r fr o fun b o' => WCmp C op a b fr o' PB) (hr : simpleE r = true := by rfl) : WB C (.Compare l [op] [r] pos) fr own PB := by
  intro m ro sl s Q S k
  refine wpAny_isTrue_Compare1 (h m ro sl s _ S fun va a o1 r1 l1 s1 S1 x1 ha h1 => h1 m r1 l1 s1 _ S1 fun vb b o2 r2 l2 s2 S2 x2 hb h2 => ?_) (behind_simple hr)
  refine h2 m r2 l2 s2 _ va vb S2 (x2.v ha) hb fun v d o3 r3 l3 s3 S3 x3 hv hp => ?_
  obtain ⟨c, rfl, hp⟩ := hp
  obtain rfl : v = .bool c := hv
  exact wpAny_truthy_bool (k _ _ _ _ _ S3 ((x1.trans x2).trans x3) hp)
mutual
theorem PIn.reads {h₀ h : Heap} {L : Addr} {ro all : Ld} (N : News h₀ L h all) (hs : ∀ p ∈ ro, p ∈ all) : ∀ (x : PyData) {v : Value}, PIn ro v x → ∃ as, Reads h v x as
  | .none, v, e => by obtain rfl : v = .none := e; exact ⟨[], .none⟩
  | .bool b, v, e => by obtain rfl : v = .bool b := e; exact ⟨[], .bool b⟩
  | .int i, _, e => by obtain ⟨t, rfl⟩ := e; exact ⟨[], .int i t⟩
  | .str x, _, e => by obtain ⟨t, rfl⟩ := e; exact ⟨[], .str x t⟩
  | .tuple ds, _, e => by
    obtain ⟨a, vs, rfl, m, r⟩ := e
    obtain ⟨as, q⟩ := PIns.reads N hs ds r
    exact ⟨as, .tuple (N.get (hs _ m)) rfl rfl (by simpa using q)⟩
  | .list ds, _, e => by
    obtain ⟨a, vs, n, rfl, m, r⟩ := e
    obtain ⟨as, q⟩ := PIns.reads N hs ds r
    exact ⟨a :: as, .list (N.get (hs _ m)) rfl rfl (by simpa using q)⟩
  | .dict _, _, h => h.elim
theorem PIns.reads {h₀ h : Heap} {L : Addr} {ro all : Ld} (N : News h₀ L h all) (hs : ∀ p ∈ ro, p ∈ all) : ∀ (xs : List PyData) {vs : List Value}, PIns ro vs xs → ∃ as, ReadsAll h vs xs as
  | [], vs, e => by obtain rfl : vs = [] := e; exact ⟨[], .nil⟩
  | d :: ds, _, e => by
    obtain ⟨v, r, rfl, a, b⟩ := e
    obtain ⟨as, x⟩ := PIn.reads N hs d a
    obtain ⟨bs, y⟩ := PIns.reads N hs ds b
    exact ⟨as ++ bs, .cons x y⟩
end
theorem St.reads {s : Shared} (S : St C m ro sl fr own s) {v : Value} {x : PyData} (h : PIn ro v x) : ∃ as, Reads s.heap v x as := PIn.reads S.N (fun p hp => List.mem_append_right _ (List.mem_append_left _ hp)) x h
theorem WCmp_eq {x y : PyData} (hx : SeqAt.shaped x = true) (hy : SeqAt.shaped y = true) (hP : PB (PyData.eqv x y) own) (hu : Nat.ble 64 U = true := by rfl) : WCmp C .Eq (.d x) (.d y) fr own PB := by
  intro m ro sl s Q va vb S ha hb k
  obtain ⟨_, ra⟩ := S.reads ha
  obtain ⟨_, rb⟩ := S.reads hb
  exact eq_dataH ra rb hx hy (by have := C.units; have := Nat.le_of_ble_eq_true hu; omega) (k.tk S (.d (.bool _)) rfl ⟨_, rfl, hP⟩)
theorem WCmp_ne {x y : PyData} (hx : SeqAt.shaped x = true) (hy : SeqAt.shaped y = true) (hP : PB (!PyData.eqv x y) own) (hu : Nat.ble 64 U = true := by rfl) : WCmp C .NotEq (.d x) (.d y) fr own PB := by
  intro m ro sl s Q va vb S ha hb k
  obtain ⟨_, ra⟩ := S.reads ha
  obtain ⟨_, rb⟩ := S.reads hb
  exact ne_dataH ra rb hx hy (by have := C.units; have := Nat.le_of_ble_eq_true hu; omega) (k.tk S (.d (.bool _)) rfl ⟨_, rfl, hP⟩)
theorem WCmp_eqI {i j : Int} (hP : PB (i == j) own) : WCmp C .Eq (.d (.int i)) (.d (.int j)) fr own PB := by
  rintro m ro sl s Q va vb S ⟨t, rfl⟩ ⟨u, rfl⟩ k
  exact eq_int (k.tk S (.d (.bool _)) rfl ⟨_, rfl, hP⟩)
theorem WCmp_eqS {i j : Str} (hP : PB (i == j) own) : WCmp C .Eq (.d (.str i)) (.d (.str j)) fr own PB := by
  rintro m ro sl s Q va vb S ⟨t, rfl⟩ ⟨u, rfl⟩ k
  exact eq_str (k.tk S (.d (.bool _)) rfl ⟨_, rfl, hP⟩)
theorem WCmp_neS {i j : Str} (hP : PB (i != j) own) : WCmp C .NotEq (.d (.str i)) (.d (.str j)) fr own PB := by
  rintro m ro sl s Q va vb S ⟨t, rfl⟩ ⟨u, rfl⟩ k
  exact ne_str (k.tk S (.d (.bool _)) rfl ⟨_, rfl, hP⟩)
theorem WCmp_lt {i j : Int} (hP : PB (decide (i < j)) own) : WCmp C .Lt (.d (.int i)) (.d (.int j)) fr own PB := by
  rintro m ro sl s Q va vb S ⟨t, rfl⟩ ⟨u, rfl⟩ k
  exact lt_int (k.tk S (.d (.bool _)) rfl ⟨_, rfl, hP⟩)
theorem WCmp_gt {i j : Int} (hP : PB (decide (j < i)) own) : WCmp C .Gt (.d (.int i)) (.d (.int j)) fr own PB := by
  rintro m ro sl s Q va vb S ⟨t, rfl⟩ ⟨u, rfl⟩ k
  exact gt_int (k.tk S (.d (.bool _)) rfl ⟨_, rfl, hP⟩)
theorem WCmp_ge {i j : Int} (hP : PB (decide (j ≤ i)) own) : WCmp C .GtE (.d (.int i)) (.d (.int j)) fr own PB := by
  rintro m ro sl s Q va vb S ⟨t, rfl⟩ ⟨u, rfl⟩ k
  exact ge_int (k.tk S (.d (.bool _)) rfl ⟨_, rfl, hP⟩)
theorem WCmp_isI {i : Int} (hP : PB false own) : WCmp C .Is (.d (.int i)) (.d .none) fr own PB := by
  rintro m ro sl s Q va vb S ⟨t, rfl⟩ rfl k
  exact is_int_none (k.tk S (.d (.bool _)) rfl ⟨_, rfl, hP⟩)
theorem WCmp_isN (hP : PB true own) : WCmp C .Is (.d .none) (.d .none) fr own PB := by
  rintro m ro sl s Q va vb S rfl rfl k
  exact is_none_none (k.tk S (.d (.bool _)) rfl ⟨_, rfl, hP⟩)
theorem WCmp_isnotI {i : Int} (hP : PB true own) : WCmp C .IsNot (.d (.int i)) (.d .none) fr own PB := by
  rintro m ro sl s Q va vb S ⟨t, rfl⟩ rfl k
  exact isnot_int_none (k.tk S (.d (.bool _)) rfl ⟨_, rfl, hP⟩)
theorem WCmp_isnotN (hP : PB false own) : WCmp C .IsNot (.d .none) (.d .none) fr own PB := by
  rintro m ro sl s Q va vb S rfl rfl k
  exact isnot_none_none (k.tk S (.d (.bool _)) rfl ⟨_, rfl, hP⟩)
noncomputable def WBo (C : Cx sc D U) (op : BoolOp) (es : List Expr) (pos : Pos) (fr : Fm) (own : List MO) (P : Bool → List MO → Prop) : Prop :=
  ∀ whole m ro sl s (Q : Bool → Shared → Prop), St C m ro sl fr own s →
    (∀ b own' ro' sl' s', St C m ro' sl' fr own' s' → Ext ro sl ro' sl' → P b own' → Q b s') → wpAny (model Pg C.w) C.A (PySem.isTrue (.BoolOp op es pos) C.env whole) Q NoE s
theorem WB_bool {op : BoolOp} {es : List Expr} (h : WBo C op es pos fr own PB) : WB C (.BoolOp op es pos) fr own PB := fun m ro sl s Q S q => h _ m ro sl s Q S q
theorem WBo_and_nil (hP : PB true own) : WBo C .And [] pos fr own PB := fun _ _ _ _ _ _ S q => isTrue_and_nil (q _ _ _ _ _ S .refl hP)
theorem WBo_or_nil (hP : PB false own) : WBo C .Or [] pos fr own PB := fun _ _ _ _ _ _ S q => isTrue_or_nil (q _ _ _ _ _ S .refl hP)
theorem WBo_and {x : Expr} {es : List Expr} (h : WB C x fr own fun c o => if c = true then WBo C .And es pos fr o PB else PB false o) : WBo C .And (x :: es) pos fr own PB := by
  intro whole m ro sl s Q S q
  refine isTrue_and (h m ro sl s _ S fun b o r l s' S' x hb => ?_)
  cases b with
  | true => exact hb whole m r l s' Q S' fun b' o' r' l' s'' a b c => q b' o' r' l' s'' a (x.trans b) c
  | false => exact q false o r l s' S' x hb
theorem WBo_or {x : Expr} {es : List Expr} (h : WB C x fr own fun c o => if c = true then PB true o else WBo C .Or es pos fr o PB) : WBo C .Or (x :: es) pos fr own PB := by
  intro whole m ro sl s Q S q
  refine isTrue_or (h m ro sl s _ S fun b o r l s' S' x hb => ?_)
  cases b with
  | false => exact hb whole m r l s' Q S' fun b' o' r' l' s'' a b c => q b' o' r' l' s'' a (x.trans b) c
  | true => exact q true o r l s' S' x hb
theorem WB_not {e : Expr} (h : WB C e fr own fun c o => PB (!c) o) : WB C (.UnaryOp .Not e pos) fr own PB := by
  intro m ro sl s Q S q
  exact isTrue_not (h m ro sl s _ S fun b o r l s' S' x hb => q _ o r l s' S' x hb)
theorem WB_plain {e : Expr} (h : WE C e fr own fun d o => ∃ b, d = .d (.bool b) ∧ PB b o) (he : ∀ env whole, PySem.isTrue e env whole = (do let v ← whole; standAt (Expr.pos e); holding [v] (truthy v)) := by intro _ _; rfl) : WB C e fr own PB := by
  intro m ro sl s Q S q
  refine isTrue_plain (h m ro sl s _ S fun v d o r l s' S' x hv hd => ?_) (he _ _)
  obtain ⟨b, rfl, hP⟩ := hd
  obtain rfl : v = .bool b := hv
  exact wpAny_truthy_bool (q b o r l s' S' x hP)
theorem WE_ifexp {t b e : Expr} (h : WB C t fr own fun c o => if c = true then WE C b fr o P else WE C e fr o P) : WE C (.IfExp t b e pos) fr own P := by
  intro m ro sl s Q S k
  refine IfExp_ (h m ro sl s _ S fun c o r l s' S' x hc => ?_)
  cases c with
  | true => exact hc m r l s' Q S' (Kv.ext (Q := Q) k x)
  | false => exact hc m r l s' Q S' (Kv.ext (Q := Q) k x)
theorem WE_and {x y : Expr} {es : List Expr} (h : WE C x fr own fun d o => ∃ b, d = .d (.bool b) ∧ if b = true then WE C (.BoolOp .And (y :: es) pos) fr o P else P d o) : WE C (.BoolOp .And (x :: y :: es) pos) fr own P := by
  intro m ro sl s Q S k
  refine BoolOp_and (h m ro sl s _ S fun v d o r l s' S' x hv hd => ?_)
  obtain ⟨b, rfl, hb⟩ := hd
  obtain rfl : v = .bool b := hv
  refine wpAny_truthy_bool ?_
  cases b with
  | true => exact hb m r l s' Q S' (Kv.ext (Q := Q) k x)
  | false => exact k _ (.d (.bool false)) o r l s' S' x rfl hb
theorem WE_and1 {x : Expr} (h : WE C x fr own P) : WE C (.BoolOp .And [x] pos) fr own P := fun m ro sl s Q S k => BoolOp_one (h m ro sl s Q S k)
end
end
section
open PySem PySem.W PyProof.Rows
section
variable {sc : Scope} {D U : Nat}
noncomputable def WSub (C : Cx sc D U) (value slice : Expr) (a i : V) (fr : Fm) (own : List MO) (P : V → List MO → Prop) : Prop :=
  ∀ m ro sl s Q va vi, St C m ro sl fr own s → VIn C.w ro (adr sl) va a → VIn C.w ro (adr sl) vi i → Kv C m ro sl fr Q P → wpAny (model Pg C.w) C.A (subscriptTail value slice va vi) Q NoE s
variable {C : Cx sc D U} {fr : Fm} {own : List MO} {pos : Pos} {P : V → List MO → Prop} {ro : Ld} {sl : List Sl} {m : Str → Option Value} {Q : Value → Shared → Prop} {value slice : Expr}
theorem WE_sub (h : WE C value fr own fun a o => WE C slice fr o fun i o' => WSub C value slice a i fr o' P) : WE C (.Subscript value slice pos) fr own P := by
  intro m ro sl s Q S k
  refine Subscript_ (h m ro sl s _ S fun va a o1 r1 l1 s1 S1 x1 ha h1 => h1 m r1 l1 s1 _ S1 fun vb b o2 r2 l2 s2 S2 x2 hb h2 => ?_)
  exact h2 m r2 l2 s2 Q va vb S2 (x2.v ha) hb (Kv.ext (Q := Q) k (x1.trans x2))
noncomputable def plainIx : Expr → Bool
  | .Slice .. => false
  | _ => true
theorem subscripted_plain {o i : Value} (h : plainIx slice = true) : subscripted slice false o i = operate [o, i] (getItem o i) := by
  cases slice <;> first | rfl | (cases h)
theorem PIns.get {ro : Ld} {x : PyData} : ∀ {l : List PyData} {vs : List Value} {i : Nat}, PIns ro vs l → l[i]? = some x → ∃ v, vs[i]? = some v ∧ PIn ro v x
  | [], _, i, _, e => by simp at e
  | _ :: _, _, 0, h, e => by obtain ⟨v, r, rfl, a, b⟩ := h; simp at e; subst e; exact ⟨v, rfl, a⟩
  | _ :: _, _, i + 1, h, e => by obtain ⟨v, r, rfl, a, b⟩ := h; simp at e; obtain ⟨u, q, z⟩ := PIns.get b e; exact ⟨u, by simpa using q, z⟩
theorem seqIndex_nat {i n : Nat} (h : i < n) : seqIndex? (i : Int) n = some i := by
  unfold seqIndex?
  have h1 : ¬ ((i : Int) < 0) := by omega
  simp only [h1, if_false]
  rw [if_pos (by simp; omega)]
  simp
theorem WSub_tup {l : List PyData} {k : Int} {x : PyData} (h0 : 0 ≤ k ∧ k < 100000) (hx : l[k.toNat]? = some x) (hP : P (.d x) own) (hs : plainIx slice = true := by rfl) : WSub C value slice (.d (.tuple l)) (.d (.int k)) fr own P := by
  rintro m ro sl s Q va vi S ⟨a, vs, rfl, ma, ha⟩ ⟨t, rfl⟩ q
  obtain ⟨v, hv, hp⟩ := ha.get hx
  have hlt := (List.getElem?_eq_some_iff.mp hv).1
  have hk : k = (k.toNat : Int) := (Int.toNat_of_nonneg h0.1).symm
  have hq : seqIndex? k vs.length = some k.toNat := by rw [hk]; exact seqIndex_nat hlt
  exact item_tupleT (j := k.toNat) (l := vs) (x := v) ⟨_, S.inro ma, rfl, _, rfl⟩ (by omega) (by omega) hq hv (q.tk S (.d x) hp hP) (subscripted_plain hs)
theorem WSub_lst {l : List PyData} {k : Int} {x : PyData} (h0 : 0 ≤ k ∧ k < 100000) (hx : l[k.toNat]? = some x) (hP : P (.d x) own) (hs : plainIx slice = true := by rfl) : WSub C value slice (.d (.list l)) (.d (.int k)) fr own P := by
  rintro m ro sl s Q va vi S ⟨a, vs, n, rfl, ma, ha⟩ ⟨t, rfl⟩ q
  obtain ⟨v, hv, hp⟩ := ha.get hx
  exact item_litK (vs := vs) (v := v) ⟨_, S.inro ma, rfl, _, rfl⟩ h0.1 (by omega) hv (q.tk S (.d x) hp hP) (subscripted_plain hs)
theorem WSub_last {l : List PyData} {x : PyData} (hx : l[l.length - 1]? = some x) (hz : l.length < 100000) (hP : P (.d x) own) (hs : plainIx slice = true := by rfl) : WSub C value slice (.d (.list l)) (.d (.int (-1))) fr own P := by
  rintro m ro sl s Q va vi S ⟨a, vs, n, rfl, ma, ha⟩ ⟨t, rfl⟩ q
  obtain ⟨v, hv, hp⟩ := ha.get hx
  have e := ha.len
  exact item_last (n := n) S.N (List.mem_append_right _ (List.mem_append_left _ ma)) rfl (by omega) (by rw [e]; exact hv) (q.tk S (.d x) hp hP) (subscripted_plain hs)
theorem Owns.get {w : World} {ad : List Addr} {mo : MO} : ∀ {own : List MO} {sl : List Sl} {k : Nat}, Owns w ro ad sl own → own[k]? = some mo → ∃ x, sl[k]? = some x ∧ MoIn w ro ad x mo
  | [], _, k, _, e => by simp at e
  | _ :: _, _, 0, h, e => by obtain ⟨x, sl', rfl, a, b⟩ := h; simp at e; subst e; exact ⟨x, rfl, a⟩
  | _ :: _, _, k + 1, h, e => by obtain ⟨x, sl', rfl, a, b⟩ := h; simp at e; obtain ⟨y, q, z⟩ := Owns.get b e; exact ⟨y, by simpa using q, z⟩
theorem slLd_mem {x : Sl} {k : Nat} (h : sl[k]? = some x) : (x.a, x.o) ∈ slLd sl := List.mem_flatMap.mpr ⟨x, List.mem_of_getElem? h, .head _⟩
theorem St.slot {s : Shared} (S : St C m ro sl fr own s) {v : Value} {k : Nat} {mo : MO} (h : own[k]? = some mo) (hv : VIn C.w ro (adr sl) v (.slot k)) : ∃ x, v = .ref x.a ∧ sl[k]? = some x ∧ MoIn C.w ro (adr sl) x mo := by
  obtain ⟨x, hx, ho⟩ := S.ow.get h
  obtain ⟨a, rfl, ha⟩ := hv
  refine ⟨x, ?_, hx, ho⟩
  rw [List.getElem?_map, hx] at ha
  cases ha
  rfl
theorem WSub_slot {l : List PyData} {k : Int} {x : PyData} {j : Nat} (ho : own[j]? = some (.lst l)) (h0 : 0 ≤ k ∧ k < 100000) (hx : l[k.toNat]? = some x) (hP : P (.d x) own) (hs : plainIx slice = true := by rfl) : WSub C value slice (.slot j) (.d (.int k)) fr own P := by
  rintro m ro sl s Q va vi S hv ⟨t, rfl⟩ q
  obtain ⟨y, rfl, hy, vs, n, e, _, ha⟩ := S.slot ho hv
  obtain ⟨v, hv, hp⟩ := ha.get hx
  have hg := (S.N _ (List.mem_append_left _ (slLd_mem hy))).1
  rw [e] at hg
  exact item_litK (vs := vs) (v := v) ⟨_, hg, rfl, _, rfl⟩ h0.1 (by omega) hv (q.tk S (.d x) hp hP) (subscripted_plain hs)
noncomputable def WAttr (C : Cx sc D U) (name : Str) (a : V) (fr : Fm) (own : List MO) (P : V → List MO → Prop) : Prop :=
  ∀ m ro sl s Q va, St C m ro sl fr own s → VIn C.w ro (adr sl) va a → Kv C m ro sl fr Q P → wpAny (model Pg C.w) C.A (getAttr va name true) Q NoE s
theorem WE_attr {name : Str} (h : WE C value fr own fun a o => WAttr C name a fr o P) (he : ∀ env, eval (Expr.Attribute value name pos) env = (do let o ← eval value env; standAt (Pos.atName pos); let r ← holding [o] (getAttr o name true); letTemporaryGo value o r; pure r) := by intro _; rfl) : WE C (.Attribute value name pos) fr own P := by
  intro m ro sl s Q S k
  refine Attribute_any_ (h m ro sl s _ S fun va a o1 r1 l1 s1 S1 x1 ha h1 => ?_) (he _)
  exact h1 m r1 l1 s1 Q va S1 ha (Kv.ext (Q := Q) k x1)
noncomputable def Fs.get : Fs → Str → Option V
  | .nil, _ => none
  | .cons x v r, n => if x = n then some v else r.get n
structure AttrOk (w : World) (c : Addr) (name : Str) : Prop where
  plain : plainGet (KF w) c name = true
  dict : hasDictIn (KF w) c = true
  find : ∃ attr, findIn (KF w) (.ref c) name = some attr ∧ noGet (KF w) attr = true
theorem isStr_str {x n : Str} {t : Tok} : (Value.str x t).isStr n = (x == n) := rfl
theorem FIns'.get {w : World} {ad : List Addr} {name : Str} {d : V} : ∀ {fs : Fs} {es : List DictEntry}, FIns' w ro ad es fs → fs.get name = some d → ∃ v, getL name es = some (some v) ∧ VIn w ro ad v d
  | .nil, _, _, e => by cases e
  | .cons x u r, _, h, e => by
    obtain ⟨t, v, es', rfl, a, b⟩ := h
    unfold Fs.get at e
    unfold getL
    by_cases hx : x = name
    · rw [if_pos hx] at e
      cases e
      refine ⟨v, ?_, a⟩
      rw [List.find?_cons_of_pos (by rw [isStr_str, hx]; exact beq_self_eq_true _)]
    · rw [if_neg hx] at e
      obtain ⟨u', q, z⟩ := FIns'.get b e
      refine ⟨u', ?_, z⟩
      have hn : ¬ ((Value.str x t).isStr name = true) := by rw [isStr_str]; simpa using hx
      rw [List.find?_cons_of_neg (by exact hn)]
      unfold getL at q
      cases hf : List.find? (fun z : DictEntry => z.key.isStr name) es' with
      | some e' => rw [hf] at q; exact q
      | none =>
        rw [hf] at q
        dsimp only at q
        split at q <;> cases q
theorem VIn.handed {w : World} {ad : List Addr} {v : Value} : ∀ {d : V}, VIn w ro ad v d → handedIn v = true
  | .d .none, h => by obtain rfl : v = .none := h; rfl
  | .d (.bool _), h => by obtain rfl : v = .bool _ := h; rfl
  | .d (.int _), ⟨_, e⟩ => by subst e; rfl
  | .d (.str _), ⟨_, e⟩ => by subst e; rfl
  | .d (.tuple _), ⟨_, _, e, _⟩ => by subst e; rfl
  | .d (.list _), ⟨_, _, _, e, _⟩ => by subst e; rfl
  | .d (.dict _), h => h.elim
  | .rng _, ⟨_, _, _, _, e, _⟩ => by subst e; rfl
  | .slot _, ⟨_, e, _⟩ => by subst e; rfl
  | .cel _, ⟨_, e, _⟩ => by subst e; rfl
  | .obj _ _, ⟨_, _, e, _⟩ => by subst e; rfl
  | .ins _ _, ⟨_, _, _, _, e, _⟩ => by subst e; rfl
  | .dI _, ⟨_, _, e, _⟩ => by subst e; rfl
  | .dS _, ⟨_, _, e, _⟩ => by subst e; rfl
  | .raw _, h => by obtain rfl : v = .ref _ := h; rfl
theorem WAttr_ins {c : Addr} {fs : Fs} {name : Str} {d : V} (hf : fs.get name = some d) (ok : ∀ w, AttrOk w c name) (hP : P d own) : WAttr C name (.ins c fs) fr own P := by
  rintro m ro sl s Q va S ⟨x, dx, es, n, rfl, mx, md, he⟩ q
  obtain ⟨v, hv, hd⟩ := he.get hf
  obtain ⟨a1, a2, attr, a3, a4⟩ := ok C.w
  exact get_own S.F C.X (InstAt.of_news S.N (List.mem_append_right _ (List.mem_append_left _ mx)) (List.mem_append_right _ (List.mem_append_left _ md))) a1 a2 a3 a4 hv hd.handed (q.tk S.tk d hd hP)
theorem WAttr_obj {c : Addr} {k : Nat} {fs : Fs} {name : Str} {d : V} (ho : own[k]? = some (.flds fs)) (hf : fs.get name = some d) (ok : ∀ w, AttrOk w c name) (hP : P d own) : WAttr C name (.obj c k) fr own P := by
  rintro m ro sl s Q va S ⟨x, dx, rfl, mx, hk⟩ q
  obtain ⟨y, e1, hy, es, n, e, _, he⟩ := S.slot (v := .ref dx) ho ⟨dx, rfl, hk⟩
  cases e1
  obtain ⟨v, hv, hd⟩ := he.get hf
  obtain ⟨a1, a2, attr, a3, a4⟩ := ok C.w
  have hm := slLd_mem hy
  rw [e] at hm
  exact get_own S.F C.X (InstAt.of_news S.N (List.mem_append_right _ (List.mem_append_left _ mx)) (List.mem_append_left _ hm)) a1 a2 a3 a4 hv hd.handed (q.tk S.tk d hd hP)
end
end
section
open PySem PySem.W PyProof.Rows
section
variable {sc : Scope} {D U : Nat} {C : Cx sc D U} {fr : Fm} {own : List MO} {pos : Pos} {P : V → List MO → Prop} {PN : Fm → List MO → Prop} {PR : V → List MO → Prop} {ro : Ld} {sl : List Sl} {m : Str → Option Value} {s : Shared}
theorem WS_nil (h : PN fr own) : WS C [] fr own PN PR := fun _ _ _ _ _ _ S k _ => wpAny_execs_nil (k _ _ _ _ _ _ S .refl h)
theorem WS_cons {st : Stmt} {rest : List Stmt} (h : WT C st fr own (fun fr' o => WS C rest fr' o PN PR) PR) : WS C (st :: rest) fr own PN PR := by
  intro hc m ro sl s Q S k r
  refine wpAny_execs_cons (h hc m ro sl s _ S (fun m' fr' o r1 l1 s1 S1 x1 h1 => ?_) fun v d m' o r1 l1 s1 S1 x1 hv hp => ?_)
  · exact h1 hc m' r1 l1 s1 Q S1 (fun m2 f2 o2 r2 l2 s2 S2 x2 hp => k m2 f2 o2 r2 l2 s2 S2 (x1.trans x2) hp) fun v d m2 o2 r2 l2 s2 S2 x2 hv hp => r v d m2 o2 r2 l2 s2 S2 (x1.trans x2) hv hp
  · exact r v d m' o r1 l1 s1 S1 x1 hv hp
theorem WS.mono {ss : List Stmt} {PN' : Fm → List MO → Prop} {PR' : V → List MO → Prop} (h : WS C ss fr own PN PR) (a : ∀ f o, PN f o → PN' f o) (b : ∀ d o, PR d o → PR' d o) : WS C ss fr own PN' PR' :=
  fun hc m ro sl s Q S k r => h hc m ro sl s Q S (fun m' f o r' l s' S' x p => k m' f o r' l s' S' x (a _ _ p)) fun v d m' o r' l s' S' x hv p => r v d m' o r' l s' S' x hv (b _ _ p)
theorem WS.less {ss : List Stmt} {fr' : Fm} (h : WS C ss fr' own PN PR) (hf : ∀ x d, fr'.lookup x = some d → fr.lookup x = some d) : WS C ss fr own PN PR :=
  fun hc m ro sl s Q S k r => h hc m ro sl s Q ⟨S.F, S.N, S.nd, S.ap, S.apx, S.mxa, S.ow, fun x d e => S.nm x d (hf x d e), S.gens, S.drawn, S.os⟩ k r
theorem St.bare (S : St C m ro sl fr own s) : St C m ro sl [] own s := ⟨S.F, S.N, S.nd, S.ap, S.apx, S.mxa, S.ow, (fun _ _ e => nomatch e), S.gens, S.drawn, S.os⟩
theorem WT_ret {e : Expr} (h : WE C e fr own PR) : WT C (.Return (some e) pos) fr own PN PR := by
  intro hc m ro sl s Q S k r
  exact wpAny_Return_some (h m ro sl s _ S fun v d o r' l s' S' x hv hp => r v d m o r' l s' S'.bare x hv hp)
theorem WT_if {t : Expr} {a b : List Stmt} (h : WB C t fr own fun c o => if c = true then WS C a fr o PN PR else WS C b fr o PN PR) : WT C (.If t a b pos) fr own PN PR := by
  intro hc m ro sl s Q S k r
  refine wpAny_If (h m ro sl s _ S fun c o r1 l1 s1 S1 x1 h1 => ?_)
  have go : ∀ ss, WS C ss fr o PN PR → wpAny (model Pg C.w) C.A (execs ss C.env) Q NoE s1 := fun ss h1 =>
    h1 hc m r1 l1 s1 Q S1 (fun m2 f2 o2 r2 l2 s2 S2 x2 hp => k m2 f2 o2 r2 l2 s2 S2 (x1.trans x2) hp) fun v d m2 o2 r2 l2 s2 S2 x2 hv hp => r v d m2 o2 r2 l2 s2 S2 (x1.trans x2) hv hp
  cases c with
  | true => exact go a h1
  | false => exact go b h1
noncomputable def noComp : Expr → Bool
  | .ListComp .. => false
  | .SetComp .. => false
  | .DictComp .. => false
  | _ => true
theorem swaps_plain {e : Expr} {t : Option Expr} {n : Nat} {env : Env} (h : noComp e = true) : swapsWith e t n env = pure false := by
  cases e <;> first | rfl | (cases h)
theorem WT_expr {e : Expr} (h : WE C e fr own fun _ o => PN fr o) (hn : noComp e = true := by rfl) : WT C (.Expr e pos) fr own PN PR := by
  intro hc m ro sl s Q S k r
  refine wpAny_Expr_any (h m ro sl s _ S fun v d o r' l s' S' x hv hp => k m fr o r' l s' S' x hp) ?_ (swaps_plain hn)
  unfold interactive
  rw [C.ek]
  rfl
theorem lookup_cons_self {x : Str} {d : V} : ((x, d) :: fr).lookup x = some d := by rw [List.lookup_cons, beq_self_eq_true]
theorem lookup_cons_ne {x y : Str} {d : V} (h : y ≠ x) : ((x, d) :: fr).lookup y = fr.lookup y := by rw [List.lookup_cons, beq_eq_false_iff_ne.mpr h]
theorem St.store {x : Str} {v : Value} {d : V} {Q : Unit → Shared → Prop} (S : St C m ro sl fr own s) (hc : C.cm = none) (hx : sc.names.lookup x = some .local) (hv : VIn C.w ro (adr sl) v d) (hd : d.isCel = false)
    (h : ∀ m' s', St C m' ro sl ((x, d) :: fr) own s' → Q () s') : wpAny (model Pg C.w) C.A (storeName C.env x v) Q NoE s := by
  have hl : C.env.locals = C.L := by have := C.loc; rw [hc] at this; exact this
  have hn := S.F.ns
  refine wpAny_storeName_local ((C.kof x).trans hx) (hl ▸ hn) (fun h' hn' hs => ?_) (by rw [C.ek]; rfl)
  rw [hl] at hn' hs
  have F' := S.F.set hn' hs
  refine h _ _ ⟨F', S.N.set hs, S.nd, S.ap, S.apx, S.mxa, S.ow, fun y d' e => ?_, S.gens, S.drawn, S.os⟩
  by_cases hy : y = x
  · subst hy
    rw [lookup_cons_self] at e
    cases e
    refine ⟨v, ?_, hv⟩
    unfold NmD
    rw [hd]
    exact .inl ⟨hx, by rw [hc]; exact if_pos rfl⟩
  · rw [lookup_cons_ne hy] at e
    obtain ⟨u, a, b⟩ := S.nm y d' e
    refine ⟨u, ?_, b⟩
    unfold NmD at a ⊢
    cases hd' : d'.isCel with
    | true => rw [hd'] at a; exact a
    | false =>
      rw [hd'] at a
      refine a.imp (fun z => ⟨z.1, ?_⟩) id
      rw [hc] at z ⊢
      exact (if_neg hy).trans z.2
theorem WT_assign {e : Expr} {x : Str} {px : Pos} (h : WE C e fr own fun d o => d.isCel = false ∧ PN ((x, d) :: fr) o) (hx : sc.names.lookup x = some .local := by rfl) (hn : noComp e = true := by rfl) : WT C (.Assign [.Name x px] e pos) fr own PN PR := by
  intro hc m ro sl s Q S k r
  refine wpAny_Assign_Name (h m ro sl s _ S fun v d o r1 l1 s1 S1 x1 hv hp => ?_) (swaps_plain hn)
  exact S1.store hc hx hv hp.1 fun m' s' S' => k m' _ o r1 l1 s' S' x1 hp.2
noncomputable def stored : List Str → List V → Fm → Fm
  | x :: xs, d :: ds, fr => stored xs ds ((x, d) :: fr)
  | _, _, fr => fr
theorem St.stores {Q : Unit → Shared → Prop} {f : Str → Value → Sem Unit} (hf : ∀ x v Q s, wpAny (model Pg C.w) C.A (storeName C.env x v) Q NoE s → wpAny (model Pg C.w) C.A (f x v) Q NoE s) (hc : C.cm = none) : ∀ {xs : List Str} {vs : List Value} {ds : List V} {fr : Fm} {m} {s : Shared}, St C m ro sl fr own s → (∀ x ∈ xs, sc.names.lookup x = some .local) → VIns C.w ro (adr sl) vs ds → (∀ d ∈ ds, d.isCel = false) → xs.length = ds.length →
    (∀ m' s', St C m' ro sl (stored xs ds fr) own s' → Q () s') → wpAny (model Pg C.w) C.A (assignInOrder (xs.map f) vs) Q NoE s
  | [], _, [], _, _, _, S, _, _, _, _, h => assignInOrder_nil (h _ _ S)
  | [], _, _ :: _, _, _, _, _, _, _, _, e, _ => by cases e
  | _ :: _, _, [], _, _, _, _, _, _, _, e, _ => by cases e
  | x :: xs, _, d :: ds, fr, m, s, S, hx, hv, hd, e, h => by
    obtain ⟨v, r, rfl, a, b⟩ := hv
    exact assignInOrder_cons (hf x v _ s (S.store hc (hx x (.head _)) a (hd d (.head _)) fun m' s' S' => St.stores hf hc S' (fun y hy => hx y (.tail _ hy)) b (fun y hy => hd y (.tail _ hy)) (by simpa using e) h))
theorem WT_swap {es : List Expr} {xs : List Str} {elts : List Expr} {k1 k2} {tpos vpos : Pos} (h : WEs C es fr own fun ds o => xs.length = ds.length ∧ ds.length ≤ 1000 ∧ (∀ d ∈ ds, d.isCel = false) ∧ PN (stored xs.reverse ds.reverse fr) o)
    (hsw : ∀ env : Env, env.scope = sc → swappedStores [.Tuple elts k1 tpos] (.Tuple es k2 vpos) env = pure (some xs)) (hx : ∀ x ∈ xs, sc.names.lookup x = some .local) : WT C (.Assign [.Tuple elts k1 tpos] (.Tuple es k2 vpos) pos) fr own PN PR := by
  intro hc m ro sl s Q S k r
  refine Assign_Tuple_swapped (names := xs) (Tuple_ (h vpos m ro sl s _ S fun vs ds o r1 l1 s1 S1 x1 hvs hp => ?_)) (by rfl) (hsw _ C.hsc)
  obtain ⟨hz, hz2, hd, hp⟩ := hp
  have lenV : ∀ {vs : List Value} {ds : List V}, VIns C.w r1 (adr l1) vs ds → vs.length = ds.length := by
    intro vs ds
    induction ds generalizing vs with
    | nil => intro h; rw [show vs = [] from h]; rfl
    | cons d ds ih => rintro ⟨v, r, rfl, a, b⟩; simp [ih b]
  have hl := lenV hvs
  refine kup_newTuple S1.F S1.N (fun D' h' F' N' l => ?_) (by rw [hl, sizeLine_eq]; omega)
  have S2 := S1.push (tk := s1.toks) F' N' l
  refine unpackItemsN_ S2.F S2.N ⟨_, (N' _ (.head _)).1, rfl, _, rfl⟩ C.hh (by simp [hl, hz]) fun h2 F2 N2 => ?_
  have S3 := S2.same (tk := s1.toks) F2 N2
  have hrev : ∀ {vs : List Value} {ds : List V}, VIns C.w r1 (adr l1) vs ds → VIns C.w r1 (adr l1) vs.reverse ds.reverse := by
    have app : ∀ {as : List V} {bs : List V} {vs us : List Value}, VIns C.w r1 (adr l1) vs as → VIns C.w r1 (adr l1) us bs → VIns C.w r1 (adr l1) (vs ++ us) (as ++ bs) := by
      intro as
      induction as with
      | nil => intro bs vs us h k; rw [show vs = [] from h]; exact k
      | cons a as ih => rintro bs vs us ⟨v, r, rfl, x, y⟩ k; exact ⟨v, _, rfl, x, ih y k⟩
    intro vs ds
    induction ds generalizing vs with
    | nil => intro h; rw [show vs = [] from h]; exact rfl
    | cons d ds ih =>
      rintro ⟨v, r, rfl, a, b⟩
      rw [List.reverse_cons, List.reverse_cons]
      exact app (ih b) ⟨v, [], rfl, a, rfl⟩
  exact St.stores (f := fun n => bindName C.env n) (fun x v Q s h => bindName_ h) hc S3 (fun x hx' => hx x (by simpa using hx')) (by simpa using (Ext.push (sl := l1)).vs (hrev hvs)) (fun d hd' => hd d (by simpa using hd')) (by simpa using hz) fun m' s' S' => k m' _ o _ l1 s' S' (x1.trans .push) hp
end
end
section
open PySem PySem.W PyProof.Rows
noncomputable def rowsOf (n : Nat) (own : List MO) : List Nat → Option (List PyData)
  | [] => some []
  | k :: ks => if k < n then none else match own[k]?, rowsOf n own ks with
    | some (.lst l), some xs => some (.list l :: xs)
    | _, _ => none
noncomputable def V.frz0 (n : Nat) (own : List MO) : V → V
  | .slot k => if k < n then .slot k else match own[k]? with
    | some (.lst l) => .d (.list l)
    | some (.dI l) => .dI l
    | some (.refs ks) => (match rowsOf n own ks with
      | some xs => .d (.list xs)
      | none => .slot k)
    | _ => .slot k
  | v => v
noncomputable def Fs.frz (n : Nat) (own : List MO) : Fs → Fs
  | .nil => .nil
  | .cons x v r => .cons x (v.frz0 n own) (r.frz n own)
noncomputable def V.frz (n : Nat) (own : List MO) : V → V
  | .obj c k => if k < n then .obj c k else match own[k]? with
    | some (.flds fs) => .ins c (fs.frz n own)
    | _ => .obj c k
  | v => v.frz0 n own
noncomputable def MO.frz (n : Nat) (own : List MO) : MO → MO
  | .flds fs => .flds (fs.frz n own)
  | .refs ks => (match rowsOf n own ks with
    | some xs => .lst xs
    | none => .refs ks)
  | m => m
mutual
noncomputable def V.bd (n : Nat) : V → Bool
  | .slot k => Nat.blt k n
  | .cel k => Nat.blt k n
  | .obj _ k => Nat.blt k n
  | .ins _ fs => fs.bd n
  | _ => true
noncomputable def Fs.bd (n : Nat) : Fs → Bool
  | .nil => true
  | .cons _ v r => v.bd n && r.bd n
end
noncomputable def MO.bd (n : Nat) : MO → Bool
  | .flds fs => fs.bd n
  | .refs ks => ks.all fun k => Nat.blt k n
  | _ => true
theorem adle_take {ad : List Addr} {n k : Nat} {a : Addr} (h : ad[k]? = some a) (hk : Nat.blt k n = true) : (ad.take n)[k]? = some a := by
  rw [List.getElem?_take_of_lt (Nat.le_of_ble_eq_true hk)]; exact h
mutual
theorem VIn.cut {w : World} {ro : Ld} {ad : List Addr} {n : Nat} : ∀ (d : V) {v : Value}, VIn w ro ad v d → d.bd n = true → VIn w ro (ad.take n) v d
  | .d _, _, h, _ => h
  | .rng _, _, h, _ => h
  | .raw _, _, h, _ => h
  | .slot _, _, h, b => let ⟨a, e, m⟩ := h; ⟨a, e, adle_take m b⟩
  | .cel _, _, h, b => let ⟨a, e, m⟩ := h; ⟨a, e, adle_take m b⟩
  | .obj _ _, _, h, b => let ⟨x, dx, e, m, k⟩ := h; ⟨x, dx, e, m, adle_take k b⟩
  | .ins _ fs, _, h, b => let ⟨x, dx, es, n, e, m, k, r⟩ := h; ⟨x, dx, es, n, e, m, k, FIns'.cut fs r b⟩
  | .dI _, _, h, _ => h
  | .dS _, _, h, _ => h
theorem FIns'.cut {w : World} {ro : Ld} {ad : List Addr} {n : Nat} : ∀ (fs : Fs) {es}, FIns' w ro ad es fs → fs.bd n = true → FIns' w ro (ad.take n) es fs
  | .nil, _, h, _ => h
  | .cons _ u r, _, h, b => let ⟨t, v, es', e, x, y⟩ := h; ⟨t, v, es', e, VIn.cut u x (Bool.and_eq_true_iff.mp b).1, FIns'.cut r y (Bool.and_eq_true_iff.mp b).2⟩
end
theorem Refs.cut {ad : List Addr} {n : Nat} : ∀ {ks : List Nat} {vs : List Value}, Refs ad vs ks → (ks.all fun k => Nat.blt k n) = true → Refs (ad.take n) vs ks
  | [], _, h, _ => h
  | _ :: _, _, h, b => by
    rw [List.all_cons, Bool.and_eq_true] at b
    let ⟨a, r, e, m, k⟩ := h
    exact ⟨a, r, e, adle_take m b.1, Refs.cut k b.2⟩
theorem MoIn.cut {w : World} {ro : Ld} {ad : List Addr} {n : Nat} {x : Sl} : ∀ {mo : MO}, MoIn w ro ad x mo → mo.bd n = true → MoIn w ro (ad.take n) x mo
  | .dead, h, _ => h
  | .lst _, h, _ => h
  | .refs _, h, b => let ⟨vs, k, e, x, r⟩ := h; ⟨vs, k, e, x, r.cut b⟩
  | .flds fs, h, b => let ⟨es, k, e, x, r⟩ := h; ⟨es, k, e, x, FIns'.cut fs r b⟩
  | .dI _, h, _ => h
  | .cell, h, _ => h
section
variable {w : World} {ro : Ld} {sl : List Sl} {own : List MO} {n : Nat}
theorem adr_get {k : Nat} {x : Sl} (h : sl[k]? = some x) : (adr sl)[k]? = some x.a := by rw [List.getElem?_map, h]; rfl
theorem drop_mem {k : Nat} {x : Sl} (h : sl[k]? = some x) (hk : ¬ k < n) : ∀ p ∈ x.led, p ∈ slLd (sl.drop n) ++ ro := fun p hp =>
  List.mem_append_left _ (List.mem_flatMap.mpr ⟨x, List.mem_of_getElem? (i := k - n) (by rw [List.getElem?_drop]; rw [show n + (k - n) = k from by omega]; exact h), hp⟩)
theorem VIn.slotIs {v : Value} {k : Nat} {mo : MO} (O : Owns w ro (adr sl) sl own) (h : own[k]? = some mo) (hv : VIn w ro (adr sl) v (.slot k)) : ∃ x, v = .ref x.a ∧ sl[k]? = some x ∧ MoIn w ro (adr sl) x mo := by
  obtain ⟨x, hx, ho⟩ := O.get h
  obtain ⟨a, rfl, ha⟩ := hv
  refine ⟨x, ?_, hx, ho⟩
  rw [adr_get hx] at ha
  cases ha
  rfl
theorem mem_up : ∀ p ∈ ro, p ∈ slLd (sl.drop n) ++ ro := fun _ h => List.mem_append_right _ h
set_option tactic.hygienic true in
theorem Refs.frz (O : Owns w ro (adr sl) sl own) : ∀ {ks : List Nat} {vs : List Value} {xs : List PyData}, Refs (adr sl) vs ks → rowsOf n own ks = some xs → PIns (slLd (sl.drop n) ++ ro) vs xs
  | [], _, xs, h, e => by
    rw [rowsOf] at e
    cases e
    exact h
  | k :: ks, vs, xs, h, e => by
    obtain ⟨a, r, rfl, ha, hr⟩ := h
    rw [rowsOf] at e
    split at e
    · cases e
    rename_i hk
    split at e
    · rename_i l ys e1 e2
      cases e
      obtain ⟨x, e3, hx, us, c, eo, _, hl⟩ := VIn.slotIs (v := .ref a) O e1 ⟨a, rfl, ha⟩
      cases e3
      exact ⟨_, r, rfl, ⟨x.a, us, c, rfl, by have := drop_mem (ro := ro) hx hk _ (.head _); rwa [eo] at this, PIns.mono mem_up _ hl⟩, Refs.frz O hr e2⟩
    · cases e
set_option tactic.hygienic true in
theorem VIn.frz0 (O : Owns w ro (adr sl) sl own) : ∀ (d : V) {v : Value}, VIn w ro (adr sl) v d → VIn w (slLd (sl.drop n) ++ ro) (adr sl) v (d.frz0 n own) := by
  intro d v h
  have up : VIn w (slLd (sl.drop n) ++ ro) (adr sl) v d := VIn.mono mem_up AdLe.refl d h
  cases d with
  | slot k =>
    unfold V.frz0
    dsimp only
    split
    · exact up
    rename_i hk
    split
    · rename_i l e
      obtain ⟨x, rfl, hx, vs, c, eo, _, hl⟩ := VIn.slotIs O e h
      exact ⟨x.a, vs, c, rfl, by have := drop_mem (ro := ro) hx hk _ (.head _); rwa [eo] at this, PIns.mono mem_up _ hl⟩
    · rename_i l e
      obtain ⟨x, rfl, hx, xs, lo, _, hd, hk', hp⟩ := VIn.slotIs O e h
      exact ⟨x.a, xs, rfl, ⟨lo, x.o, drop_mem hx hk _ (.head _), hd, hk'.mono mem_up⟩, DPairs.mono mem_up _ hp⟩
    · rename_i ks e
      split
      · rename_i xs e2
        obtain ⟨x, rfl, hx, vs, c, eo, _, hl⟩ := VIn.slotIs O e h
        exact ⟨x.a, vs, c, rfl, by have := drop_mem (ro := ro) hx hk _ (.head _); rwa [eo] at this, hl.frz O e2⟩
      · exact up
    · exact up
  | _ => exact up
theorem FIns'.frz (O : Owns w ro (adr sl) sl own) : ∀ (fs : Fs) {es}, FIns' w ro (adr sl) es fs → FIns' w (slLd (sl.drop n) ++ ro) (adr sl) es (fs.frz n own)
  | .nil, _, h => h
  | .cons _ u r, _, h => let ⟨t, v, es', e, x, y⟩ := h; ⟨t, v, es', e, VIn.frz0 O u x, FIns'.frz O r y⟩
set_option tactic.hygienic true in
theorem VIn.frz (O : Owns w ro (adr sl) sl own) (d : V) {v : Value} (h : VIn w ro (adr sl) v d) : VIn w (slLd (sl.drop n) ++ ro) (adr sl) v (d.frz n own) := by
  cases d with
  | obj c k =>
    unfold V.frz
    dsimp only
    split
    · exact VIn.mono mem_up AdLe.refl _ h
    rename_i hk
    split
    · rename_i fs e
      obtain ⟨x, dx, rfl, hx, ha⟩ := h
      obtain ⟨y, e1, hy, es, c', eo, _, hf⟩ := VIn.slotIs (v := .ref dx) O e ⟨dx, rfl, ha⟩
      cases e1
      exact ⟨x, y.a, es, c', rfl, mem_up _ hx, by have := drop_mem (ro := ro) hy hk _ (.head _); rwa [eo] at this, FIns'.frz O fs hf⟩
    · exact VIn.mono mem_up AdLe.refl _ h
  | _ => exact VIn.frz0 O _ h
set_option tactic.hygienic true in
theorem MoIn.frz (O : Owns w ro (adr sl) sl own) {x : Sl} : ∀ {mo : MO}, MoIn w ro (adr sl) x mo → MoIn w (slLd (sl.drop n) ++ ro) (adr sl) x (mo.frz n own)
  | .flds fs, h => let ⟨es, k, e, x, r⟩ := h; ⟨es, k, e, x, FIns'.frz O fs r⟩
  | .dead, h => h
  | .lst l, h => MoIn.mono mem_up AdLe.refl (mo := .lst l) h
  | .refs ks, h => by
    unfold MO.frz
    dsimp only
    split
    · rename_i xs e
      obtain ⟨vs, k, e1, e2, r⟩ := h
      exact ⟨vs, k, e1, e2, r.frz O e⟩
    · exact MoIn.mono mem_up AdLe.refl (mo := .refs ks) h
  | .dI l, h => MoIn.mono mem_up AdLe.refl (mo := .dI l) h
  | .cell, h => h
end
noncomputable def exitO (n : Nat) (own : List MO) : List MO := (own.take n).map (MO.frz n own)
theorem Owns.exit {w : World} {ro : Ld} {ad : List Addr} {own0 : List MO} {sl0 : List Sl} {n0 : Nat} (k : ∀ {x : Sl} {mo : MO}, MoIn w ro ad x mo → MoIn w (slLd (sl0.drop n0) ++ ro) ad x (mo.frz n0 own0)) :
    ∀ {own : List MO} {sl : List Sl} {n : Nat}, Owns w ro ad sl own → ((own.take n).map (MO.frz n0 own0)).all (MO.bd n0) = true → Owns w (slLd (sl0.drop n0) ++ ro) (ad.take n0) (sl.take n) ((own.take n).map (MO.frz n0 own0))
  | [], _, n, h, _ => by rw [show _ = [] from h]; cases n <;> exact rfl
  | _ :: _, _, 0, _, _ => rfl
  | mo :: own, _, n + 1, h, b => by
    obtain ⟨x, sl', rfl, a, c⟩ := h
    rw [List.take_succ_cons, List.map_cons, List.all_cons, Bool.and_eq_true] at b
    exact ⟨x, sl'.take n, rfl, (k a).cut b.1, Owns.exit k c b.2⟩
theorem nodup_take_drop {sl : List Sl} {n i : Nat} {x : Sl} (h : ((slLd sl).map (·.1)).Nodup) (hx : (sl.take n)[i]? = some x) : ∀ p ∈ x.led, ∀ q ∈ slLd (sl.drop n), q.1 ≠ p.1 := by
  intro p hp q hq e
  have e1 : slLd sl = slLd (sl.take n) ++ slLd (sl.drop n) := by rw [slLd, slLd, slLd, ← List.flatMap_append, List.take_append_drop]
  rw [e1, List.map_append, List.nodup_append] at h
  exact h.2.2 p.1 (List.mem_map_of_mem (List.mem_flatMap.mpr ⟨x, List.mem_of_getElem? hx, hp⟩)) q.1 (List.mem_map_of_mem hq) e.symm
theorem frz_alive {n : Nat} {own : List MO} {mo : MO} (h : (mo.frz n own).alive = true) : mo.alive = true := by
  cases mo with
  | dead => cases h
  | _ => rfl
section
variable {sc : Scope} {D U : Nat} {C : Cx sc D U} {m : Str → Option Value} {ro : Ld} {sl : List Sl} {fr : Fm} {own : List MO} {s : Shared}
theorem slLd_sub {n : Nat} : ∀ p ∈ slLd (sl.take n), p ∈ slLd sl := fun _ hp => by
  obtain ⟨x, hx, h⟩ := List.mem_flatMap.mp hp
  exact List.mem_flatMap.mpr ⟨x, List.mem_of_mem_take hx, h⟩
theorem slLd_sub' {n : Nat} : ∀ p ∈ slLd (sl.drop n), p ∈ slLd sl := fun _ hp => by
  obtain ⟨x, hx, h⟩ := List.mem_flatMap.mp hp
  exact List.mem_flatMap.mpr ⟨x, List.mem_of_mem_drop hx, h⟩
theorem St.exit (n : Nat) (S : St C m ro sl fr own s) (hb : (exitO n own).all (MO.bd n) = true) : St C m (slLd (sl.drop n) ++ ro) (sl.take n) [] (exitO n own) s where
  F := S.F
  N := fun p hp => S.N p (by
    simp only [List.mem_append] at hp ⊢
    rcases hp with h | (h | h) | h
    · exact .inl (slLd_sub p h)
    · exact .inl (slLd_sub' p h)
    · exact .inr (.inl h)
    · exact .inr (.inr h))
  nd := by
    have e1 : slLd sl = slLd (sl.take n) ++ slLd (sl.drop n) := by rw [slLd, slLd, slLd, ← List.flatMap_append, List.take_append_drop]
    have := S.nd
    rw [e1, List.map_append, List.nodup_append] at this
    exact this.1
  ap := fun i x mo hx ho hl p hp q hq => by
    have hi : i < n := by have := (List.getElem?_eq_some_iff.mp hx).1; rw [List.length_take] at this; omega
    unfold exitO at ho
    rw [List.getElem?_map, List.getElem?_take_of_lt hi] at ho
    cases h0 : own[i]? with
    | none => rw [h0] at ho; cases ho
    | some mo0 =>
      rw [h0] at ho
      cases ho
      have hx' : sl[i]? = some x := by rw [List.getElem?_take_of_lt hi] at hx; exact hx
      rcases List.mem_append.mp hq with h | h
      · exact nodup_take_drop S.nd hx p hp q h
      · exact S.ap i x mo0 hx' h0 (frz_alive hl) p hp q h
  apx := fun p hp => S.apx p (slLd_sub p hp)
  mxa := fun q hq p hp => by
    rcases List.mem_append.mp hq with h | h
    · exact Ne.symm (S.apx q (slLd_sub' q h) p (C.hmx p hp))
    · exact S.mxa q h p hp
  ow := by
    have := Owns.exit (n := n) (n0 := n) (own0 := own) (sl0 := sl) (fun {x mo} h => MoIn.frz S.ow h) S.ow hb
    rw [show adr (sl.take n) = (adr sl).take n from by rw [adr, adr, List.map_take]]
    exact this
  nm := fun _ _ e => nomatch e
  gens := S.gens
  drawn := S.drawn
  os := S.os
theorem St.exitV (n : Nat) (S : St C m ro sl fr own s) {v : Value} {d : V} (hv : VIn C.w ro (adr sl) v d) (hb : (d.frz n own).bd n = true) : VIn C.w (slLd (sl.drop n) ++ ro) (adr (sl.take n)) v (d.frz n own) := by
  rw [show adr (sl.take n) = (adr sl).take n from by rw [adr, adr, List.map_take]]
  exact VIn.cut _ (VIn.frz S.ow d hv) hb
theorem Ext.exit {n : Nat} {r0 : Ld} {l0 : List Sl} (x : Ext r0 l0 ro sl) (h : l0.length ≤ n) : Ext r0 l0 (slLd (sl.drop n) ++ ro) (sl.take n) :=
  ⟨fun p hp => List.mem_append_right _ (x.ro p hp), fun k a hk => by
    have := x.ad k a hk
    have hl : k < n := Nat.lt_of_lt_of_le (by simpa using (List.getElem?_eq_some_iff.mp hk).1) h
    rw [show adr (sl.take n) = (adr sl).take n from by rw [adr, adr, List.map_take], List.getElem?_take_of_lt hl]
    exact this⟩
end
end
section
open PySem PySem.W PyProof.Rows
section
variable {sc : Scope} {D U : Nat} {C : Cx sc D U} {m : Str → Option Value} {ro : Ld} {sl : List Sl} {fr : Fm} {own : List MO} {s : Shared} {pos : Pos} {P : V → List MO → Prop}
structure Ex (n : Nat) (P : V → List MO → Prop) (d : V) (own : List MO) : Prop where
  hv : (d.frz n own).bd n = true
  ho : (exitO n own).all (MO.bd n) = true
  hn : n ≤ own.length
  hp : P (d.frz n own) (exitO n own)
theorem frame_lookup {w : World} {ad : List Addr} : ∀ {xs : List Str} {ds : List V} {vs : List Value}, VIns w ro ad vs ds → ∀ {x : Str} {d : V}, (xs.zip ds).lookup x = some d → ∃ v, (xs.zip vs).lookup x = some v ∧ VIn w ro ad v d
  | [], _, _, _, _, _, e => by simp at e
  | _ :: _, [], _, _, _, _, e => by simp at e
  | y :: xs, d :: ds, _, h, x, d', e => by
    obtain ⟨v, r, rfl, a, b⟩ := h
    rw [List.zip_cons_cons, List.lookup_cons] at e
    rw [List.zip_cons_cons, List.lookup_cons]
    by_cases hx : x = y
    · subst hx; rw [beq_self_eq_true] at e ⊢; cases e; exact ⟨v, rfl, a⟩
    · rw [beq_eq_false_iff_ne.mpr hx] at e ⊢; exact frame_lookup b e
theorem lookup_append {β : Type} {x : Str} {v : β} : ∀ {l r : List (Str × β)}, l.lookup x = some v → (l ++ r).lookup x = some v
  | [], _, e => by simp at e
  | (y, u) :: l, r, e => by
    rw [List.cons_append, List.lookup_cons]
    rw [List.lookup_cons] at e
    cases hx : x == y with
    | true => rw [hx] at e; exact e
    | false => rw [hx] at e; exact lookup_append e
theorem lookup_append_none {β : Type} {x : Str} : ∀ {l r : List (Str × β)}, l.lookup x = none → (l ++ r).lookup x = r.lookup x
  | [], _, _ => rfl
  | (y, u) :: l, r, e => by
    rw [List.cons_append, List.lookup_cons]
    rw [List.lookup_cons] at e
    cases hx : x == y with
    | true => rw [hx] at e; cases e
    | false => rw [hx] at e; exact lookup_append_none e
theorem lookup_mem {β : Type} {x : Str} {v : β} : ∀ {l : List (Str × β)}, l.lookup x = some v → x ∈ l.map (·.1)
  | [], e => by simp at e
  | (y, u) :: l, e => by
    rw [List.lookup_cons] at e
    cases hx : x == y with
    | true => rw [eq_of_beq hx]; exact .head _
    | false => rw [hx] at e; exact .tail _ (lookup_mem e)
theorem lookup_none {β : Type} {x : Str} : ∀ {l : List (Str × β)}, x ∉ l.map (·.1) → l.lookup x = none
  | [], _ => rfl
  | (y, u) :: l, h => by
    have hx : x ≠ y := fun e => h (by rw [e]; exact .head _)
    rw [List.lookup_cons, beq_eq_false_iff_ne.mpr hx]
    exact lookup_none fun q => h (.tail _ q)
theorem lookup_rev {β : Type} {x : Str} {v : β} : ∀ {l : List (Str × β)}, (l.map (·.1)).Nodup → l.lookup x = some v → l.reverse.lookup x = some v
  | [], _, e => by simp at e
  | (y, u) :: l, hn, e => by
    rw [List.map_cons, List.nodup_cons] at hn
    rw [List.reverse_cons]
    rw [List.lookup_cons] at e
    cases hx : x == y with
    | true =>
      rw [hx] at e
      cases eq_of_beq hx
      rw [lookup_append_none (lookup_none fun q => hn.1 (by simpa using q))]
      simpa using e
    | false =>
      rw [hx] at e
      exact lookup_append (lookup_rev hn.2 e)
theorem VIns.len {w : World} {ad : List Addr} : ∀ {ds : List V} {vs : List Value}, VIns w ro ad vs ds → vs.length = ds.length
  | [], vs, h => by rw [show vs = [] from h]; rfl
  | _ :: _, _, h => by obtain ⟨v, r, rfl, a, b⟩ := h; simp [b.len]
theorem zip_keys {β : Type} : ∀ {xs : List Str} {vs : List β}, xs.length = vs.length → (xs.zip vs).map (·.1) = xs
  | [], [], _ => rfl
  | x :: xs, v :: vs, h => by rw [List.zip_cons_cons, List.map_cons, zip_keys (by simpa using h)]
  | [], _ :: _, h => by cases h
  | _ :: _, [], h => by cases h
noncomputable abbrev Cx.into (C : Cx sc (D + 1) (U + 3)) (scope : Scope) (qual : Str) (L' f : Addr) (cdv : Value) (g : Heap) (hk : scope.kind = .function) (B : Below C.A C.base (C.fenv :: C.outer) g) (X : (KF C.w).In g) (T : Top hd.view_39 (looseW hd.view_39 []) C.mean C.mg C.mb g) : Cx scope D U where
  w := C.w
  A := C.A.deeper (envOf qual scope L' f cdv)
  env := envOf qual scope L' f cdv
  fenv := envOf qual scope L' f cdv
  outer := C.fenv :: C.outer
  A₀ := C.A
  base := C.base
  h₀ := g
  L := L'
  mean := C.mean
  mg := C.mg
  mb := C.mb
  fx := C.fx
  mx := C.mx
  hmx := C.hmx
  cm := none
  gens := C.gens
  drawn := C.drawn
  os := C.os
  hh := C.hh
  hA := by show C.A.frames.map _ = _; rw [C.hA]; rfl
  hf := rfl
  hfk := hk
  hsc := rfl
  hk := hk
  B := B
  X := X
  T := T
  room := by have := C.room; show C.A.depth + 1 + D < _; omega
  units := by have := C.units; show C.A.units + 3 + U < _; omega
  glob := rfl
  bui := rfl
  loc := rfl
structure DefAt (w : World) (f : Addr) (xs : List Str) (body : List Stmt) (scope : Scope) : Prop where
  at_ : ∃ name qual params dV kV doc pm cdv ct oc an od osl, (KF w).lookup f = some ⟨oc, od, .func (fnOf name qual params body scope dV kV doc pm an cdv ct), osl⟩ ∧ codeIn (KF w) cdv qual = true ∧
    ∀ s vs, vs.length = xs.length → BindsTo s (fnOf name qual params body scope dV kV doc pm an cdv ct) ⟨vs, []⟩ (xs.zip vs)
  nd : xs.Nodup
  loc : ∀ x ∈ xs, scope.names.lookup x = some .local
  co : scope.isCoroutine = false
  gen : scope.isGenerator = false
  kind : scope.kind = .function
  cell : ∀ x ∈ scope.names, x.2 ≠ .cell
theorem zip_lookup_mem {β : Type} {x : Str} {d : β} : ∀ {xs : List Str} {ds : List β}, (xs.zip ds).lookup x = some d → d ∈ ds
  | [], _, e => by simp at e
  | _ :: _, [], e => by simp at e
  | y :: xs, d' :: ds, e => by
    rw [List.zip_cons_cons, List.lookup_cons] at e
    cases hx : x == y with
    | true => rw [hx] at e; cases e; exact .head _
    | false => rw [hx] at e; exact .tail _ (zip_lookup_mem e)
theorem FnG.enter {H : Heap → Prop} {N : Nat} {w : World} {f : Addr} {ds : List V} {xs : List Str} {body : List Stmt} {scope : Scope} (df : DefAt w f xs body scope) (hn : xs.length = ds.length) (hcel : (ds.all fun d => !d.isCel) = true) (hN : own.length ≤ N) (mono : ∀ h h', H h → h.StaysIn h' → H h')
    (h : ∀ C : Cx scope D U, C.w = w → H C.h₀ → WS C body (xs.zip ds) own (fun _ o => Ex N P (.d .none) o) (Ex N P)) : FnG H N w f (D + 1) (U + 3) ds own P := by
  intro sc C hw hH m ro sl s vs Q S hv k
  obtain ⟨⟨name, qual, params, dV, kV, doc, pm, cdv, ct, oc, an, od, osl, ho, hcd, hb⟩, nd, hl, co, gen, kind, cell⟩ := df
  subst hw
  have hvl := hv.len
  have hkeys := zip_keys (xs := xs) (vs := vs) (by omega)
  refine code_def C.B S.F C.X S.N C.T C.hA C.hf C.hfk ho hcd (by have := C.room; omega) (hb s vs (by omega)) (fun y hy => hl _ (by rw [← hkeys]; exact List.mem_map_of_mem hy)) (fun g L' h₁ FG F' N' B' X' T' => ?_) co gen kind cell
  have S' : St (C.into scope qual L' f cdv g kind B' X' T') _ ro sl (xs.zip ds) own { s with heap := h₁, toks := s.toks + (xs.zip vs).length } :=
    ⟨F', N', S.nd, S.ap, S.apx, S.mxa, S.ow, fun x d e => by
      obtain ⟨v, hv1, hv2⟩ := frame_lookup hv e
      have hx := lookup_mem hv1
      rw [hkeys] at hx
      refine ⟨v, ?_, hv2⟩
      unfold NmD
      have hd : d.isCel = false := by simpa using List.all_eq_true.mp hcel d (zip_lookup_mem e)
      rw [hd]
      exact .inl ⟨hl x hx, lookup_rev (by rw [hkeys]; exact nd) hv1⟩, S.gens, S.drawn, S.os⟩
  have fin : ∀ v d m' fr' own' ro' sl' s', St (C.into scope qual L' f cdv g kind B' X' T') m' ro' sl' fr' own' s' → Ext ro sl ro' sl' → VIn C.w ro' (adr sl') v d → Ex N P d own' →
      LeaveK C.h₀ C.L m g (fun r s' => match r with | .ok (.ret v) => Q v s' | .ok _ => False | .error _ => False) v s' := by
    rintro v d m' fr' own' ro' sl' s' S1 x1 hv1 ⟨h1, h2, h3, hp⟩
    have S2 := S1.exit N h2
    refine leaveK_ S2.F S2.N fun F N' => ?_
    refine k v _ _ _ _ s' ⟨F, N', S2.nd, S2.ap, S2.apx, S2.mxa, S2.ow, (fun _ _ e => nomatch e), S2.gens, S2.drawn, S2.os⟩ (x1.exit (by rw [S.ow.len]; exact hN)) ?_ (S1.exitV N hv1 h1) hp
    unfold exitO
    rw [List.length_map, List.length_take]
    exact Nat.min_eq_left h3
  exact wpAny_mono (h (C.into scope qual L' f cdv g kind B' X' T') rfl (mono _ _ hH FG.keep) rfl _ ro sl _ (fun fl s' => LeaveK C.h₀ C.L m g _ (match fl with | .ret v => v | _ => .none) s') S' (fun m' fr' own' ro' sl' s' S1 x1 hp => fin .none (.d .none) m' fr' own' ro' sl' s' S1 x1 rfl hp) fun v d m' own' ro' sl' s' S1 x1 hv1 hp => fin v d m' [] own' ro' sl' s' S1 x1 hv1 hp) (fun _ _ z => z) fun _ _ z => z.elim
theorem Fn.enter {w : World} {f : Addr} {ds : List V} {xs : List Str} {body : List Stmt} {scope : Scope} (df : DefAt w f xs body scope) (hn : xs.length = ds.length) (hcel : (ds.all fun d => !d.isCel) = true)
    (h : ∀ C : Cx scope D U, C.w = w → WS C body (xs.zip ds) own (fun _ o => Ex own.length P (.d .none) o) (Ex own.length P)) : Fn w f (D + 1) (U + 3) ds own P :=
  fun C hw m ro sl s vs Q S hv k => @FnG.enter D U own P (fun _ => True) own.length w f ds xs body scope df hn hcel (Nat.le_refl _) (fun _ _ h _ => h) (fun C hw _ => h C hw) _ C hw trivial m ro sl s vs Q S hv k
theorem FnLe {w : World} {f : Addr} {D' U' : Nat} {ds : List V} (h : Fn w f D' U' ds own P) (hD : Nat.ble D' D = true) (hU : Nat.ble U' U = true) : Fn w f D U ds own P := by
  have h1 := Nat.le_of_ble_eq_true hD
  have h2 := Nat.le_of_ble_eq_true hU
  intro sc C hw m ro sl s vs Q S hv k
  let C' : Cx sc D' U' := { C with room := by have := C.room; omega, units := by have := C.units; omega }
  have go : ∀ {m ro sl fr own s}, St C m ro sl fr own s → St C' m ro sl fr own s := fun S => ⟨S.F, S.N, S.nd, S.ap, S.apx, S.mxa, S.ow, S.nm, S.gens, S.drawn, S.os⟩
  exact h C' hw m ro sl s vs Q (go S) hv fun v d o r l s' S' => k v d o r l s' ⟨S'.F, S'.N, S'.nd, S'.ap, S'.apx, S'.mxa, S'.ow, S'.nm, S'.gens, S'.drawn, S'.os⟩
noncomputable def WCall (C : Cx sc D U) (f : Addr) (ds : List V) (fr : Fm) (own : List MO) (P : V → List MO → Prop) : Prop :=
  ∀ m ro sl s Q vs, St C m ro sl fr own s → VIns C.w ro (adr sl) vs ds → Kv C m ro sl fr Q P → wpAny (model Pg C.w) C.A (call (.ref f) vs) Q NoE s
noncomputable abbrev Cx.more (C : Cx sc D U) (l k : Ld) (hk : ∀ p ∈ k, p ∈ l) : Cx sc D U :=
  { C with
    fx := l ++ C.fx
    mx := k ++ C.mx
    hmx := fun p hp => (List.mem_append.mp hp).elim (fun h => List.mem_append_left _ (hk p h)) fun h => List.mem_append_right _ (C.hmx p h)
    loc := by
      have h := C.loc
      cases hc : C.cm with
      | none => rw [hc] at h; exact h
      | some cm => rw [hc] at h; obtain ⟨o, a, b⟩ := h; exact ⟨o, List.mem_append_right _ a, b⟩ }
noncomputable def aliveLd : List Sl → List MO → Ld
  | x :: sl, mo :: own => (if mo.alive = true then x.led else []) ++ aliveLd sl own
  | _, _ => []
theorem aliveLd_sub : ∀ {sl : List Sl} {own : List MO}, ∀ p ∈ aliveLd sl own, p ∈ slLd sl
  | [], _, _, h => by unfold aliveLd at h; cases h
  | _ :: _, [], _, h => by unfold aliveLd at h; cases h
  | x :: sl, mo :: own, p, h => by
    unfold aliveLd at h
    rcases List.mem_append.mp h with h | h
    · split at h
      · exact List.mem_append_left _ h
      · cases h
    · exact List.mem_append_right _ (aliveLd_sub p h)
theorem aliveLd_get : ∀ {sl : List Sl} {own : List MO}, ∀ p ∈ aliveLd sl own, ∃ (i : Nat) (x : Sl) (mo : MO), sl[i]? = some x ∧ own[i]? = some mo ∧ mo.alive = true ∧ p ∈ x.led
  | [], _, _, h => by unfold aliveLd at h; cases h
  | _ :: _, [], _, h => by unfold aliveLd at h; cases h
  | x :: sl, mo :: own, p, h => by
    unfold aliveLd at h
    rcases List.mem_append.mp h with h | h
    · split at h
      · exact ⟨0, x, mo, rfl, rfl, by assumption, h⟩
      · cases h
    · obtain ⟨i, y, mo', a, b, c⟩ := aliveLd_get p h
      exact ⟨i + 1, y, mo', by simpa using a, by simpa using b, c⟩
theorem aliveLd_of : ∀ {sl : List Sl} {own : List MO} {i : Nat} {x : Sl} {mo : MO}, sl[i]? = some x → own[i]? = some mo → mo.alive = true → ∀ p ∈ x.led, p ∈ aliveLd sl own
  | [], _, _, _, _, h, _, _, _, _ => by simp at h
  | _ :: _, [], _, _, _, _, h, _, _, _ => by simp at h
  | x :: sl, mo :: own, 0, y, mo', h, k, hl, p, hp => by
    simp at h k
    subst h k
    unfold aliveLd
    rw [if_pos hl]
    exact List.mem_append_left _ hp
  | x :: sl, mo :: own, i + 1, y, mo', h, k, hl, p, hp => by
    unfold aliveLd
    exact List.mem_append_right _ (aliveLd_of (by simpa using h) (by simpa using k) hl p hp)
theorem St.fxs {ro : Ld} {sl1 sl2 : List Sl} {own1 own2 : List MO} (S : St C m ro (sl1 ++ sl2) fr (own1 ++ own2) s) (hb : own1.all (MO.bd own1.length) = true) (hl : sl1.length = own1.length) : St (C.more (slLd sl2) (aliveLd sl2 own2) aliveLd_sub) m ro sl1 [] own1 s := by
  have e1 : slLd (sl1 ++ sl2) = slLd sl1 ++ slLd sl2 := List.flatMap_append
  have nd := S.nd
  rw [e1, List.map_append, List.nodup_append] at nd
  have ow : ∀ {own1 : List MO} {sl1 : List Sl} {ad : List Addr} {n : Nat}, Owns C.w ro ad (sl1 ++ sl2) (own1 ++ own2) → sl1.length = own1.length → own1.all (MO.bd n) = true → Owns C.w ro (ad.take n) sl1 own1 := by
    intro own1
    induction own1 with
    | nil => intro sl1 ad n _ e _; exact List.length_eq_zero_iff.mp e
    | cons mo own1 ih =>
      intro sl1 ad n h e b
      cases sl1 with
      | nil => cases e
      | cons x sl1 =>
        obtain ⟨y, sl', q, a, c⟩ := h
        cases q
        rw [List.all_cons, Bool.and_eq_true] at b
        exact ⟨x, sl1, rfl, a.cut b.1, ih c (by simpa using e) b.2⟩
  exact
    { F := S.F
      N := fun p hp => S.N p (by
        rw [e1]
        simp only [List.mem_append] at hp ⊢
        rcases hp with h | h | h | h
        · exact .inl (.inl h)
        · exact .inr (.inl h)
        · exact .inl (.inr h)
        · exact .inr (.inr h))
      nd := nd.1
      ap := fun i x mo hx ho hal p hp q hq => by
        have hx' : (sl1 ++ sl2)[i]? = some x := by rw [List.getElem?_append_left (List.getElem?_eq_some_iff.mp hx).1]; exact hx
        have ho' : (own1 ++ own2)[i]? = some mo := by rw [List.getElem?_append_left (List.getElem?_eq_some_iff.mp ho).1]; exact ho
        exact S.ap i x mo hx' ho' hal p hp q hq
      apx := fun p hp q hq => by
        rcases List.mem_append.mp hq with h | h
        · exact fun e => nd.2.2 p.1 (List.mem_map_of_mem hp) q.1 (List.mem_map_of_mem h) e.symm
        · exact S.apx p (by rw [e1]; exact List.mem_append_left _ hp) q h
      mxa := fun q hq p hp => by
        rcases List.mem_append.mp hp with h | h
        · obtain ⟨i, x, mo, a, b, c, d⟩ := aliveLd_get p h
          exact S.ap (sl1.length + i) x mo (by rw [List.getElem?_append_right (by omega)]; simpa using a) (by rw [List.getElem?_append_right (by omega), hl]; simpa using b) c p d q hq
        · exact S.mxa q hq p h
      ow := by
        have := ow (n := own1.length) S.ow hl hb
        rw [show (adr (sl1 ++ sl2)).take own1.length = adr sl1 from by rw [adr, List.map_append, List.take_append_of_le_length (by simp [hl]), List.take_of_length_le (by simp [hl])]] at this
        exact this
      nm := fun _ _ e => nomatch e
      gens := S.gens
      drawn := S.drawn
      os := S.os }
theorem Owns.app {w : World} {ro : Ld} {ad : List Addr} {own2 : List MO} {sl2 : List Sl} (h2 : Owns w ro ad sl2 own2) : ∀ {own1 : List MO} {sl1 : List Sl}, Owns w ro ad sl1 own1 → Owns w ro ad (sl1 ++ sl2) (own1 ++ own2)
  | [], _, h => by rw [show _ = [] from h]; exact h2
  | _ :: _, _, h => by obtain ⟨x, sl', rfl, a, b⟩ := h; exact ⟨x, _, rfl, a, Owns.app h2 b⟩
theorem Owns.right {w : World} {ro : Ld} {ad : List Addr} {own2 : List MO} {sl2 : List Sl} : ∀ {own1 : List MO} {sl1 : List Sl}, sl1.length = own1.length → Owns w ro ad (sl1 ++ sl2) (own1 ++ own2) → Owns w ro ad sl2 own2
  | [], [], _, h => h
  | [], _ :: _, e, _ => by cases e
  | _ :: _, [], e, _ => by cases e
  | _ :: _, _ :: _, e, h => by obtain ⟨x, sl', q, a, b⟩ := h; cases q; exact Owns.right (by simpa using e) b
theorem VIns.cut {w : World} {ad : List Addr} {n : Nat} : ∀ {ds : List V} {vs : List Value}, VIns w ro ad vs ds → ds.all (V.bd n) = true → VIns w ro (ad.take n) vs ds
  | [], _, h, _ => h
  | d :: _, _, h, b => by
    obtain ⟨v, r, rfl, x, y⟩ := h
    rw [List.all_cons, Bool.and_eq_true] at b
    exact ⟨v, r, rfl, VIn.cut d x b.1, VIns.cut y b.2⟩
theorem adle_len {a b : List Addr} (h : AdLe a b) (hl : a.length = b.length) : a = b := by
  refine List.ext_getElem? fun k => ?_
  cases ha : a[k]? with
  | some x => exact (h k x ha).symm
  | none =>
    rw [List.getElem?_eq_none_iff] at ha
    rw [List.getElem?_eq_none (by omega)]
theorem WCall_of {f : Addr} {ds : List V} {D' U' : Nat} {own1 own2 : List MO} {P' : V → List MO → Prop} (h : ∀ w, Fn w f D' U' ds own1 P') (k : ∀ d o, o.length = own1.length → P' d o → P d (o ++ own2)) (ho : own = own1 ++ own2) (hD : Nat.ble D' D = true) (hU : Nat.ble U' U = true) (hb : own1.all (MO.bd own1.length) = true) (hb2 : ds.all (V.bd own1.length) = true) :
    WCall C f ds fr own P := by
  subst ho
  intro m ro sl s Q vs S hv q
  obtain ⟨sl1, sl2, rfl, hl⟩ : ∃ sl1 sl2, sl = sl1 ++ sl2 ∧ sl1.length = own1.length := ⟨sl.take own1.length, sl.drop own1.length, (List.take_append_drop ..).symm, by rw [List.length_take, S.ow.len]; simp⟩
  have S1 := S.fxs hb hl
  have eA : (adr (sl1 ++ sl2)).take own1.length = adr sl1 := by rw [adr, List.map_append, List.take_append_of_le_length (by simp [hl]), List.take_of_length_le (by simp [hl])]
  have hv1 := hv.cut hb2
  rw [eA] at hv1
  refine wpAny_call (codeAny_mono (FnLe (h C.w) hD hU (C.more (slLd sl2) (aliveLd sl2 own2) aliveLd_sub) rfl m ro sl1 s vs Q S1 hv1 fun v d o r l s' S' x hlen hd hp => ?_) fun r s' h => by cases r <;> exact h)
  have el : adr sl1 = adr l := adle_len x.ad (by have := S'.ow.len; simp; omega)
  have eA2 : adr (sl1 ++ sl2) = adr (l ++ sl2) := by rw [adr, adr, List.map_append, List.map_append]; exact congrArg (· ++ _) el
  have e1 : slLd (sl1 ++ sl2) = slLd sl1 ++ slLd sl2 := List.flatMap_append
  have e2 : slLd (l ++ sl2) = slLd l ++ slLd sl2 := List.flatMap_append
  have nd := S.nd
  rw [e1, List.map_append, List.nodup_append] at nd
  have xx : Ext ro (sl1 ++ sl2) r (l ++ sl2) := ⟨x.ro, by rw [eA2]; exact AdLe.refl⟩
  have hlo : l.length = o.length := S'.ow.len
  have ap2 : ∀ p ∈ slLd sl2, ∀ q ∈ C.fx, q.1 ≠ p.1 := fun p hp => S.apx p (by rw [e1]; exact List.mem_append_right _ hp)
  have S2 : St C m r (l ++ sl2) fr (o ++ own2) s' :=
    { F := S'.F
      N := fun p hp => S'.N p (by
        rw [e2] at hp
        simp only [List.mem_append] at hp ⊢
        rcases hp with (h | h) | h | h
        · exact .inl h
        · exact .inr (.inr (.inl h))
        · exact .inr (.inl h)
        · exact .inr (.inr (.inr h)))
      nd := by
        rw [e2, List.map_append, List.nodup_append]
        refine ⟨S'.nd, nd.2.1, fun a ha b hb e => ?_⟩
        obtain ⟨p, hp, rfl⟩ := List.mem_map.mp ha
        obtain ⟨q, hq, rfl⟩ := List.mem_map.mp hb
        exact S'.apx p hp q (List.mem_append_left _ hq) e.symm
      ap := fun i x mo hx ho hal p hp q hq => by
        by_cases hi : i < l.length
        · rw [List.getElem?_append_left hi] at hx
          rw [List.getElem?_append_left (by omega)] at ho
          exact S'.ap i x mo hx ho hal p hp q hq
        · rw [List.getElem?_append_right (by omega)] at hx
          rw [List.getElem?_append_right (by omega)] at ho
          rw [← hlo] at ho
          exact S'.mxa q hq p (List.mem_append_left _ (aliveLd_of hx ho hal p hp))
      apx := fun p hp q hq => by
        rw [e2] at hp
        rcases List.mem_append.mp hp with h | h
        · exact S'.apx p h q (List.mem_append_right _ hq)
        · exact ap2 p h q hq
      mxa := fun q hq p hp => S'.mxa q hq p (List.mem_append_right _ hp)
      ow := by
        have h1 : Owns C.w r (adr (l ++ sl2)) l o := S'.ow.mono (fun _ h => h) (by rw [adr, adr, List.map_append]; exact AdLe.app)
        have h2 : Owns C.w r (adr (l ++ sl2)) sl2 own2 := (Owns.right hl S.ow).mono x.ro (by rw [eA2]; exact AdLe.refl)
        exact Owns.app h2 h1
      nm := fun y d e => let ⟨v, a, b⟩ := S.nm y d e; ⟨v, a.mono x.ro, xx.v b⟩
      gens := S'.gens
      drawn := S'.drawn
      os := S'.os }
  exact q v d _ _ _ s' S2 xx (VIn.mono (fun _ h => h) (by rw [adr, adr, List.map_append]; exact AdLe.app) d hd) (k d o hlen hp)
end
end
section
open PySem PySem.W PyProof.Rows PySem.Calls
section
variable {sc : Scope} {D U : Nat} {C : Cx sc D U} {m : Str → Option Value} {ro : Ld} {sl : List Sl} {fr : Fm} {own : List MO} {s : Shared} {pos px : Pos} {P : V → List MO → Prop}
structure GFn (w : World) (g : Str) (f : Addr) : Prop where
  name : nsIn (KF w) mainGlobals g = some (some (.ref f))
  keep : keepIn (KF w) (.ref f) = true
theorem St.global {g : Str} {v : Value} {Q : Value → Shared → Prop} (S : St C m ro sl fr own s) (h : nsIn (KF C.w) mainGlobals g = some (some v)) (hx : sc.names.lookup g = some .globalImplicit) (k : Q v s) (hd : (g == ("__debug__" : Str)) = false) : wpAny (model Pg C.w) C.A (eval (.Name g px) C.env) Q NoE s :=
  Name_function_global C.ek ((C.kof g).trans hx) (loadGlobal_global (by rw [C.glob]; exact C.T.g.keeps S.F.keep) (mg_of C.X C.T.g h) k) hd
theorem St.builtin {g : Str} {v : Value} {Q : Value → Shared → Prop} (S : St C m ro sl fr own s) (h : nsIn (KF C.w) mainGlobals g = some none) (hv : bootBuiltins g = some v) (hn : g ≠ "__name__") (hx : sc.names.lookup g = some .globalImplicit) (k : Q v s) (hd : (g == ("__debug__" : Str)) = false) : wpAny (model Pg C.w) C.A (eval (.Name g px) C.env) Q NoE s :=
  Name_function_global C.ek ((C.kof g).trans hx) (loadGlobal_builtin (by rw [C.glob]; exact C.T.g.keeps S.F.keep) (mg_none_of C.X C.T.g h) (by rw [C.bui]; exact C.T.b.keeps S.F.keep) ((C.T.builtins g hn).trans hv) k) hd
theorem any_plain {pos : Pos} {env : Env} : ∀ {es : List Expr}, es.all plainE = true → ((backTo pos (starEach es env)).any fun x => x.1) = false
  | [], _ => rfl
  | e :: es, h => by
    rw [List.all_cons, Bool.and_eq_true] at h
    rw [starEach_plain h.1]
    show (false || _) = false
    rw [Bool.false_or]
    exact any_plain h.2
noncomputable def plainArgs : List Expr → Bool
  | [] => false
  | e :: es => plainE e && es.all plainE
theorem WE_call {g : Str} {f : Addr} {args : List Expr} (hg : ∀ w, GFn w g f) (h : WEs C args fr own fun ds o => WCall C f ds fr o P) (hx : sc.names.lookup g = some .globalImplicit) (hp : plainArgs args = true) (hd : (g == ("__debug__" : Str)) = false) : WE C (.Call (.Name g px) args [] pos) fr own P := by
  intro m ro sl s Q S k
  cases args with
  | nil => cases hp
  | cons e rest =>
    have hp := Bool.and_eq_true_iff.mp hp
    refine Call_ (S.global (hg C.w).name hx (callWith_K C.X (hg C.w).keep (h pos m ro sl s _ S fun vs ds o r l s' S' x hv hc => ⟨C.X.keeps S'.F.keep, ?_⟩) (starEach_plain hp.1) (any_plain hp.2)) hd) (by rfl)
    exact hc m r l s' Q vs S' hv (Kv.ext (Q := Q) k x)
noncomputable def WMeth (C : Cx sc D U) (name : Str) (a : V) (args : List Expr) (fr : Fm) (own : List MO) (P : V → List MO → Prop) : Prop :=
  ∀ pos pl m ro sl s Q va, St C m ro sl fr own s → VIn C.w ro (adr sl) va a → Kv C m ro sl fr Q P →
    wpAny (model Pg C.w) C.A (getMethod va name pl) (fun fx s₂ => wpAny (model Pg C.w) C.A (callWith pos (Prod.fst fx) (Prod.snd fx) (backTo pos (starEach args C.env)) []) Q NoE s₂) NoE s
theorem WE_meth {o : Expr} {name : Str} {args : List Expr} {apos : Pos} {pl : Env → Sem Bool} (h : WE C o fr own fun a o' => WMeth C name a args fr o' P)
    (he : ∀ env, eval (.Call (.Attribute o name apos) args [] pos) env = (do
      let ov ← eval o env
      standAt (Pos.atName apos)
      let __x ← holding [ov] (getMethod ov name (pl env))
      match __x with
        | (f, first) => callWith pos f first (backTo pos (starEach args env)) []) := by intro _; rfl) : WE C (.Call (.Attribute o name apos) args [] pos) fr own P := by
  intro m ro sl s Q S k
  exact MethodCall_ (h m ro sl s _ S fun v d o r l s' S' x hv hm => hm pos _ m r l s' Q v S' hv (Kv.ext (Q := Q) k x)) (he _)
structure MethOk (w : World) (c : Addr) (name : Str) (f : Addr) : Prop where
  plain : plainGet (KF w) c name = true
  find : findIn (KF w) (.ref c) name = some (some (.ref f))
  fn : isFn (KF w) (.ref f) = true
  keep : keepIn (KF w) (.ref f) = true
theorem FIns'.miss {w : World} {ad : List Addr} {name : Str} : ∀ {fs : Fs} {es : List DictEntry}, FIns' w ro ad es fs → fs.get name = none → es.find? (fun z => z.key.isStr name) = none ∧ es.any (·.refKey) = false
  | .nil, _, h, _ => by rw [show _ = [] from h]; exact ⟨rfl, rfl⟩
  | .cons x u r, _, h, e => by
    obtain ⟨t, v, es', rfl, a, b⟩ := h
    unfold Fs.get at e
    by_cases hx : x = name
    · rw [if_pos hx] at e; cases e
    · rw [if_neg hx] at e
      obtain ⟨q1, q2⟩ := FIns'.miss b e
      have hn : ¬ ((Value.str x t).isStr name = true) := by rw [isStr_str]; simpa using hx
      exact ⟨by rw [List.find?_cons_of_neg (by exact hn)]; exact q1, by rw [List.any_cons, q2]; rfl⟩
theorem getL_miss {name : Str} {es : List DictEntry} (h : es.find? (fun z => z.key.isStr name) = none ∧ es.any (·.refKey) = false) : getL name es = some none := by
  unfold getL; rw [h.1]; dsimp only; rw [h.2]; rfl
theorem callMeth {f : Addr} {x : Addr} {a : V} {args : List Expr} {Q : Value → Shared → Prop} (S : St C m ro sl fr own s) (hk : keepIn (KF C.w) (.ref f) = true) (ha : VIn C.w ro (adr sl) (.ref x) a) (k : Kv C m ro sl fr Q P)
    (h : WEs C args fr own fun ds o => WCall C f (a :: ds) fr o P) (hp : args.all plainE = true) : wpAny (model Pg C.w) C.A (callWith pos (.ref f) [.ref x] (backTo pos (starEach args C.env)) []) Q NoE s := by
  cases args with
  | nil =>
    refine callWith_K0 (C.X.keeps S.F.keep) hk ?_
    have := h pos m ro sl s (fun vs s' => wpAny (model Pg C.w) C.A (call (.ref f) ([.ref x] ++ vs)) Q NoE s') S fun vs ds o r l s' S' e hv hc => hc m r l s' Q _ S' ⟨_, _, rfl, e.v ha, hv⟩ (Kv.ext (Q := Q) k e)
    have z : wpAny (model Pg C.w) C.A (spliced (backTo pos (starEach [] C.env))) (fun vs s' => wpAny (model Pg C.w) C.A (call (.ref f) ([.ref x] ++ vs)) Q NoE s') NoE s := this
    intro Γ p hΓ
    have := z Γ p hΓ
    exact this Γ p hΓ
  | cons e rest =>
    have hp := (List.all_cons ▸ hp : (plainE e && rest.all plainE) = true)
    have hp := Bool.and_eq_true_iff.mp hp
    exact callWith_K C.X hk (h pos m ro sl s _ S fun vs ds o r l s' S' x hv hc => ⟨C.X.keeps S'.F.keep, hc m r l s' Q _ S' ⟨_, _, rfl, x.v ha, hv⟩ (Kv.ext (Q := Q) k x)⟩) (starEach_plain hp.1) (any_plain hp.2)
theorem WMeth_ins {c f : Addr} {fs : Fs} {name : Str} {args : List Expr} (hf : fs.get name = none) (ok : ∀ w, MethOk w c name f) (h : WEs C args fr own fun ds o => WCall C f (.ins c fs :: ds) fr o P) (hp : args.all plainE = true := by rfl) : WMeth C name (.ins c fs) args fr own P := by
  intro pos pl m ro sl s Q va S ha q
  obtain ⟨x, dx, es, n, rfl, mx, md, he⟩ := id ha
  obtain ⟨a1, a2, a3, a4⟩ := ok C.w
  exact method_inst S.F C.X (InstAt.of_news S.N (List.mem_append_right _ (List.mem_append_left _ mx)) (List.mem_append_right _ (List.mem_append_left _ md))) a1 a2 a3 (getL_miss (he.miss hf)) (callMeth S a4 ha q h hp)
theorem WMeth_obj {c f : Addr} {k : Nat} {fs : Fs} {name : Str} {args : List Expr} (ho : own[k]? = some (.flds fs)) (hf : fs.get name = none) (ok : ∀ w, MethOk w c name f) (h : WEs C args fr own fun ds o => WCall C f (.obj c k :: ds) fr o P) (hp : args.all plainE = true := by rfl) : WMeth C name (.obj c k) args fr own P := by
  intro pos pl m ro sl s Q va S ha q
  obtain ⟨x, dx, rfl, mx, hk⟩ := id ha
  obtain ⟨y, e1, hy, es, n, e, _, he⟩ := S.slot (v := .ref dx) ho ⟨dx, rfl, hk⟩
  cases e1
  obtain ⟨a1, a2, a3, a4⟩ := ok C.w
  have hm := slLd_mem hy
  rw [e] at hm
  exact method_inst S.F C.X (InstAt.of_news S.N (List.mem_append_right _ (List.mem_append_left _ mx)) (List.mem_append_left _ hm)) a1 a2 a3 (getL_miss (he.miss hf)) (callMeth S a4 ha q h hp)
end
end
section
open PySem PySem.W PyProof.Rows PySem.Calls
section
variable {sc : Scope} {D U : Nat} {C : Cx sc D U} {m : Str → Option Value} {ro : Ld} {sl : List Sl} {fr : Fm} {own : List MO} {s : Shared} {pos px : Pos} {P : V → List MO → Prop}
theorem St.newSlot {a : Addr} {o : Obj} {h' : Heap} {tk : Nat} {mo : MO} (S : St C m ro sl fr own s) (F' : Fr C.h₀ C.L h' m) (N' : News C.h₀ C.L h' ((a, o) :: (slLd sl ++ (ro ++ C.fx)))) (l : ∀ p ∈ slLd sl ++ (ro ++ C.fx), p.1 < a)
    (hm : MoIn C.w ro (adr sl) ⟨a, o, []⟩ mo) : St C m ro (sl ++ [⟨a, o, []⟩]) fr (own ++ [mo]) { s with heap := h', toks := tk } := by
  have e1 : slLd (sl ++ [⟨a, o, []⟩]) = slLd sl ++ [(a, o)] := by rw [slLd, List.flatMap_append]; rfl
  have la : AdLe (adr sl) (adr (sl ++ [⟨a, o, []⟩])) := by rw [adr, adr, List.map_append]; exact AdLe.app
  have len := S.ow.len
  exact
    { F := F'
      N := fun p hp => N' p (by
        rw [e1] at hp
        simp only [List.mem_append, List.mem_cons, List.not_mem_nil, or_false] at hp ⊢
        rcases hp with (h | h) | h
        · exact .inr (.inl h)
        · exact .inl h
        · exact .inr (.inr h))
      nd := by
        rw [e1, List.map_append, List.nodup_append]
        refine ⟨S.nd, by simp, fun x hx y hy e => ?_⟩
        obtain ⟨p, hp, rfl⟩ := List.mem_map.mp hx
        simp at hy
        subst hy
        exact absurd e (Nat.ne_of_lt (l p (List.mem_append_left _ hp)))
      ap := fun i x mo' hx ho hl p hp q hq => by
        by_cases hi : i < sl.length
        · rw [List.getElem?_append_left hi] at hx
          rw [List.getElem?_append_left (by omega)] at ho
          exact S.ap i x mo' hx ho hl p hp q hq
        · rw [List.getElem?_append_right (by omega)] at hx
          have hx := List.mem_of_getElem? hx
          rw [List.mem_singleton] at hx
          subst hx
          rw [List.mem_singleton.mp hp]
          exact Nat.ne_of_lt (l q (List.mem_append_right _ (List.mem_append_left _ hq)))
      apx := fun p hp q hq => by
        rw [e1] at hp
        rcases List.mem_append.mp hp with h | h
        · exact S.apx p h q hq
        · rw [List.mem_singleton.mp h]
          exact Nat.ne_of_lt (l q (List.mem_append_right _ (List.mem_append_right _ hq)))
      mxa := S.mxa
      ow := Owns.app (own2 := [mo]) (sl2 := [⟨a, o, []⟩]) ⟨_, [], rfl, hm.mono (fun _ h => h) la, rfl⟩ (S.ow.mono (fun _ h => h) la)
      nm := fun x d e => let ⟨v, a, b⟩ := S.nm x d e; ⟨v, a, VIn.mono (fun _ h => h) la d b⟩
      gens := S.gens
      drawn := S.drawn
      os := S.os }
theorem Ext.new {x : Sl} : Ext ro sl ro (sl ++ [x]) := ⟨fun _ h => h, by rw [adr, adr, List.map_append]; exact AdLe.app⟩
theorem new_slot {w : World} {a : Addr} {o : Obj} (h : own.length = sl.length) : VIn w ro (adr (sl ++ [⟨a, o, []⟩])) (.ref a) (.slot own.length) := ⟨a, rfl, by rw [h, adr, List.map_append, List.getElem?_append_right (by simp)]; simp⟩
theorem WE_listS {es : List Expr} (h : WEs C es fr own fun ds o => ∃ xs, V.ps ds = some xs ∧ xs.length ≤ 1000 ∧ P (.slot o.length) (o ++ [.lst xs])) : WE C (.List es pos) fr own P := by
  intro m ro sl s Q S q
  refine List_ (h pos m ro sl s _ S fun vs ds own' ro' sl' s' S' x hvs hP => ?_)
  obtain ⟨xs, e, hz, hP⟩ := hP
  rw [V.ps_eq e] at hvs
  have hp := VIns_pin hvs
  refine newList_K S'.F S'.N (fun D' h' F' N' l => ?_) (by rw [hp.len, sizeLine_eq]; omega)
  exact q _ (.slot own'.length) _ _ _ _ (S'.newSlot (mo := .lst xs) F' N' l ⟨vs, 0, rfl, rfl, hp⟩) (x.trans .new) (new_slot S'.ow.len.symm) hP
theorem updF_mid {a : Addr} {o : Obj} {l2 : Ld} (h2 : ∀ p ∈ l2, p.1 ≠ a) : ∀ {l1 : Ld}, (∀ p ∈ l1, p.1 ≠ a) → UpdF a o (l1 ++ (a, o) :: l2) (fun o' => l1 ++ (a, o') :: l2)
  | [], _ => .head h2
  | _ :: _, h => .tail (h _ (.head _)) (updF_mid h2 fun p hp => h p (.tail _ hp))
theorem slLd_set {k : Nat} {x y : Sl} (h : sl[k]? = some x) : slLd sl = slLd (sl.take k) ++ (x.led ++ slLd (sl.drop (k + 1))) ∧ slLd (sl.set k y) = slLd (sl.take k) ++ (y.led ++ slLd (sl.drop (k + 1))) := by
  have hk := (List.getElem?_eq_some_iff.mp h).1
  have hx := (List.getElem?_eq_some_iff.mp h).2
  constructor
  · conv => lhs; rw [← List.take_append_drop k sl, List.drop_eq_getElem_cons hk, hx]
    rw [slLd, List.flatMap_append, List.flatMap_cons]; rfl
  · rw [List.set_eq_take_append_cons_drop, if_pos hk, slLd, List.flatMap_append, List.flatMap_cons]; rfl
theorem St.updF {k : Nat} {x : Sl} {mo : MO} (S : St C m ro sl fr own s) (hx : sl[k]? = some x) (ho : own[k]? = some mo) (hl : mo.alive = true) (ha : x.aux = []) :
    UpdF x.a x.o (slLd sl ++ (ro ++ C.fx)) (fun o' => slLd (sl.set k ⟨x.a, o', []⟩) ++ (ro ++ C.fx)) := by
  have nd := S.nd
  have e0 := (slLd_set (y := x) hx).1
  have el : x.led = [(x.a, x.o)] := by rw [Sl.led, ha]
  rw [e0, el, List.map_append, List.map_append, List.nodup_append, List.nodup_append] at nd
  have e2 : (fun o' => slLd (sl.set k ⟨x.a, o', []⟩) ++ (ro ++ C.fx)) = fun o' => slLd (sl.take k) ++ (x.a, o') :: (slLd (sl.drop (k + 1)) ++ (ro ++ C.fx)) := funext fun o' => by
    rw [(slLd_set (y := ⟨x.a, o', []⟩) hx).2]; simp
  rw [e2, e0, el]
  have := updF_mid (a := x.a) (o := x.o) (l1 := slLd (sl.take k)) (l2 := slLd (sl.drop (k + 1)) ++ (ro ++ C.fx)) (fun p hp => ?_) (fun p hp => ?_)
  · simpa using this
  · rcases List.mem_append.mp hp with h | h
    · exact fun e => nd.2.1.2.2 x.a (by simp) p.1 (List.mem_map_of_mem h) e.symm
    · have hxm : (x.a, x.o) ∈ x.led := .head _
      rcases List.mem_append.mp h with h | h
      · exact S.ap k x mo hx ho hl _ hxm p h
      · exact S.apx (x.a, x.o) (slLd_mem hx) p h
  · exact fun e => nd.2.2 p.1 (List.mem_map_of_mem hp) x.a (List.mem_append_left _ (by simp)) e
set_option tactic.hygienic true in
theorem adr_set {k : Nat} {x : Sl} {o' : Obj} (h : sl[k]? = some x) : adr (sl.set k ⟨x.a, o', []⟩) = adr sl := by
  rw [adr, List.map_set]
  refine List.ext_getElem? fun i => ?_
  rw [List.getElem?_set]
  split
  · rename_i e
    subst e
    have hk := (List.getElem?_eq_some_iff.mp h).1
    rw [if_pos (by simpa using hk), adr_get h]
  · rfl
theorem Owns.set {w : World} {ad : List Addr} {y : Sl} {mo' : MO} (hm : MoIn w ro ad y mo') : ∀ {own : List MO} {sl : List Sl} {k : Nat}, Owns w ro ad sl own → Owns w ro ad (sl.set k y) (own.set k mo')
  | [], _, _, h => by rw [show _ = [] from h]; exact rfl
  | _ :: _, _, 0, h => by obtain ⟨x, sl', rfl, a, b⟩ := h; exact ⟨y, sl', rfl, hm, b⟩
  | _ :: _, _, k + 1, h => by obtain ⟨x, sl', rfl, a, b⟩ := h; exact ⟨x, sl'.set k y, rfl, a, Owns.set hm b⟩
theorem St.setSlot {k : Nat} {x : Sl} {mo mo' : MO} {o' : Obj} {h' : Heap} {tk : Nat} (S : St C m ro sl fr own s) (hx : sl[k]? = some x) (ho : own[k]? = some mo) (hl : mo.alive = true) (ha : x.aux = [])
    (F' : Fr C.h₀ C.L h' m) (N' : News C.h₀ C.L h' (slLd (sl.set k ⟨x.a, o', []⟩) ++ (ro ++ C.fx))) (hm : MoIn C.w ro (adr sl) ⟨x.a, o', []⟩ mo') : St C m ro (sl.set k ⟨x.a, o', []⟩) fr (own.set k mo') { s with heap := h', toks := tk } := by
  have ea := adr_set (o' := o') hx
  have el : x.led = [(x.a, x.o)] := by rw [Sl.led, ha]
  have e0 := slLd_set (y := ⟨x.a, o', []⟩) hx
  have keys : (slLd (sl.set k ⟨x.a, o', []⟩)).map (·.1) = (slLd sl).map (·.1) := by rw [e0.2, e0.1, el]; simp
  exact
    { F := F'
      N := N'
      nd := by rw [keys]; exact S.nd
      ap := fun i z mz hz hoz hlz p hp q hq => by
        by_cases hi : i = k
        · subst hi
          have hk := (List.getElem?_eq_some_iff.mp hx).1
          rw [List.getElem?_set, if_pos rfl, if_pos hk] at hz
          cases hz
          rw [List.mem_singleton.mp hp]
          exact S.ap i x mo hx ho hl (x.a, x.o) (.head _) q hq
        · rw [List.getElem?_set, if_neg (Ne.symm hi)] at hz hoz
          exact S.ap i z mz hz hoz hlz p hp q hq
      apx := fun p hp q hq => by
        have : p.1 ∈ (slLd sl).map (·.1) := by rw [← keys]; exact List.mem_map_of_mem hp
        obtain ⟨p', hp', e⟩ := List.mem_map.mp this
        rw [← e]
        exact S.apx p' hp' q hq
      mxa := S.mxa
      ow := by rw [ea]; exact Owns.set hm S.ow
      nm := by rw [ea]; exact S.nm
      gens := S.gens
      drawn := S.drawn
      os := S.os }
theorem Ext.set {k : Nat} {x : Sl} {o' : Obj} (h : sl[k]? = some x) : Ext ro sl ro (sl.set k ⟨x.a, o', []⟩) := ⟨fun _ h => h, by rw [adr_set h]; exact AdLe.refl⟩
theorem PIns.snoc {vs : List Value} {l : List PyData} {v : Value} {d : PyData} (h : PIns ro vs l) (hd : PIn ro v d) : PIns ro (vs ++ [v]) (l ++ [d]) := h.app ⟨v, [], rfl, hd, rfl⟩
theorem WMeth_append {k : Nat} {e : Expr} {l0 : List PyData} (h0 : own[k]? = some (.lst l0)) (h : WE C e fr own fun d o => ∃ x l, d = .d x ∧ o[k]? = some (.lst l) ∧ l.length ≤ 1000 ∧ P (.d .none) (o.set k (.lst (l ++ [x])))) (he : plainE e = true := by rfl) : WMeth C "append" (.slot k) [e] fr own P := by
  intro pos pl m ro sl s Q va S ha q
  obtain ⟨y, rfl, hy, vs0, n0, e0, _, _⟩ := S.slot h0 ha
  have hmem := slLd_mem hy
  rw [e0] at hmem
  refine listMethod_K S.N (List.mem_append_left _ hmem) PySem.F.slot_list_append PySem.F.type_list_append ?_
  refine callWith_method1 (args_cons (h m ro sl s _ S fun v d o r l s' S' x hv hP => args_nil ?_) (starEach_plain he)) (starEach_plain he) rfl
  obtain ⟨dx, ls, rfl, hk, hz, hP⟩ := hP
  obtain ⟨z, e1, hz', us, n, eo, haux, hl⟩ := S'.slot hk (x.v ha)
  have e1 : y.a = z.a := by injection e1
  rw [e1]
  have U := S'.updF hz' hk rfl haux
  rw [eo] at U
  refine app_led S'.F S'.N U (by rw [hl.len, sizeLine_eq]; omega) fun h' F' N' => ?_
  exact q _ (.d .none) _ _ _ _ (S'.setSlot (mo' := .lst (ls ++ [dx])) (tk := s'.toks) hz' hk rfl haux F' N' ⟨_, _, rfl, rfl, hl.snoc hv⟩) (x.trans (.set hz')) rfl hP
theorem WMeth_pop {k : Nat} {l : List PyData} {x : PyData} (h0 : own[k]? = some (.lst (l ++ [x]))) (hz : l.length < 1000) (hP : P (.d x) (own.set k (.lst l))) : WMeth C "pop" (.slot k) [] fr own P := by
  intro pos pl m ro sl s Q va S ha q
  obtain ⟨y, rfl, hy, vs0, n0, e0, haux, hl⟩ := S.slot h0 ha
  have hmem := slLd_mem hy
  rw [e0] at hmem
  refine listMethod_K S.N (List.mem_append_left _ hmem) PySem.F.slot_list_pop PySem.F.type_list_pop ?_
  refine callWith_method0 ?_
  obtain ⟨us, v, rfl, hus, hv⟩ : ∃ us v, vs0 = us ++ [v] ∧ PIns ro us l ∧ PIn ro v x := by
    have split : ∀ {l : List PyData} {vs : List Value}, PIns ro vs (l ++ [x]) → ∃ us v, vs = us ++ [v] ∧ PIns ro us l ∧ PIn ro v x := by
      intro l
      induction l with
      | nil => rintro vs ⟨v, r, rfl, a, b⟩; exact ⟨[], v, by rw [show r = [] from b]; rfl, rfl, a⟩
      | cons d l ih => rintro vs ⟨v, r, rfl, a, b⟩; obtain ⟨us, u, rfl, c, e⟩ := ih b; exact ⟨v :: us, u, rfl, ⟨v, us, rfl, a, c⟩, e⟩
    exact split hl
  have U := S.updF hy h0 rfl haux
  rw [e0] at U
  refine pop_led S.F S.N U (by rw [hus.len]; omega) fun h' F' N' => ?_
  exact q _ (.d x) _ _ _ _ (S.setSlot (mo' := .lst l) (tk := s.toks) hy h0 rfl haux F' N' ⟨_, _, rfl, rfl, hus⟩) (.set hy) hv hP
theorem PIns.set {x : PyData} {v : Value} (hv : PIn ro v x) : ∀ {l : List PyData} {vs : List Value} {i : Nat}, PIns ro vs l → PIns ro (vs.set i v) (l.set i x)
  | [], _, _, h => by rw [show _ = [] from h]; exact rfl
  | _ :: _, _, 0, h => by obtain ⟨u, r, rfl, a, b⟩ := h; exact ⟨v, r, rfl, hv, b⟩
  | _ :: _, _, i + 1, h => by obtain ⟨u, r, rfl, a, b⟩ := h; exact ⟨u, r.set i v, rfl, a, PIns.set hv b⟩
noncomputable def WSet (C : Cx sc D U) (a i v : V) (fr : Fm) (own : List MO) (P : List MO → Prop) : Prop :=
  ∀ m ro sl s (Q : Unit → Shared → Prop) va vi vv, St C m ro sl fr own s → VIn C.w ro (adr sl) va a → VIn C.w ro (adr sl) vi i → VIn C.w ro (adr sl) vv v →
    (∀ own' ro' sl' s', St C m ro' sl' fr own' s' → Ext ro sl ro' sl' → P own' → Q () s') → wpAny (model Pg C.w) C.A (setItem va vi vv) Q NoE s
theorem WT_setitem {o i e : Expr} {pos' : Pos} {PN : Fm → List MO → Prop} {PR : V → List MO → Prop} (h : WE C e fr own fun v own1 => WE C o fr own1 fun a own2 => WE C i fr own2 fun i own3 => WSet C a i v fr own3 fun own4 => PN fr own4) (hn : noComp e = true := by rfl) :
    WT C (.Assign [.Subscript o i pos'] e pos) fr own PN PR := by
  intro hc m ro sl s Q S k r
  refine wpAny_Assign_Subscript (h m ro sl s _ S fun v d o1 r1 l1 s1 S1 x1 hv h1 => h1 m r1 l1 s1 _ S1 fun a da o2 r2 l2 s2 S2 x2 ha h2 => h2 m r2 l2 s2 _ S2 fun b db o3 r3 l3 s3 S3 x3 hb h3 => ?_) (swaps_plain hn)
  exact h3 m r3 l3 s3 _ a b v S3 (x3.v ha) hb (x3.v (x2.v hv)) fun own' ro' sl' s' S' x hP => k m fr own' ro' sl' s' S' (((x1.trans x2).trans x3).trans x) hP
theorem WSet_slot {k : Nat} {l : List PyData} {j : Int} {x : PyData} {PU : List MO → Prop} (h0 : own[k]? = some (.lst l)) (hj : 0 ≤ j ∧ j < 100000) (hi : j.toNat < l.length) (hP : PU (own.set k (.lst (l.set j.toNat x)))) : WSet C (.slot k) (.d (.int j)) (.d x) fr own PU := by
  rintro m ro sl s Q va vi vv S ha ⟨t, rfl⟩ hv q
  obtain ⟨y, rfl, hy, vs, n, e0, haux, hl⟩ := S.slot h0 ha
  have U := S.updF hy h0 rfl haux
  rw [e0] at U
  refine set_lst S.F S.N U (Int.toNat_of_nonneg hj.1).symm (by omega) (by rw [hl.len]; exact hi) fun h' F' N' => ?_
  exact q _ _ _ _ (S.setSlot (mo' := .lst (l.set j.toNat x)) (tk := s.toks) hy h0 rfl haux F' N' ⟨_, _, rfl, rfl, PIns.set hv hl⟩) (.set hy) hP
end
end
section
open PySem PySem.W PyProof.Rows PySem.Calls
section
variable {sc : Scope} {D U : Nat} {C : Cx sc D U} {m : Str → Option Value} {ro : Ld} {sl : List Sl} {fr : Fm} {own : List MO} {s : Shared} {pos px : Pos} {P : V → List MO → Prop}
noncomputable def Fs.put : Fs → Str → V → Fs
  | .nil, x, v => .cons x v .nil
  | .cons y u r, x, v => if y = x then .cons y v r else .cons y u (r.put x v)
noncomputable def Fs.len : Fs → Nat
  | .nil => 0
  | .cons _ _ r => r.len + 1
theorem FIns'.put {w : World} {ad : List Addr} {x : Str} {t : Tok} {v : Value} {d : V} (hv : VIn w ro ad v d) : ∀ {fs : Fs} {es : List DictEntry}, FIns' w ro ad es fs → FIns' w ro ad (putL x (PyData.keyHash w.params x) (.str x t) v es) (fs.put x d)
  | .nil, _, h => by rw [show _ = [] from h]; exact ⟨t, v, [], rfl, hv, rfl⟩
  | .cons y u r, _, h => by
    obtain ⟨t', v', es', rfl, a, b⟩ := h
    unfold putL Fs.put
    by_cases hx : y = x
    · rw [if_pos (show (Value.str y t').isStr x = true by rw [isStr_str, hx]; exact beq_self_eq_true _), if_pos hx]
      exact ⟨t', v, es', rfl, hv, b⟩
    · rw [if_neg (show ¬ (Value.str y t').isStr x = true by rw [isStr_str]; simpa using hx), if_neg hx]
      exact ⟨t', v', _, rfl, a, FIns'.put hv b⟩
theorem FIns'.len {w : World} {ad : List Addr} : ∀ {fs : Fs} {es : List DictEntry}, FIns' w ro ad es fs → es.length = fs.len
  | .nil, es, h => by rw [show es = [] from h]; rfl
  | .cons _ _ _, _, h => by obtain ⟨t, v, es', rfl, a, b⟩ := h; rw [List.length_cons, b.len]; rfl
theorem FIns'.some {w : World} {ad : List Addr} {fs : Fs} {es : List DictEntry} (name : Str) (h : FIns' w ro ad es fs) : (getL name es).isSome = true := by
  cases e : fs.get name with
  | some d => obtain ⟨v, q, _⟩ := h.get e; rw [q]; rfl
  | none => rw [getL_miss (h.miss e)]; rfl
theorem Fs.put_len (x : Str) (v : V) : ∀ fs : Fs, (fs.put x v).len ≤ fs.len + 1
  | .nil => Nat.le_refl _
  | .cons y u r => by
    unfold Fs.put
    split
    · exact Nat.le_succ _
    · exact Nat.succ_le_succ (Fs.put_len x v r)
structure SetOk (w : World) (c : Addr) (name : Str) : Prop where
  find : findIn (KF w) (.ref c) "__setattr__" = some (some (.builtin "object.__setattr__"))
  plain : plainOver (KF w) c = true
  taker : takerIn (KF w) c name = some none
  dict : hasDictIn (KF w) c = true
theorem WT_setattr {o e : Expr} {name : Str} {pos' : Pos} {PN : Fm → List MO → Prop} {PR : V → List MO → Prop} (h : WE C e fr own fun v own1 => WE C o fr own1 fun a own2 => ∃ c k fs, a = .obj c k ∧ own2[k]? = some (.flds fs) ∧ fs.len ≤ 100 ∧ (∀ w, SetOk w c name) ∧ PN fr (own2.set k (.flds (fs.put name v)))) (hn : noComp e = true := by rfl) :
    WT C (.Assign [.Attribute o name pos'] e pos) fr own PN PR := by
  intro hc m ro sl s Q S k r
  refine plainObj_wpAny_Assign_Attribute (h m ro sl s _ S fun v d o1 r1 l1 s1 S1 x1 hv h1 => h1 m r1 l1 s1 _ S1 fun a da o2 r2 l2 s2 S2 x2 ha h2 => ?_) (swaps_plain hn)
  obtain ⟨c, j, fs, rfl, ho, hz, ok, hP⟩ := h2
  obtain ⟨x, dx, rfl, mx, hk⟩ := id ha
  obtain ⟨y, e1, hy, es, n, e0, haux, he⟩ := S2.slot (v := .ref dx) ho ⟨dx, rfl, hk⟩
  cases e1
  obtain ⟨a1, a2, a3, a4⟩ := ok C.w
  have hm := slLd_mem hy
  rw [e0] at hm
  have U := updF_upd (o' := dictOf (putL name (PyData.keyHash C.w.params name) (.str name (s2.toks + 1)) v es) (putN name es n)) (S2.updF hy ho rfl haux)
  rw [e0] at U
  have hp := he.put (x := name) (t := s2.toks + 1) (x2.v hv)
  refine set_dict S2.F C.X S2.N (InstAt.of_news S2.N (List.mem_append_right _ (List.mem_append_left _ mx)) (List.mem_append_left _ hm)) rfl a1 a2 a3 a4 (he.some name) rfl U (by rw [hp.len]; have := Fs.put_len name d fs; omega) fun h' F' N' => ?_
  exact k m fr _ _ _ _ (S2.setSlot (mo' := .flds (fs.put name d)) (tk := s2.toks + 2) hy ho rfl haux F' N' ⟨_, _, rfl, rfl, hp⟩) ((x1.trans x2).trans (.set hy)) hP
noncomputable def dval {K : Type} [DecidableEq K] (l : List (List K × PyData)) (ks : List K) : Option PyData := (l.find? fun x => decide (x.1 = ks)).map (·.2)
theorem DPairs.at {K : Type} [DecidableEq K] {enc : List K → PyData} (ks : List K) : ∀ {l : List (List K × PyData)} {xs : List (List K × Addr × Value)}, DPairs ro enc xs l →
    match dval l ks with
    | some d => ∃ a v, atKey xs ks = some (a, v) ∧ PIn ro v d
    | none => atKey xs ks = none
  | [], _, h => by rw [show _ = [] from h]; rfl
  | (k, d) :: l, _, h => by
    obtain ⟨a, v, r, rfl, _, x, y⟩ := h
    unfold dval atKey
    by_cases hk : k = ks
    · rw [List.find?_cons_of_pos (by simpa using hk), List.find?_cons_of_pos (by simpa using hk)]
      exact ⟨a, v, rfl, x⟩
    · rw [List.find?_cons_of_neg (by simpa using hk), List.find?_cons_of_neg (by simpa using hk)]
      exact DPairs.at ks y
theorem DPairs.getD {K : Type} [DecidableEq K] {enc : List K → PyData} {ks : List K} {l : List (List K × PyData)} {xs : List (List K × Addr × Value)} (h : DPairs ro enc xs l) {u : Value} {du : PyData} (hu : PIn ro u du) : PIn ro (((atKey xs ks).map (·.2)).getD u) ((dval l ks).getD du) := by
  have := h.at ks
  cases e : dval l ks with
  | some d => rw [e] at this; obtain ⟨a, v, q, hd⟩ := this; rw [q]; exact hd
  | none => rw [e] at this; rw [show atKey xs ks = none from this]; exact hu
theorem strItems {w : World} : ∀ {ks : List Str} {vs : List Value}, PIns ro vs (ks.map .str) → PySem.ItemsAre (strKind Pg w) ks vs
  | [], vs, h => by rw [show vs = [] from h]; exact .nil
  | k :: ks, _, h => by obtain ⟨v, r, rfl, ⟨t, rfl⟩, b⟩ := h; exact .cons (strKind_is _ _ _ _) (strItems b)
theorem intItems {w : World} : ∀ {ks : List Int} {vs : List Value}, PIns ro vs (ks.map .int) → PySem.ItemsAre (intKind Pg w) ks vs
  | [], vs, h => by rw [show vs = [] from h]; exact .nil
  | k :: ks, _, h => by obtain ⟨v, r, rfl, ⟨t, rfl⟩, b⟩ := h; exact .cons (intKind_is _ _ _ _) (intItems b)
theorem St.news (S : St C m ro sl fr own s) {p : Addr × Obj} (h : p ∈ ro) : p ∈ slLd sl ++ (ro ++ C.fx) := List.mem_append_right _ (List.mem_append_left _ h)
theorem WMeth_getS {l : List (List Str × PyData)} {e : Expr} (h : WE C e fr own fun d o => ∃ ks, d = .d (.tuple (ks.map .str)) ∧ P (.d ((dval l ks).getD .none)) o) (he : plainE e = true := by rfl) (hu : Nat.ble 1 U = true := by rfl) : WMeth C "get" (.dS l) [e] fr own P := by
  intro pos pl m ro sl s Q va S ha q
  obtain ⟨a, xs, rfl, T, hp⟩ := ha
  have hU := C.units
  have hu := Nat.le_of_ble_eq_true hu
  refine td_get S.N (T.mono fun p hp => S.news hp) (callWith_method1 (args_cons (h m ro sl s _ S fun v d o r l s' S' x hv hP => args_nil ?_) (starEach_plain he)) (starEach_plain he) rfl)
  obtain ⟨ks, rfl, hP⟩ := hP
  obtain ⟨b, vs, rfl, mb, hb⟩ := hv
  refine td_get1 (by omega) S'.N (T.mono fun p hp => S'.news (x.ro p hp)) (S'.news mb) (.made (strItems hb)) fun t => ?_
  exact q _ (.d _) _ _ _ _ S'.tk x (DPairs.getD (du := .none) (DPairs.mono x.ro _ hp) rfl) hP
theorem WMeth_get2S {l : List (List Str × PyData)} {e f : Expr} (h : WE C e fr own fun d o => ∃ ks, d = .d (.tuple (ks.map .str)) ∧ WE C f fr o fun u o => ∃ du, u = .d du ∧ P (.d ((dval l ks).getD du)) o) (he : plainE e = true := by rfl) (hf : plainE f = true := by rfl) (hu : Nat.ble 1 U = true := by rfl) : WMeth C "get" (.dS l) [e, f] fr own P := by
  intro pos pl m ro sl s Q va S ha q
  obtain ⟨a, xs, rfl, T, hp⟩ := ha
  have hU := C.units
  have hu := Nat.le_of_ble_eq_true hu
  refine td_get S.N (T.mono fun p hp => S.news hp) (callWith_method1 (args_cons (h m ro sl s _ S fun v d o r l s' S' x hv hP => ?_) (starEach_plain he)) (starEach_plain he) (any_plain (by simp [hf])))
  obtain ⟨ks, rfl, hP⟩ := hP
  obtain ⟨b, vs, rfl, mb, hb⟩ := hv
  refine args_cons (hP m r l s' _ S' fun v d o r2 l2 s2 S2 x2 hv hP => args_nil ?_) (starEach_plain hf)
  obtain ⟨du, rfl, hP⟩ := hP
  refine td_get2 (by omega) S2.N (T.mono fun p hp => S2.news (x2.ro p (x.ro p hp))) (S2.news (x2.ro _ mb)) (.made (strItems hb)) fun t => ?_
  exact q _ (.d _) _ _ _ _ S2.tk (x.trans x2) (DPairs.getD (DPairs.mono (x.trans x2).ro _ hp) hv) hP
theorem WMeth_getI {l : List (List Int × PyData)} {e : Expr} (h : WE C e fr own fun d o => ∃ ks, d = .d (.tuple (ks.map .int)) ∧ P (.d ((dval l ks).getD .none)) o) (he : plainE e = true := by rfl) (hu : Nat.ble 1 U = true := by rfl) : WMeth C "get" (.dI l) [e] fr own P := by
  intro pos pl m ro sl s Q va S ha q
  obtain ⟨a, xs, rfl, T, hp⟩ := ha
  have hU := C.units
  have hu := Nat.le_of_ble_eq_true hu
  refine td_get S.N (T.mono fun p hp => S.news hp) (callWith_method1 (args_cons (h m ro sl s _ S fun v d o r l s' S' x hv hP => args_nil ?_) (starEach_plain he)) (starEach_plain he) rfl)
  obtain ⟨ks, rfl, hP⟩ := hP
  obtain ⟨b, vs, rfl, mb, hb⟩ := hv
  refine td_get1 (by omega) S'.N (T.mono fun p hp => S'.news (x.ro p hp)) (S'.news mb) (.made (intItems hb)) fun t => ?_
  exact q _ (.d _) _ _ _ _ S'.tk x (DPairs.getD (du := .none) (DPairs.mono x.ro _ hp) rfl) hP
theorem St.slotTD {k : Nat} {l : List (List Int × PyData)} {v : Value} (S : St C m ro sl fr own s) (h : own[k]? = some (.dI l)) (hv : VIn C.w ro (adr sl) v (.slot k)) : ∃ x xs, v = .ref x.a ∧ sl[k]? = some x ∧ x.aux = [] ∧ DObj (intKind Pg C.w) x.o xs ∧ KeysIn (intKind Pg C.w) ro xs ∧ DPairs ro encI xs l ∧ TD (intKind Pg C.w) (slLd sl ++ (ro ++ C.fx)) x.a xs := by
  obtain ⟨x, rfl, hx, xs, lo, haux, hd, hk, hp⟩ := S.slot h hv
  exact ⟨x, xs, rfl, hx, haux, hd, hk, hp, lo, x.o, List.mem_append_left _ (slLd_mem hx), hd, hk.mono fun p hp => S.news hp⟩
theorem WMeth_getIs {k : Nat} {l0 : List (List Int × PyData)} {e : Expr} (h0 : own[k]? = some (.dI l0)) (h : WE C e fr own fun d o => ∃ ks l, d = .d (.tuple (ks.map .int)) ∧ o[k]? = some (.dI l) ∧ P (.d ((dval l ks).getD .none)) o) (he : plainE e = true := by rfl) (hu : Nat.ble 1 U = true := by rfl) : WMeth C "get" (.slot k) [e] fr own P := by
  intro pos pl m ro sl s Q va S ha q
  have hU := C.units
  have hu := Nat.le_of_ble_eq_true hu
  obtain ⟨y, ys, rfl, _, _, _, _, _, T0⟩ := S.slotTD h0 ha
  refine td_get S.N T0 (callWith_method1 (args_cons (h m ro sl s _ S fun v d o r l s' S' x hv hP => args_nil ?_) (starEach_plain he)) (starEach_plain he) rfl)
  obtain ⟨ks, ll, rfl, hk, hP⟩ := hP
  obtain ⟨b, vs, rfl, mb, hb⟩ := hv
  obtain ⟨z, zs, e1, _, _, _, _, hp, T⟩ := S'.slotTD hk (x.v ha)
  have e1 : y.a = z.a := by injection e1
  rw [e1]
  refine td_get1 (by omega) S'.N T (S'.news mb) (.made (intItems hb)) fun t => ?_
  exact q _ (.d _) _ _ _ _ S'.tk x (DPairs.getD (du := .none) hp rfl) hP
theorem DPairs.snoc {K : Type} {enc : List K → PyData} {k : List K} {a : Addr} {v : Value} {d : PyData} (hk : PIn ro (.ref a) (enc k)) (hd : PIn ro v d) : ∀ {l : List (List K × PyData)} {xs : List (List K × Addr × Value)}, DPairs ro enc xs l → DPairs ro enc (xs ++ [(k, a, v)]) (l ++ [(k, d)])
  | [], _, h => by rw [show _ = [] from h]; exact ⟨a, v, [], rfl, hk, hd, rfl⟩
  | (_, _) :: _, _, h => by obtain ⟨b, u, r, rfl, z, x, y⟩ := h; exact ⟨b, u, _, rfl, z, x, DPairs.snoc hk hd y⟩
theorem DPairs.len {K : Type} {enc : List K → PyData} : ∀ {l : List (List K × PyData)} {xs : List (List K × Addr × Value)}, DPairs ro enc xs l → xs.length = l.length
  | [], xs, h => by rw [show xs = [] from h]; rfl
  | (_, _) :: _, _, h => by obtain ⟨b, u, r, rfl, z, x, y⟩ := h; simp [y.len]
theorem WSet_dict {k : Nat} {l : List (List Int × PyData)} {ks : List Int} {x : PyData} {PU : List MO → Prop} (h0 : own[k]? = some (.dI l)) (hn : dval l ks = none) (hz : l.length ≤ 900) (hP : PU (own.set k (.dI (l ++ [(ks, x)])))) (hu : Nat.ble 1 U = true := by rfl) : WSet C (.slot k) (.d (.tuple (ks.map .int))) (.d x) fr own PU := by
  rintro m ro sl s Q va vi vv S ha ⟨b, vs, rfl, mb, hb⟩ hv q
  have hU := C.units
  have hu := Nat.le_of_ble_eq_true hu
  obtain ⟨y, ys, rfl, hy, haux, hd, hk, hp, lo, _⟩ := S.slotTD h0 ha
  refine td_set (by omega) S.F S.N (S.updF hy h0 rfl haux) hd (hk.mono fun p hp => S.news hp) (S.news mb) (.made (intItems hb)) (by rw [hp.len]; omega) fun h' t o' F' N' D' => ?_
  have hnew := hp.at ks
  rw [hn] at hnew
  rw [storedH_new hnew] at D'
  refine q _ _ _ _ (S.setSlot (mo' := .dI (l ++ [(ks, x)])) (tk := t) hy h0 rfl haux F' N' ⟨_, lo, rfl, D', fun z hz' => ?_, hp.snoc (k := ks) (a := b) (show PIn ro (.ref b) (.tuple (ks.map .int)) from ⟨b, vs, rfl, mb, hb⟩) hv⟩) (.set hy) hP
  rcases List.mem_append.mp hz' with h | h
  · exact hk z h
  · rw [List.mem_singleton.mp h]; exact ⟨_, mb, .made (intItems hb)⟩
theorem dobj_of {prog : Program} {w : World} {o : Obj} (h : Obj.IsDictOf (intKind prog w) o []) : DObj (intKind prog w) o [] := by
  obtain ⟨es, ep, hx, hd, _, hp, _⟩ := h
  refine ⟨hx, es, ep, hd, ?_, .nil⟩
  cases e : es.toList with
  | nil => rfl
  | cons a r => rw [e] at hp; cases hp
theorem WE_dict0 (hP : P (.slot own.length) (own ++ [.dI []])) : WE C (.Dict [] [] pos) fr own P := by
  intro m ro sl s Q S q
  refine newDict_K S.F S.N C.T.nolimit fun d h' o F' N' l lo _ _ hi _ => ?_
  exact q _ (.slot own.length) _ _ _ _ (S.newSlot (mo := .dI []) F' N' l ⟨[], lo, rfl, dobj_of hi, (fun _ h => nomatch h), rfl⟩) .new (new_slot S.ow.len.symm) hP
end
end
section
open PySem PySem.W PyProof.Rows PySem.Calls
section
variable {sc : Scope} {D U : Nat} {C : Cx sc D U} {m : Str → Option Value} {ro : Ld} {sl : List Sl} {fr : Fm} {own : List MO} {s : Shared} {pos px : Pos} {P : V → List MO → Prop}
theorem St.fresh {x dx c : Addr} {h' : Heap} {tk : Nat} (S : St C m ro sl fr own s) (F' : Fr C.h₀ C.L h' m) (N' : News C.h₀ C.L h' ((x, instObj c dx) :: (dx, dictOf [] 0) :: (slLd sl ++ (ro ++ C.fx)))) (l : ∀ p ∈ slLd sl ++ (ro ++ C.fx), p.1 < dx) (lx : dx < x) :
    St (C.more (slLd sl) (aliveLd sl own) aliveLd_sub) m ((x, instObj c dx) :: ro) [⟨dx, dictOf [] 0, []⟩] [] [.flds .nil] { s with heap := h', toks := tk } where
  F := F'
  N := fun p hp => N' p (by
    simp only [slLd, List.flatMap_cons, List.flatMap_nil, List.append_nil, List.cons_append, List.nil_append, List.mem_cons, List.mem_append] at hp ⊢
    rcases hp with h | h | h | h | h
    · exact .inr (.inl h)
    · exact .inl h
    · exact .inr (.inr (.inr (.inl h)))
    · exact .inr (.inr (.inl h))
    · exact .inr (.inr (.inr (.inr h))))
  nd := by simp [slLd]
  ap := fun i y mo hy ho hl p hp q hq => by
    have hy := List.mem_singleton.mp (List.mem_of_getElem? hy)
    subst hy
    rw [List.mem_singleton.mp hp]
    rcases List.mem_cons.mp hq with rfl | hq
    · exact Ne.symm (Nat.ne_of_lt lx)
    · exact Nat.ne_of_lt (l q (List.mem_append_right _ (List.mem_append_left _ hq)))
  apx := fun p hp q hq => by
    simp [slLd] at hp
    subst hp
    rcases List.mem_append.mp hq with hq | hq
    · exact Nat.ne_of_lt (l q (List.mem_append_left _ hq))
    · exact Nat.ne_of_lt (l q (List.mem_append_right _ (List.mem_append_right _ hq)))
  mxa := fun q hq p hp => by
    rcases List.mem_cons.mp hq with rfl | hq
    · refine Ne.symm (Nat.ne_of_lt (Nat.lt_trans (l p ?_) lx))
      rcases List.mem_append.mp hp with hp | hp
      · exact List.mem_append_left _ (aliveLd_sub p hp)
      · exact List.mem_append_right _ (List.mem_append_right _ (C.hmx p hp))
    · rcases List.mem_append.mp hp with hp | hp
      · obtain ⟨i, x, mo, a, b, c, d⟩ := aliveLd_get p hp
        exact S.ap i x mo a b c p d q hq
      · exact S.mxa q hq p hp
  ow := ⟨_, [], rfl, ⟨[], 0, rfl, rfl, rfl⟩, rfl⟩
  nm := fun _ _ e => nomatch e
  gens := S.gens
  drawn := S.drawn
  os := S.os
theorem St.back {r : Ld} {s' : Shared} (S : St C m ro sl fr own s) (S' : St (C.more (slLd sl) (aliveLd sl own) aliveLd_sub) m r [] [] [] s') (hs : ∀ p ∈ ro, p ∈ r) : St C m r sl fr own s' where
  F := S'.F
  N := fun p hp => S'.N p (by
    simp only [slLd, List.flatMap_nil, List.nil_append, List.mem_append] at hp ⊢
    rcases hp with h | h | h
    · exact .inr (.inl h)
    · exact .inl h
    · exact .inr (.inr h))
  nd := S.nd
  ap := fun i x mo hx ho hl p hp q hq => S'.mxa q hq p (List.mem_append_left _ (aliveLd_of hx ho hl p hp))
  apx := S.apx
  mxa := fun q hq p hp => S'.mxa q hq p (List.mem_append_right _ hp)
  ow := S.ow.mono hs AdLe.refl
  nm := fun y d e => let ⟨v, a, b⟩ := S.nm y d e; ⟨v, a.mono hs, VIn.mono hs AdLe.refl d b⟩
  gens := S'.gens
  drawn := S'.drawn
  os := S'.os
structure ClsOk (w : World) (g : Str) (c fI : Addr) : Prop where
  name : nsIn (KF w) mainGlobals g = some (some (.ref c))
  keep : keepIn (KF w) (.ref c) = true
  makes : makesIn (KF w) c = true
  init : findIn (KF w) (.ref c) "__init__" = some (some (.ref fI))
  fn : isFn (KF w) (.ref fI) = true
noncomputable abbrev Cx.make (C : Cx sc (D + 1) (U + 1)) (c : Addr) (vs : List Value) : Cx sc D U :=
  { C with
    A := C.A.under (.builtin "type.__call__" ⟨.ref c :: vs, []⟩)
    hh := C.hh
    hA := C.hA
    room := by have := C.room; rw [depth_under_make]; omega
    units := by have := C.units; rw [units_under_make]; omega }
theorem VIns.mem {w : World} {ad : List Addr} {l : List V} {vs : List Value} {r : Ld} {ad' : List Addr} (h : VIns w ro ad vs l) (hs : ∀ p ∈ ro, p ∈ r) (hb : l.all (V.bd 0) = true) : VIns w r ad' vs l := by
  have := VIns.cut h hb
  rw [List.take_zero] at this
  exact VIns.mono hs (fun k a h => by simp at h) l this
theorem St.cast {sc' : Scope} {D' U' : Nat} {C' : Cx sc' D' U'} (S : St C m ro sl [] own s) (h1 : C'.h₀ = C.h₀) (h2 : C'.L = C.L) (h3 : C'.fx = C.fx) (h4 : C'.mx = C.mx) (h5 : C'.w = C.w) (h6 : C'.gens = C.gens) (h7 : C'.drawn = C.drawn) (h8 : C'.os = C.os) : St C' m ro sl [] own s where
  F := by rw [h1, h2]; exact S.F
  N := by rw [h1, h2, h3]; exact S.N
  nd := S.nd
  ap := S.ap
  apx := by rw [h3]; exact S.apx
  mxa := by rw [h4]; exact S.mxa
  ow := by rw [h5]; exact S.ow
  nm := fun _ _ e => nomatch e
  gens := by rw [h6]; exact S.gens
  drawn := by rw [h7]; exact S.drawn
  os := by rw [h8]; exact S.os
theorem WE_new {g : Str} {c fI : Addr} {args : List Expr} {D' U' : Nat} {P' : List V → V → List MO → Prop} (ok : ∀ w, ClsOk w g c fI)
    (h : WEs C args fr own fun ds o => ds.all (V.bd 0) = true ∧ (∀ w, Fn w fI D' U' (.obj c 0 :: ds) [.flds .nil] (P' ds)) ∧ ∀ d o', P' ds d o' → d = .d .none ∧ ∃ fs, o' = [.flds fs] ∧ fs.bd 0 = true ∧ P (.ins c fs) o)
    (hD : Nat.ble (D' + 1) D = true) (hU : Nat.ble (U' + 1) U = true) (hx : sc.names.lookup g = some .globalImplicit := by rfl) (hp : plainArgs args = true := by rfl) (hd : (g == ("__debug__" : Str)) = false := by decide) : WE C (.Call (.Name g px) args [] pos) fr own P := by
  have hD := Nat.le_of_ble_eq_true hD
  have hU := Nat.le_of_ble_eq_true hU
  intro m ro sl s Q S k
  cases args with
  | nil => cases hp
  | cons e rest =>
    have hp := Bool.and_eq_true_iff.mp hp
    refine Call_ (S.global (ok C.w).name hx (callWith_K C.X (ok C.w).keep (h pos m ro sl s _ S fun vs ds o r l s' S' x hv hc => ⟨C.X.keeps S'.F.keep, ?_⟩) (starEach_plain hp.1) (any_plain hp.2)) hd) (by rfl)
    obtain ⟨hb, hf, hP⟩ := hc
    refine call_cls S'.F C.X S'.N (ok C.w).makes (ok C.w).init (ok C.w).fn fun xa dx h' F' N' lo lx => ?_
    let C1 : Cx sc (D' + 1) (U' + 1) := { C with room := by have := C.room; omega, units := by have := C.units; omega }
    let C2 : Cx sc D' U' := (C1.make c vs).more (slLd l) (aliveLd l o) aliveLd_sub
    have S1 := S'.fresh (tk := s'.toks) F' N' lo lx
    have S2 : St C2 m _ _ [] _ _ := S1.cast rfl rfl rfl rfl rfl rfl rfl rfl
    refine codeAny_mono (hf C2.w C2 rfl m _ _ _ (.ref xa :: vs) (fun v s'' => v = .none ∧ Q (.ref xa) s'') S2 ⟨_, vs, rfl, ⟨xa, dx, rfl, .head _, rfl⟩, VIns.mem hv (fun _ h => .tail _ h) hb⟩ fun v d o' r' l' s'' S'' x' _ hd hp => ?_) fun r s' h => ?_
    · obtain ⟨rfl, fs, rfl, hfb, hP⟩ := hP d o' hp
      refine ⟨hd, ?_⟩
      obtain ⟨y, lr, rfl, ⟨es, n, e0, haux, he⟩, h0⟩ := S''.ow
      obtain rfl : lr = [] := h0
      have S3 := S''.exit 0 rfl
      have S4 : St (C.more (slLd l) (aliveLd l o) aliveLd_sub) m _ [] [] [] s'' := S3.cast rfl rfl rfl rfl rfl rfl rfl rfl
      have hro : ∀ p ∈ r, p ∈ slLd (List.drop 0 [y]) ++ r' := fun p hp => List.mem_append_right _ (x'.ro p (.tail _ hp))
      have S5 := S'.back S4 hro
      have hy : y.a = dx := by
        have := x'.ad 0 dx rfl
        simpa using this
      refine k _ (.ins c fs) o _ l s'' S5 (x.trans ⟨hro, AdLe.refl⟩) ?_ hP
      have hfl := FIns'.cut fs he hfb
      rw [List.take_zero] at hfl
      refine ⟨xa, dx, es, n, rfl, List.mem_append_right _ (x'.ro _ (.head _)), ?_, FIns'.mono (fun p hp => List.mem_append_right _ hp) (fun k a h => by simp at h) fs hfl⟩
      have : (y.a, y.o) ∈ slLd (List.drop 0 [y]) ++ r' := List.mem_append_left _ (slLd_mem (k := 0) rfl)
      rwa [hy, e0] at this
    · cases r with
      | error e => exact h
      | ok f => cases f <;> exact h
end
end
section
open PySem PySem.W PyProof.Rows PySem.Calls
section
variable {sc : Scope} {D U : Nat} {C : Cx sc D U} {m : Str → Option Value} {ro : Ld} {sl : List Sl} {fr : Fm} {own : List MO} {s : Shared} {pos px : Pos} {P : V → List MO → Prop}
noncomputable def WFun (C : Cx sc D U) (f : Value) (ds : List V) (fr : Fm) (own : List MO) (P : V → List MO → Prop) : Prop :=
  ∀ m ro sl s Q vs, St C m ro sl fr own s → VIns C.w ro (adr sl) vs ds → Kv C m ro sl fr Q P → wpAny (model Pg C.w) C.A (call f vs) Q NoE s
structure BFn (w : World) (g : Str) (v : Value) : Prop where
  free : nsIn (KF w) mainGlobals g = some none
  boot : bootBuiltins g = some v
  name : g ≠ "__name__"
theorem WE_blt {g : Str} {id : String} {args : List Expr} (hg : ∀ w, BFn w g (.builtin id)) (h : WEs C args fr own fun ds o => WFun C (.builtin id) ds fr o P) (hx : sc.names.lookup g = some .globalImplicit := by rfl) (hp : plainArgs args = true := by rfl) (hd : (g == ("__debug__" : Str)) = false := by decide) : WE C (.Call (.Name g px) args [] pos) fr own P := by
  intro m ro sl s Q S k
  cases args with
  | nil => cases hp
  | cons e rest =>
    have hp := Bool.and_eq_true_iff.mp hp
    exact Call_ (S.builtin (hg C.w).free (hg C.w).boot (hg C.w).name hx (callWith_builtin1 (h pos m ro sl s _ S fun vs ds o r l s' S' x hv hc => hc m r l s' Q vs S' hv (Kv.ext (Q := Q) k x)) (starEach_plain hp.1) (any_plain hp.2)) hd) (by rfl)
theorem WE_typ {g : Str} {T : String} {args : List Expr} (hg : ∀ w, BFn w g (.type T)) (h : WEs C args fr own fun ds o => WFun C (.type T) ds fr o P) (hx : sc.names.lookup g = some .globalImplicit := by rfl) (hp : plainArgs args = true := by rfl) (hd : (g == ("__debug__" : Str)) = false := by decide) : WE C (.Call (.Name g px) args [] pos) fr own P := by
  intro m ro sl s Q S k
  cases args with
  | nil => cases hp
  | cons e rest =>
    have hp := Bool.and_eq_true_iff.mp hp
    exact Call_ (S.builtin (hg C.w).free (hg C.w).boot (hg C.w).name hx (PyProof.Rows.callWith_type1 (h pos m ro sl s _ S fun vs ds o r l s' S' x hv hc => hc m r l s' Q vs S' hv (Kv.ext (Q := Q) k x)) (starEach_plain hp.1) (any_plain hp.2)) hd) (by rfl)
theorem VIns_one {w : World} {ad : List Addr} {vs : List Value} {d : V} (h : VIns w ro ad vs [d]) : ∃ v, vs = [v] ∧ VIn w ro ad v d := by obtain ⟨v, r, rfl, a, b⟩ := h; exact ⟨v, by rw [show r = [] from b], a⟩
theorem VIns_two {w : World} {ad : List Addr} {vs : List Value} {d e : V} (h : VIns w ro ad vs [d, e]) : ∃ v u, vs = [v, u] ∧ VIn w ro ad v d ∧ VIn w ro ad u e := by obtain ⟨v, r, rfl, a, b⟩ := h; obtain ⟨u, rfl, c⟩ := VIns_one b; exact ⟨v, u, rfl, a, c⟩
theorem WF_lenL {l : List PyData} (hz : l.length ≤ 1000) (hP : P (.d (.int l.length)) own) : WFun C (.builtin "len") [.d (.list l)] fr own P := by
  intro m ro sl s Q vs S hv k
  obtain ⟨v, rfl, a, us, n, rfl, ma, hl⟩ := VIns_one hv
  refine len_led S.N (S.news ma) (by rw [hl.len]; exact hz) (k _ (.d (.int l.length)) own ro sl _ (S.tk.tk) .refl ⟨s.toks + 1, by rw [hl.len]⟩ hP)
theorem WF_lenT {l : List PyData} (hz : l.length ≤ 1000) (hP : P (.d (.int l.length)) own) : WFun C (.builtin "len") [.d (.tuple l)] fr own P := by
  intro m ro sl s Q vs S hv k
  obtain ⟨v, rfl, a, us, rfl, ma, hl⟩ := VIns_one hv
  refine len_tup S.N (S.news ma) (by rw [hl.len]; exact hz) (k _ (.d (.int l.length)) own ro sl _ (S.tk.tk) .refl ⟨s.toks + 1, by rw [hl.len]⟩ hP)
theorem WF_lenS {l : List PyData} {j : Nat} (ho : own[j]? = some (.lst l)) (hz : l.length ≤ 1000) (hP : P (.d (.int l.length)) own) : WFun C (.builtin "len") [.slot j] fr own P := by
  intro m ro sl s Q vs S hv k
  obtain ⟨v, rfl, hv1⟩ := VIns_one hv
  obtain ⟨y, rfl, hy, us, n, e0, _, hl⟩ := S.slot ho hv1
  have hm := slLd_mem hy
  rw [e0] at hm
  refine len_led S.N (List.mem_append_left _ hm) (by rw [hl.len]; exact hz) (k _ (.d (.int l.length)) own ro sl _ (S.tk.tk) .refl ⟨s.toks + 1, by rw [hl.len]⟩ hP)
theorem WF_intB {b : Bool} (hP : P (.d (.int (if b = true then 1 else 0))) own) : WFun C (.type "int") [.d (.bool b)] fr own P := by
  intro m ro sl s Q vs S hv k
  obtain ⟨v, rfl, hv1⟩ := VIns_one hv
  obtain rfl : v = .bool b := hv1
  exact call_int_bool (k.tk S.tk (.d (.int _)) ⟨_, rfl⟩ hP)
theorem WF_intI {n : Int} (hP : P (.d (.int n)) own) : WFun C (.type "int") [.d (.int n)] fr own P := by
  intro m ro sl s Q vs S hv k
  obtain ⟨v, rfl, t, rfl⟩ := VIns_one hv
  exact call_int_int (k.tk S (.d (.int _)) ⟨_, rfl⟩ hP)
theorem WF_range {i : Int} (n : Nat) (hi : i = n) (hP : P (.rng n) own) : WFun C (.type "range") [.d (.int i)] fr own P := by
  intro m ro sl s Q vs S hv k
  obtain ⟨v, rfl, t, rfl⟩ := VIns_one hv
  subst hi
  have hL := S.F.ns.lt
  refine range1_rows S.F S.N fun h' tk t1 u1 v1 hr F' N' hk => ?_
  refine k _ (.rng n) own ((s.heap.objs.size, _) :: ro) sl _ (S.push (tk := tk) F' (fun p hp => ?_) fun p hp => Heap.lt_size (S.N p hp).1) .push ⟨_, t1, u1, v1, rfl, .head _⟩ hP
  rcases List.mem_cons.mp hp with rfl | hp
  · refine ⟨hr, Nat.ne_of_gt hL, ?_⟩
    cases q : C.h₀.get? s.heap.objs.size with
    | none => rfl
    | some o' => exact absurd (Heap.lt_size (S.F.keep _ _ q)) (Nat.lt_irrefl _)
  · exact N' p hp
theorem WF_min {a b : Int} (hP : P (.d (.int (if b < a then b else a))) own) : WFun C (.builtin "min") [.d (.int a), .d (.int b)] fr own P := by
  intro m ro sl s Q vs S hv k
  obtain ⟨v, u, rfl, ⟨t, rfl⟩, ⟨t', rfl⟩⟩ := VIns_two hv
  exact min_two_N C.hh S.F S.N fun h' tk F' N' => k _ (.d (.int _)) own ro sl _ (S.same F' N') .refl ⟨_, rfl⟩ hP
theorem WF_max {a b : Int} (hP : P (.d (.int (if b > a then b else a))) own) : WFun C (.builtin "max") [.d (.int a), .d (.int b)] fr own P := by
  intro m ro sl s Q vs S hv k
  obtain ⟨v, u, rfl, ⟨t, rfl⟩, ⟨t', rfl⟩⟩ := VIns_two hv
  exact max_two_N C.hh S.F S.N fun h' tk F' N' => k _ (.d (.int _)) own ro sl _ (S.same F' N') .refl ⟨_, rfl⟩ hP
theorem intsAre {ns : List Int} : ∀ {vs : List Value}, PIns ro vs (ns.map .int) → IntsAre vs ns := by
  induction ns with
  | nil => intro vs h; rw [show vs = [] from h]; exact .nil
  | cons n ns ih => rintro _ ⟨v, r, rfl, ⟨t, rfl⟩, b⟩; exact .cons n t (ih b)
theorem WF_sum {ns : List Int} (hP : P (.d (.int ns.sum)) own) : WFun C (.builtin "sum") [.d (.list (ns.map .int))] fr own P := by
  intro m ro sl s Q vs S hv k
  obtain ⟨v, rfl, a, us, n, rfl, ma, hl⟩ := VIns_one hv
  exact sumK C.hh S.F S.N ⟨_, S.inro ma, rfl, _, rfl⟩ (intsAre hl) fun h' tk t' F' N' => k _ (.d (.int ns.sum)) own ro sl _ (S.same F' N') .refl ⟨_, rfl⟩ hP
theorem WF_minS {ns : List Int} {j : Nat} (ho : own[j]? = some (.lst (ns.map .int))) (h0 : 0 < ns.length) (hP : ∀ M, M ∈ ns → (∀ a ∈ ns, M ≤ a) → P (.d (.int M)) own) : WFun C (.builtin "min") [.slot j] fr own P := by
  intro m ro sl s Q vs S hv k
  obtain ⟨v, rfl, hv1⟩ := VIns_one hv
  obtain ⟨y, rfl, hy, us, n, e0, _, hl⟩ := S.slot ho hv1
  have hm := slLd_mem hy
  rw [e0] at hm
  exact min_lst C.hh S.F S.N (List.mem_append_left _ hm) (intsAre hl) h0 fun h' M t tk F' N' hM hle => k _ (.d (.int M)) own ro sl _ (S.same F' N') .refl ⟨_, rfl⟩ (hP M hM hle)
theorem WF_tupleL {l : List PyData} (hz : l.length ≤ 1000) (hP : P (.d (.tuple l)) own) : WFun C (.type "tuple") [.d (.list l)] fr own P := by
  intro m ro sl s Q vs S hv k
  obtain ⟨v, rfl, a, us, n, rfl, ma, hl⟩ := VIns_one hv
  refine kde_tupleOf S.F S.N (zs := us) ⟨_, S.inro ma, rfl, _, rfl⟩ (by simp [hl.len]; omega) (by simp) fun D' h' F' N' l' => ?_
  exact k _ (.d (.tuple l)) _ _ _ _ (S.push (tk := s.toks) F' N' l') .push ⟨_, us, rfl, .head _, PIns.mono (fun _ h => .tail _ h) _ hl⟩ hP
noncomputable def pairsOf (l : List (List Str × PyData)) : List PyData := l.map fun x => .tuple [encS x.1, x.2]
theorem pairs_dict {w : World} : ∀ {l : List (List Str × PyData)} {vs : List Value}, PIns ro vs (pairsOf l) → ∃ xs, DPairs ro encS xs l ∧ xs.map (·.1) = l.map (·.1) ∧ vs.length = xs.length ∧ (∀ (j : Nat) x, xs[j]? = some x → ∃ a, vs[j]? = some (.ref a) ∧ (a, tupO [.ref x.2.1, x.2.2]) ∈ ro) ∧ KeysIn (strKind Pg w) ro xs
  | [], vs, h => by rw [show vs = [] from h]; exact ⟨[], rfl, rfl, rfl, (fun j x e => by simp at e), fun _ h => nomatch h⟩
  | (k, d) :: l, _, h => by
    obtain ⟨v, r, rfl, ⟨a, us, rfl, ma, u, r2, rfl, hu, u2, r3, rfl, hu2, e3⟩, b⟩ := h
    obtain rfl : r3 = [] := e3
    obtain ⟨xs, h1, h2, h3, h4, h5⟩ := pairs_dict (w := w) b
    obtain ⟨c, ws, rfl, mc, hw⟩ := id hu
    refine ⟨(k, c, u2) :: xs, ⟨c, u2, xs, rfl, hu, hu2, h1⟩, by simp [h2], by simp [h3], fun j x e => ?_, fun x hx => ?_⟩
    · cases j with
      | zero => simp at e; subst e; exact ⟨a, rfl, ma⟩
      | succ j => simp at e; simpa using h4 j x e
    · rcases List.mem_cons.mp hx with rfl | hx
      · exact ⟨_, mc, .made (strItems hw)⟩
      · exact h5 x hx
theorem WF_dict {l : List (List Str × PyData)} (hn : (l.map (·.1)).Nodup) (hz : l.length ≤ 900) (hP : P (.dS l) own) (hu : Nat.ble 2 U = true := by rfl) : WFun C (.type "dict") [.d (.list (pairsOf l))] fr own P := by
  intro m ro sl s Q vs S hv k
  obtain ⟨v, rfl, a, us, n, rfl, ma, hl⟩ := VIns_one hv
  have hU := C.units
  have hu := Nat.le_of_ble_eq_true hu
  obtain ⟨xs, h1, h2, h3, h4, h5⟩ := pairs_dict (w := C.w) hl
  have hxl := h1.len
  refine td_new (knd := strKind Pg C.w) (xs := xs) C.hh (by omega) S.F S.N C.T.nolimit (S.news ma) (by rw [h2]; exact hn) (by omega) h3 (fun j x e => let ⟨a, q, hm⟩ := h4 j x e; ⟨a, q, S.news hm⟩) (h5.mono fun p hp => S.news hp) fun d h' tk o F' N' l' D' T' => ?_
  refine k _ (.dS l) own _ sl _ (S.push (tk := tk) F' N' l') .push ⟨d, xs, rfl, ⟨T'.lo, o, .head _, D', h5.mono fun _ h => .tail _ h⟩, DPairs.mono (fun _ h => .tail _ h) _ h1⟩ hP
theorem keys_pins : ∀ {l : List (List Str × PyData)} {xs : List (List Str × Addr × Value)}, DPairs ro encS xs l → PIns ro (keysOf xs) (l.map fun x => encS x.1)
  | [], xs, h => by rw [show xs = [] from h]; exact rfl
  | (_, _) :: _, _, h => by obtain ⟨b, u, r, rfl, z, x, y⟩ := h; exact ⟨_, _, rfl, z, keys_pins y⟩
theorem WF_listD {l : List (List Str × PyData)} (hz : l.length ≤ 900) (hP : P (.d (.list (l.map fun x => encS x.1))) own) : WFun C (.type "list") [.dS l] fr own P := by
  intro m ro sl s Q vs S hv k
  obtain ⟨v, rfl, a, xs, rfl, T, hp⟩ := VIns_one hv
  refine td_list C.hh S.F S.N (T.mono fun p hp => S.news hp) (by rw [hp.len, sizeLine_eq]; omega) fun D' c h' tk F' N' l' => ?_
  exact k _ (.d (.list _)) own _ sl _ (S.push (tk := tk) F' N' l') .push ⟨D', _, c, rfl, .head _, PIns.mono (fun _ h => .tail _ h) _ (keys_pins hp)⟩ hP
end
end
section
open PySem PySem.W PyProof.Rows PySem.Calls
section
variable {sc : Scope} {D U : Nat} {C : Cx sc D U} {m : Str → Option Value} {ro : Ld} {sl : List Sl} {fr : Fm} {own : List MO} {s : Shared} {pos px : Pos} {PN : Fm → List MO → Prop} {PR : V → List MO → Prop}
structure Sp (C : Cx sc D U) (m : Str → Option Value) (ro : Ld) (sl : List Sl) (fr : Fm) (own : List MO) : Prop where
  nd : ((slLd sl).map (·.1)).Nodup
  ap : ∀ (i : Nat) x mo, sl[i]? = some x → own[i]? = some mo → mo.alive = true → ∀ p ∈ x.led, ∀ q ∈ ro, q.1 ≠ p.1
  apx : ∀ p ∈ slLd sl, ∀ q ∈ C.fx, q.1 ≠ p.1
  mxa : ∀ q ∈ ro, ∀ p ∈ C.mx, q.1 ≠ p.1
  ow : Owns C.w ro (adr sl) sl own
  nm : ∀ x d, fr.lookup x = some d → ∃ v, NmD C m ro x v d ∧ VIn C.w ro (adr sl) v d
theorem St.sp (S : St C m ro sl fr own s) : Sp C m ro sl fr own := ⟨S.nd, S.ap, S.apx, S.mxa, S.ow, S.nm⟩
theorem Sp.st {h : Heap} {tk : Nat} (S : Sp C m ro sl fr own) (F : Fr C.h₀ C.L h m) (N : News C.h₀ C.L h (slLd sl ++ (ro ++ C.fx))) (hg : s.gens = C.gens) (hd : s.drawn = C.drawn) (ho : s.os = C.os) : St C m ro sl fr own { s with heap := h, toks := tk } :=
  ⟨F, N, S.nd, S.ap, S.apx, S.mxa, S.ow, S.nm, hg, hd, ho⟩
theorem Sp.store {x : Str} {v : Value} {d : V} (S : Sp C m ro sl fr own) (hc : C.cm = none) (hx : sc.names.lookup x = some .local) (hv : VIn C.w ro (adr sl) v d) (hd : d.isCel = false) : Sp C (fun y => if y = x then some v else m y) ro sl ((x, d) :: fr) own :=
  ⟨S.nd, S.ap, S.apx, S.mxa, S.ow, fun y d' e => by
    by_cases hy : y = x
    · subst hy
      rw [lookup_cons_self] at e
      cases e
      refine ⟨v, ?_, hv⟩
      unfold NmD
      rw [hd]
      exact .inl ⟨hx, by rw [hc]; exact if_pos rfl⟩
    · rw [lookup_cons_ne hy] at e
      obtain ⟨u, a, b⟩ := S.nm y d' e
      refine ⟨u, ?_, b⟩
      unfold NmD at a ⊢
      cases hd' : d'.isCel with
      | true => rw [hd'] at a; exact a
      | false =>
        rw [hd'] at a
        refine a.imp (fun z => ⟨z.1, ?_⟩) id
        rw [hc] at z ⊢
        exact (if_neg hy).trans z.2⟩
theorem Sp.more1 {p : Addr × Obj} (S : Sp C m ro sl fr own) (h : ∀ q ∈ slLd sl ++ (ro ++ C.fx), q.1 ≠ p.1) : Sp (C.more [p] [p] fun _ h => h) m ro sl fr own :=
  ⟨S.nd, S.ap, fun q hq r hr => by
    rcases List.mem_cons.mp hr with rfl | hr
    · exact Ne.symm (h q (List.mem_append_left _ hq))
    · exact S.apx q hq r hr, fun q hq r hr => by
    rcases List.mem_cons.mp hr with rfl | hr
    · exact h q (List.mem_append_right _ (List.mem_append_left _ hq))
    · exact S.mxa q hq r hr, S.ow, S.nm⟩
theorem Sp.less1 {p : Addr × Obj} (S : Sp (C.more [p] [p] fun _ h => h) m ro sl fr own) : Sp C m ro sl fr own ∧ ∀ q ∈ slLd sl ++ ro, q.1 ≠ p.1 :=
  ⟨⟨S.nd, S.ap, fun q hq r hr => S.apx q hq r (.tail _ hr), fun q hq r hr => S.mxa q hq r (.tail _ hr), S.ow, S.nm⟩, fun q hq => by
    rcases List.mem_append.mp hq with h | h
    · exact Ne.symm (S.apx q h p (.head _))
    · exact S.mxa q h p (.head _)⟩
theorem Cx.locals (C : Cx sc D U) (hc : C.cm = none) : C.env.locals = C.L := by have := C.loc; rw [hc] at this; exact this
theorem mem_ins {α : Type} {x p : α} : ∀ {a b c : List α}, p ∈ a ++ (b ++ (x :: c)) → p ∈ x :: (a ++ (b ++ c))
  | a, b, c, h => by
    rcases List.mem_append.mp h with h | h
    · exact .tail _ (List.mem_append_left _ h)
    · rcases List.mem_append.mp h with h | h
      · exact .tail _ (List.mem_append_right _ (List.mem_append_left _ h))
      · exact (List.mem_cons.mp h).elim (fun e => e ▸ .head _) fun h => .tail _ (List.mem_append_right _ (List.mem_append_right _ h))
theorem mem_out {α : Type} {x p : α} {a b c : List α} (h : p ∈ a ++ (b ++ c)) : p ∈ a ++ (b ++ (x :: c)) := by
  rcases List.mem_append.mp h with h | h
  · exact List.mem_append_left _ h
  · rcases List.mem_append.mp h with h | h
    · exact List.mem_append_right _ (List.mem_append_left _ h)
    · exact List.mem_append_right _ (List.mem_append_right _ (.tail _ h))
theorem mem_mid {α : Type} {x : α} {a b c : List α} : x ∈ a ++ (b ++ (x :: c)) := List.mem_append_right _ (List.mem_append_right _ (.head _))
theorem St.gdo {s' : Shared} (S : St C m ro sl fr own s) (hg : s'.gens = C.gens) (hd : s'.drawn = C.drawn) (ho : s'.os = C.os) : s' = { s with heap := s'.heap, toks := s'.toks } := by
  obtain ⟨h1, g1, d1, t1, o1⟩ := s'
  dsimp only at hg hd ho
  rw [hg, hd, ho, ← S.gens, ← S.drawn, ← S.os]
theorem St.less1 {p : Addr × Obj} (S : St (C.more [p] [p] fun _ h => h) m ro sl fr own s) : St C m ro sl fr own s ∧ (∀ q ∈ slLd sl ++ ro, q.1 ≠ p.1) ∧ s.heap.get? p.1 = some p.2 := by
  obtain ⟨S6, off6⟩ := S.sp.less1
  exact ⟨S6.st (s := s) (tk := s.toks) S.F (fun q hq => S.N q (mem_out hq)) S.gens S.drawn S.os, off6, (S.N p mem_mid).1⟩
inductive InvW (C : Cx sc D U) (J : Nat → Fm → List MO → Prop) (ro : Ld) (sl : List Sl) (i : Nat) (m' : Str → Option Value) : Ld → Prop
  | mk {fr' : Fm} {own' : List MO} {ro' : Ld} {sl' : List Sl} (S : Sp C m' ro' sl' fr' own') (xx : Ext ro sl ro' sl') (hJ : J i fr' own') : InvW C J ro sl i m' (slLd sl' ++ (ro' ++ C.fx))
set_option tactic.hygienic true in
theorem for_walk {x : Str} {body : List Stmt} {I : Addr} {fp : List Addr} {n : Nat} {Pv : Nat → Value → Prop} {Stt : Nat → Heap → Prop} {Q : Flow → Shared → Prop} (dat : Nat → V) (J : Nat → Fm → List MO → Prop) (hc : C.cm = none) (hx : sc.names.lookup x = some .local)
    (W : Walks Pg C.w C.A I fp [I] n Pv Stt) (hIo : ∀ i h, Stt i h → ∃ o, h.get? I = some o) (hfp : ∀ b ∈ fp, b = I ∨ ∃ o, (b, o) ∈ ro) (hst : Stt 0 s.heap) (S : St C m ro sl fr own s) (hLI : C.L ≠ I) (hI0 : C.h₀.get? I = none) (hoff : ∀ p ∈ slLd sl ++ (ro ++ C.fx), p.1 ≠ I)
    (hdat : ∀ i v, i < n → Pv i v → VIn C.w ro (adr sl) v (dat i) ∧ (dat i).isCel = false) (hJ : J 0 fr own)
    (turn : ∀ (C' : Cx sc D U) i fr own, i < n → J i fr own → WS C' body ((x, dat i) :: fr) own (J (i + 1)) PR)
    (k : ∀ m' fr' own' ro' sl' s', St C m' ro' sl' fr' own' s' → Ext ro sl ro' sl' → J n fr' own' → Q .next s')
    (r : ∀ v d m' own' ro' sl' s', St C m' ro' sl' [] own' s' → Ext ro sl ro' sl' → VIn C.w ro' (adr sl') v d → PR d own' → Q (.ret v) s') :
    LoopAtV Pg C.w C.A C.h₀ C.env x body Q NoE (.ref I) s := by
  have hl := C.locals hc
  have hLf : C.L ∉ fp := fun hm => by
    rcases hfp _ hm with e | ⟨o, ho⟩
    · exact hLI e
    · exact (S.N _ (List.mem_append_right _ (List.mem_append_left _ ho))).2.1 rfl
  refine ⟨I, fp, [I], n, Pv, Stt, m, slLd sl ++ (ro ++ C.fx), InvW C J ro sl, rfl, W, by rw [hl]; exact hLf, fun b hb => List.mem_singleton.mp hb ▸ hI0, fun p hp' hI => hoff p hp' (List.mem_singleton.mp hI), hst, by rw [hl]; exact S.F, by rw [hl]; exact S.N, .mk S.sp .refl hJ, ?_, ?_⟩
  · clear hst hJ
    rintro i v m₁ nx s₁ oth ⟨hh', tk', rfl⟩ hin hP ⟨S1, x1, hJ1⟩ hoff₁ hown hget hmem hst₁ F₁ N₁
    rename_i fr1 own1 ro1 sl1
    rw [hl] at F₁ N₁ ⊢
    obtain ⟨oI, hoI⟩ := hIo _ _ hst₁
    have hIm : (I, oI) ∈ oth := hmem I (W.sub I (List.mem_singleton.mpr rfl)) hI0 oI hoI
    have hoff' : ∀ p ∈ slLd sl1 ++ (ro1 ++ C.fx), p.1 ≠ I := fun p hp e => hoff₁ p hp (List.mem_singleton.mpr e)
    obtain ⟨hd1, hd2⟩ := hdat i v hin hP
    have S3 := ((S1.store hc hx (x1.v hd1) hd2).more1 (p := (I, oI)) hoff').st (s := s) (tk := tk') F₁ (fun p hp => (List.mem_cons.mp (mem_ins hp)).elim (fun e => by rw [e]; exact N₁ _ (List.mem_append_left _ hIm)) fun h => N₁ _ (List.mem_append_right _ h)) S.gens S.drawn S.os
    have othIs : ∀ p ∈ oth, p = (I, oI) ∨ p ∈ ro1 := fun p hp => (hfp _ (hown p hp)).elim (fun e => .inl (Prod.ext e (Option.some.inj ((hget p hp).symm.trans (e ▸ hoI))))) fun ⟨o, ho⟩ =>
      .inr ((show p = (p.1, o) from Prod.ext rfl (Option.some.inj ((hget p hp).symm.trans (N₁ _ (List.mem_append_right oth (List.mem_append_right _ (List.mem_append_left _ (x1.ro _ ho))))).1))) ▸ x1.ro _ ho)
    clear hget hmem hoff₁ hst₁ hP N₁ F₁ hown
    refine turn (C.more [(I, oI)] [(I, oI)] fun _ h => h) i fr1 own1 hin hJ1 hc _ _ _ _ _ S3 (fun m' fr' own' ro' sl' s' S4 x4 hJ4 => ?_) fun v d m' own' ro' sl' s' S4 x4 hv hp => .ret (r v d m' own' ro' sl' s' S4.less1.1 (x1.trans x4) hv hp)
    obtain ⟨S5, off5, hI5⟩ := S4.less1
    refine .next ⟨rfl, s'.heap, s'.toks, m', slLd sl' ++ (ro' ++ C.fx), S.gdo S5.gens S5.drawn S5.os, S5.F, fun p hp => ?_, fun p hp hI' => ?_, .mk S5.sp (x1.trans x4) hJ4⟩
    · rcases List.mem_append.mp hp with hp | hp
      · rcases othIs p hp with rfl | hq
        · exact S4.N _ mem_mid
        · exact S5.N _ (List.mem_append_right _ (List.mem_append_left _ (x4.ro _ hq)))
      · exact S5.N p hp
    · rw [← List.append_assoc] at hp
      rcases List.mem_append.mp hp with h | h
      · exact off5 p h (List.mem_singleton.mp hI')
      · exact hoff' p (List.mem_append_right _ (List.mem_append_right _ h)) (List.mem_singleton.mp hI')
  · rintro h' tk m' nx F' N' _ ⟨S1, x1, hJ1⟩
    rw [hl] at F' N'
    exact k m' _ _ _ _ _ (S1.st F' N' S.gens S.drawn S.os) x1 hJ1
noncomputable def iterD : V → Option (Nat × (Nat → V))
  | .d (.list l) => some (l.length, fun i => .d (l.getD i .none))
  | .d (.tuple l) => some (l.length, fun i => .d (l.getD i .none))
  | .rng n => some (n, fun i => .d (.int i))
  | _ => none
theorem WT_for {x : Str} {it : Expr} {body : List Stmt} (h : WE C it fr own fun d o => ∃ n dat, ∃ J : Nat → Fm → List MO → Prop, iterD d = some (n, dat) ∧ n ≤ 1000 ∧ J 0 fr o ∧ (∀ (C' : Cx sc D U) i fr own, i < n → J i fr own → WS C' body ((x, dat i) :: fr) own (J (i + 1)) PR) ∧ ∀ fr own, J n fr own → PN fr own)
    (hx : sc.names.lookup x = some .local := by rfl) (hs : ∀ env x, foldedSetIterable it env x = pure x := by intro _ _; rfl) : WT C (.For (.Name x px) it body [] pos) fr own PN PR := by
  intro hc m ro sl s Q S k r
  have hl := C.locals hc
  refine For_invVF (h₀ := C.h₀) (m := m) (by rw [hl]; exact S.F) ((C.kof x).trans hx) (by rw [C.ek]; rfl) (h m ro sl s _ S fun v d o r1 l1 s1 S1 x1 hv hP => ?_) (hs _) fun _ _ h => h.elim
  obtain ⟨n, dat, J, hi, hz, hJ, turn, done⟩ := hP
  have base := fun I fp Pv Stt (W : Walks Pg C.w C.A I fp [I] n Pv Stt) hIo hfp s2 hst (S2 : St C m r1 l1 fr o s2) hLI hI0 hoff hdat =>
    for_walk (x := x) (body := body) (I := I) (fp := fp) (Pv := Pv) (Stt := Stt) (Q := Q) (PR := PR) (s := s2) (n := n) dat J hc hx W hIo hfp hst S2 hLI hI0 hoff hdat hJ turn (fun m' fr' own' ro' sl' s' a b c => k m' fr' own' ro' sl' s' a (x1.trans b) (done _ _ c)) fun v d m' own' ro' sl' s' a b c e => r v d m' own' ro' sl' s' a (x1.trans b) c e
  have hL : C.L < s1.heap.objs.size := S1.F.ns.lt
  have hI0 : C.h₀.get? s1.heap.objs.size = none := next_is_new S1.F
  have hoff : ∀ p ∈ slLd l1 ++ (r1 ++ C.fx), p.1 ≠ s1.heap.objs.size := fun p hp => Nat.ne_of_lt (Heap.lt_size (S1.N p hp).1)
  cases d with
  | d x =>
    cases x with
    | list l =>
      cases hi
      obtain ⟨a, vs, c, rfl, ma, hl'⟩ := hv
      have hg := S1.inro ma
      have hls : s1.heap.IsList a vs.toArray := ⟨_, hg, rfl, _, rfl⟩
      have hne : a ≠ s1.heap.objs.size := Nat.ne_of_lt (Heap.lt_size hg)
      have W := Walks.list (prog := Pg) (w := C.w) (A := C.A) C.hh s1.heap.objs.size a hne vs.toArray
      rw [show vs.toArray.size = l.length from by simp [hl'.len]] at W
      refine wpAny_pyIter_list hls (base _ _ _ _ W (fun i h st => by obtain ⟨o, e, _⟩ := st.1; exact ⟨o, e⟩) (fun b hb => ?_) { s1 with heap := s1.heap.push { cls := .type "list_iterator", data := .fields #[.ref a, .int 0 0] } } ⟨⟨_, Heap.get?_push_size _ rfl, rfl, rfl⟩, hls.push _⟩
        (S1.same (tk := s1.toks) (S1.F.push _) fun p hp => ⟨Heap.get?_push_of_some _ (S1.N p hp).1, (S1.N p hp).2⟩) (Nat.ne_of_lt hL) hI0 hoff fun i v hi hP => ⟨?_, rfl⟩)
      · rcases List.mem_cons.mp hb with rfl | hb
        · exact .inl rfl
        · exact .inr ⟨_, by rw [List.mem_singleton.mp hb]; exact ma⟩
      · have hx : l[i]? = some (l.getD i .none) := by rw [List.getD_eq_getElem?_getD, List.getElem?_eq_getElem hi]; rfl
        obtain ⟨u, hu, hp⟩ := hl'.get hx
        have : vs.toArray[i]? = some v := hP
        rw [show vs.toArray[i]? = vs[i]? from by simp, hu] at this
        cases this
        exact hp
    | tuple l =>
      cases hi
      obtain ⟨a, vs, rfl, ma, hl'⟩ := hv
      have hg := S1.inro ma
      have hls : s1.heap.IsTuple a vs.toArray := ⟨_, hg, rfl, _, rfl⟩
      have hne : a ≠ s1.heap.objs.size := Nat.ne_of_lt (Heap.lt_size hg)
      have W := Walks.tuple (prog := Pg) (w := C.w) (A := C.A) C.hh s1.heap.objs.size a hne vs.toArray
      rw [show vs.toArray.size = l.length from by simp [hl'.len]] at W
      refine wpAny_pyIter_tuple hls (base _ _ _ _ W (fun i h st => by obtain ⟨o, e, _⟩ := st.1; exact ⟨o, e⟩) (fun b hb => ?_) { s1 with heap := s1.heap.push { cls := .type "tuple_iterator", data := .fields #[.ref a, .int 0 0] } } ⟨⟨_, Heap.get?_push_size _ rfl, rfl, rfl⟩, hls.at fun o e => Heap.get?_push_of_some _ e⟩
        (S1.same (tk := s1.toks) (S1.F.push _) fun p hp => ⟨Heap.get?_push_of_some _ (S1.N p hp).1, (S1.N p hp).2⟩) (Nat.ne_of_lt hL) hI0 hoff fun i v hi hP => ⟨?_, rfl⟩)
      · rcases List.mem_cons.mp hb with rfl | hb
        · exact .inl rfl
        · exact .inr ⟨_, by rw [List.mem_singleton.mp hb]; exact ma⟩
      · have hx : l[i]? = some (l.getD i .none) := by rw [List.getD_eq_getElem?_getD, List.getElem?_eq_getElem hi]; rfl
        obtain ⟨u, hu, hp⟩ := hl'.get hx
        have : vs.toArray[i]? = some v := hP
        rw [show vs.toArray[i]? = vs[i]? from by simp, hu] at this
        cases this
        exact hp
    | _ => cases hi
  | rng c =>
    cases hi
    obtain ⟨a, t, u, y, rfl, ma⟩ := hv
    refine wpAny_pyIter_range (S1.inro ma) (range_small n (by omega)) (base _ [s1.heap.objs.size] (fun i v => i < n ∧ ∃ t, v = .int (0 + i * 1) t) (fun i h => IsRangeIter h s1.heap.objs.size (0 + (i : Nat) * 1) ((n : Int) - (i : Nat)) 1) ((Walks.range C.hh _ 0 1 n).bound) (fun i h st => ⟨_, st⟩) (fun b hb => .inl (List.mem_singleton.mp hb))
      { s1 with heap := s1.heap.push _ } (by show IsRangeIter _ _ _ _ _; rw [range_len]; simpa using Heap.get?_push_size _ rfl) (S1.same (tk := s1.toks) (S1.F.push _) fun p hp => ⟨Heap.get?_push_of_some _ (S1.N p hp).1, (S1.N p hp).2⟩) (Nat.ne_of_lt hL) hI0 hoff fun i v hi hP => ⟨?_, rfl⟩)
    obtain ⟨_, t, rfl⟩ := hP
    exact ⟨t, by simp⟩
  | _ => cases hi
end
end
section
open PySem PySem.W PyProof.Rows PySem.Calls
open PyProof.Rows.LCg
noncomputable def relabelS (scope sc : Scope) : Scope := { scope with names := scope.names.map fun (n, k) => if (k == .free && sc.kind == .function && sc.names.lookup n == some .cell) then (n, .cell) else (n, k) }
section
variable {sc : Scope} {D U : Nat} {C : Cx sc D U} {m : Str → Option Value} {ro : Ld} {sl : List Sl} {fr : Fm} {own : List MO} {s : Shared} {pos px : Pos} {P : V → List MO → Prop}
theorem Cx.relabel (C : Cx sc D U) (scope : Scope) : PySem.relabel scope C.env = relabelS scope sc := by
  unfold PySem.relabel relabelS
  simp only [C.hsc, C.kof]
noncomputable abbrev Cx.comp (C : Cx sc D U) (scope : Scope) (hk : scope.kind = .function) (cl : List (Str × Addr)) (Cc : Addr) (oC : Obj) (m₂ : Str → Option Value) (hC : NsObj oC m₂) (l : Ld) : Cx (relabelS scope sc) D U :=
  { w := C.w, A := C.A, env := compEnvC scope cl Cc C.env, fenv := C.fenv, outer := C.outer, A₀ := C.A₀, base := C.base, h₀ := C.h₀, L := C.L, mean := C.mean, mg := C.mg, mb := C.mb
    fx := (Cc, oC) :: (l ++ C.fx), mx := (Cc, oC) :: (l ++ C.mx), cm := some m₂, gens := C.gens, drawn := C.drawn, os := C.os
    hh := C.hh, hA := C.hA, hf := C.hf, hfk := C.hfk, hsc := C.relabel scope, hk := hk, B := C.B, X := C.X, T := C.T, room := C.room, units := C.units, glob := C.glob
    hmx := fun p hp => by
      rcases List.mem_cons.mp hp with rfl | hp
      · exact .head _
      · exact .tail _ ((List.mem_append.mp hp).elim (fun h => List.mem_append_left _ h) fun h => List.mem_append_right _ (C.hmx p h))
    bui := C.bui, loc := ⟨oC, .head _, hC⟩ }
structure Cap (sc scope : Scope) (x : Str) (fr cap : Fm) : Prop where
  xl : (relabelS scope sc).names.lookup x = some .local
  frm : ∀ y d, cap.lookup y = some d → fr.lookup y = some d ∧ d.isCel = false ∧ sc.names.lookup y = some .cell ∧ (relabelS scope sc).names.lookup y = some .cell
  clos : ∀ env : Env, (∀ y d, cap.lookup y = some d → ∃ c, env.cells.lookup y = some c) → ∃ cl, closureFor scope env = pure cl ∧ ∀ y d, cap.lookup y = some d → cl.lookup y = env.cells.lookup y
  kind : scope.kind = .function
  cell : ∀ y ∈ scope.names, y.2 ≠ .cell
  names : ∀ y ∈ scope.names, y.2 = .local → scope.names.lookup y.1 = some .local
  own : scope.names.lookup x = some .local
theorem Cap.clo {scope : Scope} {x : Str} {cap : Fm} (K : Cap sc scope x fr cap) (S : St C m ro sl fr own s) : ∃ cl, closureFor scope C.env = pure cl ∧ ∀ y d, cap.lookup y = some d → cl.lookup y = C.env.cells.lookup y := by
  refine K.clos C.env fun y d e => ?_
  obtain ⟨h1, h2, h3, _⟩ := K.frm y d e
  obtain ⟨v, hn, _⟩ := S.nm y d h1
  unfold NmD at hn
  rw [h2] at hn
  rcases hn with h | ⟨_, c, o, h, _⟩
  · rw [h3] at h; cases h.1
  · exact ⟨c, h⟩
theorem Cap.nm {scope : Scope} {x : Str} {cap : Fm} {cl : List (Str × Addr)} {Cc : Addr} {oC : Obj} {m₂ : Str → Option Value} {hC : NsObj oC m₂} {l : Ld} (K : Cap sc scope x fr cap) (hcl : ∀ y d, cap.lookup y = some d → cl.lookup y = C.env.cells.lookup y) (S : Sp C m ro sl fr own) {y : Str} {d : V} (e : cap.lookup y = some d) :
    ∃ v, NmD (C.comp scope K.kind cl Cc oC m₂ hC l) m ro y v d ∧ VIn C.w ro (adr sl) v d := by
  obtain ⟨h1, h2, h3, h4⟩ := K.frm y d e
  obtain ⟨u, hn, hu⟩ := S.nm y d h1
  refine ⟨u, ?_, hu⟩
  unfold NmD at hn ⊢
  rw [h2] at hn ⊢
  rcases hn with hn | ⟨_, c, o, hc, hm, ho⟩
  · rw [h3] at hn; cases hn.1
  · exact .inr ⟨h4, c, o, (hcl y d e).trans hc, hm, ho⟩
theorem Sp.turn {scope : Scope} {fr' : Fm} {cl : List (Str × Addr)} {I Cc Dd : Addr} {oI oC oD : Obj} {m₂ : Str → Option Value} {hC : NsObj oC m₂} {h : Heap} {tk : Nat} {hk : scope.kind = .function} (S : Sp C m ro sl fr own) (F : Fr C.h₀ C.L h m) (N : News C.h₀ C.L h ((I, oI) :: (Cc, oC) :: (Dd, oD) :: (slLd sl ++ (ro ++ C.fx)))) (off : ∀ p ∈ slLd sl ++ (ro ++ C.fx), p.1 ≠ I ∧ p.1 ≠ Cc ∧ p.1 ≠ Dd)
    (hg : s.gens = C.gens) (hd : s.drawn = C.drawn) (ho : s.os = C.os) (nm : ∀ y d, fr'.lookup y = some d → ∃ v, NmD (C.comp scope hk cl Cc oC m₂ hC [(I, oI), (Dd, oD)]) m ro y v d ∧ VIn C.w ro (adr sl) v d) : St (C.comp scope hk cl Cc oC m₂ hC [(I, oI), (Dd, oD)]) m ro sl fr' own { s with heap := h, toks := tk } where
  F := F
  N := fun p hp => N p (by
    simp only [List.mem_append, List.mem_cons, List.not_mem_nil, or_false] at hp ⊢
    rcases hp with h | h | h | (h | h) | h
    · exact .inr (.inr (.inr (.inl h)))
    · exact .inr (.inr (.inr (.inr (.inl h))))
    · exact .inr (.inl h)
    · exact .inl h
    · exact .inr (.inr (.inl h))
    · exact .inr (.inr (.inr (.inr (.inr h)))))
  nd := S.nd
  ap := S.ap
  apx := fun p hp q hq => by
    obtain ⟨a, b, c⟩ := off p (List.mem_append_left _ hp)
    simp only [List.mem_append, List.mem_cons, List.not_mem_nil, or_false] at hq
    rcases hq with rfl | (rfl | rfl) | hq
    · exact Ne.symm b
    · exact Ne.symm a
    · exact Ne.symm c
    · exact S.apx p hp q hq
  mxa := fun q hq p hp => by
    obtain ⟨a, b, c⟩ := off q (List.mem_append_right _ (List.mem_append_left _ hq))
    simp only [List.mem_append, List.mem_cons, List.not_mem_nil, or_false] at hp
    rcases hp with rfl | (rfl | rfl) | hp
    · exact b
    · exact a
    · exact c
    · exact S.mxa q hq p hp
  ow := S.ow
  nm := nm
  gens := hg
  drawn := hd
  os := ho
structure SpOut (C : Cx sc D U) (m : Str → Option Value) (r : Ld) (l : List Sl) (fr : Fm) (o : List MO) (s s' : Shared) (I Cc Dd : Addr) (oI oC oD : Obj) : Prop where
  sp : Sp C m r l fr o
  same : s' = { s with heap := s'.heap, toks := s'.toks }
  F : Fr C.h₀ C.L s'.heap m
  N : News C.h₀ C.L s'.heap ((I, oI) :: (Cc, oC) :: (Dd, oD) :: (slLd l ++ (r ++ C.fx)))
  off : ∀ p ∈ slLd l ++ (r ++ C.fx), p.1 ≠ I ∧ p.1 ≠ Cc ∧ p.1 ≠ Dd
theorem Sp.out {scope : Scope} {fr' : Fm} {cl : List (Str × Addr)} {I Cc Dd : Addr} {oI oC oD : Obj} {m₂ : Str → Option Value} {hC : NsObj oC m₂} {hk : scope.kind = .function} {r : Ld} {l : List Sl} {o : List MO} {s' : Shared} (S : Sp C m ro sl fr own) (off : ∀ p ∈ slLd sl ++ (ro ++ C.fx), p.1 ≠ I ∧ p.1 ≠ Cc ∧ p.1 ≠ Dd)
    (hg : s.gens = C.gens) (hd : s.drawn = C.drawn) (ho : s.os = C.os) (S' : St (C.comp scope hk cl Cc oC m₂ hC [(I, oI), (Dd, oD)]) m r l fr' o s') (x' : Ext ro sl r l) :
    SpOut C m r l fr o s s' I Cc Dd oI oC oD := by
  refine ⟨⟨S'.nd, S'.ap, fun p hp q hq => S'.apx p hp q (.tail _ (List.mem_append_right _ hq)), fun q hq p hp => S'.mxa q hq p (.tail _ (List.mem_append_right _ hp)), S'.ow, fun y d e => let ⟨v, a, b⟩ := S.nm y d e; ⟨v, a.mono x'.ro, x'.v b⟩⟩, ?_, S'.F, fun p hp => S'.N p ?_, fun p hp => ?_⟩
  · have a := S'.gens
    have b := S'.drawn
    have c := S'.os
    obtain ⟨h1, g1, d1, t1, o1⟩ := s'
    dsimp only at a b c
    rw [a, b, c, hg, hd, ho]
  · simp only [List.mem_append, List.mem_cons, List.not_mem_nil, or_false] at hp ⊢
    rcases hp with h | h | h | h | h | h
    · exact .inr (.inr (.inr (.inl (.inl h))))
    · exact .inr (.inr (.inl h))
    · exact .inr (.inr (.inr (.inl (.inr h))))
    · exact .inl h
    · exact .inr (.inl h)
    · exact .inr (.inr (.inr (.inr h)))
  · rcases List.mem_append.mp hp with h | h
    · have a := S'.apx p h
      exact ⟨Ne.symm (a (I, oI) (.tail _ (.head _))), Ne.symm (a (Cc, oC) (.head _)), Ne.symm (a (Dd, oD) (.tail _ (.tail _ (.head _))))⟩
    · rcases List.mem_append.mp h with h | h
      · have a := S'.mxa p h
        exact ⟨a (I, oI) (.tail _ (.head _)), a (Cc, oC) (.head _), a (Dd, oD) (.tail _ (.tail _ (.head _)))⟩
      · exact off p (List.mem_append_right _ (List.mem_append_right _ h))
theorem vcomp_rest {scope : Scope} {x : Str} {cap : Fm} {cl : List (Str × Addr)} {elt : Expr} {s : Shared} {Q : Value → Shared → Prop} (K : Cap sc scope x fr cap) (hcl : ∀ y d, cap.lookup y = some d → cl.lookup y = C.env.cells.lookup y) (n : Nat) (dat : Nat → V) {Pv : Nat → Value → Prop} (J : Nat → List PyData → List MO → Prop) (r0 : Ld) (l0 : List Sl)
    (hg : s.gens = C.gens) (hd : s.drawn = C.drawn) (ho : s.os = C.os) (hdat : ∀ i v, i < n → Pv i v → VIn C.w r0 (adr l0) v (dat i) ∧ (dat i).isCel = false)
    (turn : ∀ (C' : Cx (relabelS scope sc) D U) i ys own, i < n → J i ys own → WE C' elt ((x, dat i) :: cap) own fun d o => ∃ y, d = .d y ∧ J (i + 1) (ys ++ [y]) o)
    (fin : ∀ vs ys own' ro' sl', Sp C m ro' sl' fr own' → Ext r0 l0 ro' sl' → PIns ro' vs ys → J n ys own' → FinE C.h₀ C.L m s Q vs (slLd sl' ++ (ro' ++ C.fx))) :
    ∀ k i vs ys own ro sl, i + k = n → Sp C m ro sl fr own → Ext r0 l0 ro sl → PIns ro vs ys → J i ys own →
      CompRest Pg C.w C.A C.h₀ C.L m C.env elt x scope cl s (fun nw => ∀ p ∈ r0, p ∈ nw) Pv (FinE C.h₀ C.L m s Q) k i vs (slLd sl ++ (ro ++ C.fx))
  | 0, i, vs, ys, own, ro, sl, hi, S, xx, hv, hJ => fin vs ys own ro sl S xx hv (by rw [← hi]; exact hJ)
  | k + 1, i, vs, ys, own, ro, sl, hi, S, xx, hv, hJ => by
    intro v I oI Cc oC Dd m₂ h tk E' hP hC hx F N off ne
    have off := off.mem
    obtain ⟨hd1, hd2⟩ := hdat i v (by omega) hP
    have S1 := S.turn (hk := K.kind) (cl := cl) (hC := hC) (tk := tk) (fr' := (x, dat i) :: cap) F N off hg hd ho fun y d e => by
      by_cases hy : y = x
      · subst hy
        rw [lookup_cons_self] at e
        cases e
        refine ⟨v, ?_, xx.v hd1⟩
        unfold NmD
        rw [hd2]
        exact .inl ⟨K.xl, hx⟩
      · rw [lookup_cons_ne hy] at e
        exact K.nm hcl S e
    refine wpAny_mono (turn _ i ys own (by omega) hJ m ro sl _ (CompEnd C.h₀ C.L m { s with heap := h, toks := tk } I oI Cc oC Dd (lst vs) (fun nw => ∀ p ∈ r0, p ∈ nw) fun y news' => CompRest Pg C.w C.A C.h₀ C.L m C.env elt x scope cl s (fun nw => ∀ p ∈ r0, p ∈ nw) Pv (FinE C.h₀ C.L m s Q) k (i + 1) (vs ++ [y]) news') S1 fun u d o r l s' S' x' hu hp => ?_) (fun _ _ z => z) fun _ _ z => z.elim
    obtain ⟨y, rfl, hJ'⟩ := hp
    have z := S.out off hg hd ho S' x'
    exact ⟨s'.heap, s'.toks, slLd l ++ (r ++ C.fx), z.same, z.F, z.N, Off3.of z.off, fun p hp => List.mem_append_right _ (List.mem_append_left _ (x'.ro p (xx.ro p hp))), vcomp_rest K hcl n dat J r0 l0 hg hd ho hdat turn fin k (i + 1) _ (ys ++ [y]) o r l (by omega) z.sp (xx.trans x') ((PIns.mono x'.ro _ hv).snoc hu) hJ'⟩
end
end
section
open PySem PySem.W PyProof.Rows PySem.Calls
open PyProof.Rows.LCg
section
variable {sc : Scope} {D U : Nat} {C : Cx sc D U} {m : Str → Option Value} {ro : Ld} {sl : List Sl} {fr : Fm} {own : List MO} {s : Shared} {pos px : Pos} {P : V → List MO → Prop}
theorem off1_mem {D : Addr} : ∀ {l : Ld}, Off1 D l → ∀ p ∈ l, p.1 ≠ D
  | [], _, _, h => nomatch h
  | q :: l, h, p, hp => by
    rcases List.mem_cons.mp hp with rfl | hp
    · exact h.1
    · exact off1_mem h.2 p hp
theorem vfin {v0 : List Value} {ys : List PyData} {s : Shared} {Q : Value → Shared → Prop} {r0 : Ld} {l0 : List Sl} {own' : List MO} {ro' : Ld} {sl' : List Sl} (hg : s.gens = C.gens) (hd : s.drawn = C.drawn) (ho : s.os = C.os) (S : Sp C m ro' sl' fr own') (x : Ext r0 l0 ro' sl') (hv : PIns ro' v0 ys) (q : Kv C m r0 l0 fr Q P) (hP : P (.d (.list ys)) own') :
    FinE C.h₀ C.L m s Q v0 (slLd sl' ++ (ro' ++ C.fx)) := by
  intro Dd h tk F N off
  have off := off1_mem off
  have S1 : St C m ro' sl' fr own' { s with heap := h, toks := tk } := S.st F (fun p hp => N p (.tail _ hp)) hg hd ho
  refine q _ (.d (.list ys)) own' ((Dd, lst v0) :: ro') sl' _ (S1.re (h' := h) (tk := tk) F (fun p hp => N p ?_) (fun _ h => .tail _ h) fun q hq => ?_) (x.trans .push) ⟨Dd, v0, _, rfl, .head _, PIns.mono (fun _ h => .tail _ h) _ hv⟩ hP
  · simp only [List.mem_append, List.mem_cons] at hp ⊢
    rcases hp with h | (h | h) | h <;> simp [h]
  · rcases List.mem_cons.mp hq with rfl | hq
    · exact .inr ⟨fun p hp => Ne.symm (off p (List.mem_append_left _ hp)), fun p hp => Ne.symm (off p (List.mem_append_right _ (List.mem_append_right _ hp)))⟩
    · exact .inl hq
theorem WE_comp {x : Str} {elt it : Expr} {scope : Scope} {cap : Fm} (K : Cap sc scope x fr cap)
    (h : WE C it fr own fun d o => ∃ n dat, ∃ J : Nat → List PyData → List MO → Prop, iterD d = some (n, dat) ∧ n ≤ 1000 ∧ J 0 [] o ∧ (∀ (C' : Cx (relabelS scope sc) D U) i ys own, i < n → J i ys own → WE C' elt ((x, dat i) :: cap) own fun d o => ∃ y, d = .d y ∧ J (i + 1) (ys ++ [y]) o) ∧ ∀ ys o, J n ys o → P (.d (.list ys)) o)
    (hs : ∀ env x, foldedSetIterable it env x = pure x := by intro _ _; rfl) : WE C (.ListComp elt [⟨.Name x px, it, [], 0⟩] scope pos) fr own P := by
  intro m ro sl s Q S k
  obtain ⟨cl, hclos, hcl⟩ := K.clo S
  rw [eval_ListComp]
  refine wpAny_comprehension_free (use := none) rfl (hs _) hclos K.kind K.names (h m ro sl s _ S fun xv d o r1 l1 s1 S1 x1 hv hP => ?_)
  obtain ⟨n, dat, J, hi, hz, hJ, turn, done⟩ := hP
  have hL : C.L < s1.heap.objs.size := S1.F.ns.lt
  have base := fun fp Pv Stt H1 (W : Walks Pg C.w C.A s1.heap.objs.size fp [s1.heap.objs.size] n Pv Stt) hIo hSt hst hfp (up : ∀ b o, s1.heap.get? b = some o → H1.get? b = some o) hdat =>
    block_U (prog := Pg) (w := C.w) (A := C.A) (E := NoE) (h₀ := C.h₀) (L := C.L) (m := m) (env := C.env) (elt := elt) (iter := it) (x := x) (px := px) (scope := scope) (cl := cl) (pos := pos) (s₂ := { s1 with heap := H1 }) (I := s1.heap.objs.size) (fp := fp) (n := n) (P := Pv) (St := Stt) (S := fun nw => ∀ p ∈ r1, p ∈ nw) (news := slLd l1 ++ (r1 ++ C.fx))
      (Fin := FinE C.h₀ C.L m { s1 with heap := H1 } Q) (RR := fun D' C'' => compPost (model Pg C.w) C.A NoE none Q D' C'') W (by rw [sizeLine_eq]; omega) hIo hSt K.cell K.kind K.own hst hfp (S1.F.keeps up) (S1.N.grown up) (Nat.ne_of_lt hL) (next_is_new S1.F) (fun p hp => Nat.ne_of_lt (Heap.lt_size (S1.N p hp).1)) (fun p hp => List.mem_append_right _ (List.mem_append_left _ hp))
      (vcomp_rest (s := { s1 with heap := H1 }) K hcl n dat J r1 l1 S1.gens S1.drawn S1.os hdat turn (fun vs ys own' ro' sl' Sp' x' hv' hJ' => vfin (r0 := r1) (l0 := l1) (P := P) S1.gens S1.drawn S1.os Sp' x' hv' (Kv.ext (Q := Q) k x1) (done ys own' hJ')) n 0 [] [] o r1 l1 (Nat.zero_add _) S1.sp .refl rfl hJ)
      (by
        intro D' C'' h tk m' ys news' F' N' o1 hn hC₀ hD₀ hCL hDL hCD offC fin
        refine ⟨m', hn, fun h'' hs'' => fin D' h'' tk (F'.change hs'' hCL hC₀) (fun p hp => ?_) o1⟩
        refine ⟨hs''.extBut _ _ ?_ (N' p hp).1, (N' p hp).2⟩
        rcases List.mem_cons.mp hp with rfl | hp
        · exact Ne.symm hCD
        · exact offC p hp)
  have size1 : ∀ o : Obj, (s1.heap.push o).objs.size = s1.heap.objs.size + 1 := fun o => Heap.size_push ..
  have up : ∀ (o' : Obj) b o, s1.heap.get? b = some o → (s1.heap.push o').get? b = some o := fun _ b o e => Heap.get?_push_of_some _ e
  cases d with
  | d y =>
    cases y with
    | list l =>
      cases hi
      obtain ⟨a, vs, c, rfl, ma, hl'⟩ := hv
      have hg := S1.inro ma
      have hls : s1.heap.IsList a vs.toArray := ⟨_, hg, rfl, _, rfl⟩
      have hlt := Heap.lt_size hg
      have W := Walks.list (prog := Pg) (w := C.w) (A := C.A) C.hh s1.heap.objs.size a (Nat.ne_of_lt hlt) vs.toArray
      rw [show vs.toArray.size = l.length from by simp [hl'.len]] at W
      refine wpAny_pyIter_list hls (base _ _ _ _ W (fun i h st => by obtain ⟨o, e, _⟩ := st.1; exact ⟨o, e⟩) (fun i h h' o nw st e e' k N S => ⟨by obtain ⟨o', q, r⟩ := st.1; rw [e] at q; cases q; exact ⟨o, e', r⟩, ⟨_, N.get (S _ ma), rfl, _, rfl⟩⟩) ⟨⟨_, Heap.get?_push_size _ rfl, rfl, rfl⟩, hls.push _⟩ (fun b hb => ?_) (up _) fun i v hi hP => ⟨?_, rfl⟩)
      · show b < (s1.heap.push _).objs.size
        rw [size1]
        rcases List.mem_cons.mp hb with rfl | hb
        · exact Nat.lt_succ_self _
        · rw [List.mem_singleton.mp hb]; exact Nat.lt_succ_of_lt hlt
      · have hx : l[i]? = some (l.getD i .none) := by rw [List.getD_eq_getElem?_getD, List.getElem?_eq_getElem hi]; rfl
        obtain ⟨u, hu, hp⟩ := hl'.get hx
        have : vs.toArray[i]? = some v := hP
        rw [show vs.toArray[i]? = vs[i]? from by simp, hu] at this
        cases this
        exact hp
    | tuple l =>
      cases hi
      obtain ⟨a, vs, rfl, ma, hl'⟩ := hv
      have hg := S1.inro ma
      have hls : s1.heap.IsTuple a vs.toArray := ⟨_, hg, rfl, _, rfl⟩
      have hlt := Heap.lt_size hg
      have W := Walks.tuple (prog := Pg) (w := C.w) (A := C.A) C.hh s1.heap.objs.size a (Nat.ne_of_lt hlt) vs.toArray
      rw [show vs.toArray.size = l.length from by simp [hl'.len]] at W
      refine wpAny_pyIter_tuple hls (base _ _ _ _ W (fun i h st => by obtain ⟨o, e, _⟩ := st.1; exact ⟨o, e⟩) (fun i h h' o nw st e e' k N S => ⟨by obtain ⟨o', q, r⟩ := st.1; rw [e] at q; cases q; exact ⟨o, e', r⟩, ⟨_, N.get (S _ ma), rfl, _, rfl⟩⟩) ⟨⟨_, Heap.get?_push_size _ rfl, rfl, rfl⟩, hls.at fun o e => up _ _ _ e⟩ (fun b hb => ?_) (up _) fun i v hi hP => ⟨?_, rfl⟩)
      · show b < (s1.heap.push _).objs.size
        rw [size1]
        rcases List.mem_cons.mp hb with rfl | hb
        · exact Nat.lt_succ_self _
        · rw [List.mem_singleton.mp hb]; exact Nat.lt_succ_of_lt hlt
      · have hx : l[i]? = some (l.getD i .none) := by rw [List.getD_eq_getElem?_getD, List.getElem?_eq_getElem hi]; rfl
        obtain ⟨u, hu, hp⟩ := hl'.get hx
        have : vs.toArray[i]? = some v := hP
        rw [show vs.toArray[i]? = vs[i]? from by simp, hu] at this
        cases this
        exact hp
    | _ => cases hi
  | rng c =>
    cases hi
    obtain ⟨a, t, u, y, rfl, ma⟩ := hv
    refine wpAny_pyIter_range (S1.inro ma) (range_small n (by omega)) (base [s1.heap.objs.size] (fun i v => i < n ∧ ∃ t, v = .int (0 + i * 1) t) (fun i h => IsRangeIter h s1.heap.objs.size (0 + (i : Nat) * 1) ((n : Int) - (i : Nat)) 1) _ ((Walks.range C.hh _ 0 1 n).bound) (fun i h st => ⟨_, st⟩) (fun i h h' o nw st e e' k N S => by have : h.get? _ = some _ := st; rw [e] at this; cases this; exact e')
      (by show IsRangeIter _ _ _ _ _; rw [range_len]; simpa using Heap.get?_push_size _ rfl) (fun b hb => ?_) (up _) fun i v hi hP => ⟨?_, rfl⟩)
    · show b < (s1.heap.push _).objs.size
      rw [size1, List.mem_singleton.mp hb]; exact Nat.lt_succ_self _
    · obtain ⟨_, t, rfl⟩ := hP
      exact ⟨t, by simp⟩
  | _ => cases hi
end
end
section
open PySem PySem.W PyProof.Rows PySem.Calls
theorem DefAt.of {w : World} {f : Addr} {xs : List Str} {body : List Stmt} {scope : Scope} {name qual params dV kV doc pm cdv ct oc an od osl} (h1 : (hd.heap_39 w.params).lookup f = some ⟨oc, od, .func (fnOf name qual params body scope dV kV doc pm an cdv ct), osl⟩) (h2 : codeIn (hd.heap_39 w.params) cdv qual = true)
    (h3 : ∀ s vs, vs.length = xs.length → BindsTo s (fnOf name qual params body scope dV kV doc pm an cdv ct) ⟨vs, []⟩ (xs.zip vs)) (h4 : decide xs.Nodup = true) (h5 : (xs.all fun x => decide (scope.names.lookup x = some .local)) = true) (h6 : scope.isCoroutine = false) (h7 : scope.isGenerator = false) (h8 : scope.kind = .function) (h9 : (scope.names.all fun x => decide (x.2 ≠ .cell)) = true) : DefAt w f xs body scope :=
  ⟨⟨name, qual, params, dV, kV, doc, pm, cdv, ct, oc, an, od, osl, h1, h2, h3⟩, of_decide_eq_true h4, fun x hx => of_decide_eq_true (List.all_eq_true.mp h5 x hx), h6, h7, h8, fun x hx => of_decide_eq_true (List.all_eq_true.mp h9 x hx)⟩
theorem GFn.of {w : World} {g : Str} {f : Addr} (h1 : nsIn (hd.heap_39 w.params) mainGlobals g = some (some (.ref f))) (h2 : keepIn (hd.heap_39 w.params) (.ref f) = true) : GFn w g f := ⟨h1, h2⟩
theorem BFn.of {w : World} {g : Str} {v : Value} (h1 : nsIn (hd.heap_39 w.params) mainGlobals g = some none) (h2 : bootBuiltins g = some v) (h3 : decide (g ≠ "__name__") = true) : BFn w g v := ⟨h1, h2, of_decide_eq_true h3⟩
theorem lenS {P : List Value → Prop} {n : Nat} (h : ∀ a vs, vs.length = n → P (a :: vs)) (vs : List Value) (e : vs.length = n + 1) : P vs := by
  cases vs with
  | nil => cases e
  | cons a vs => exact h a vs (Nat.succ.inj e)
theorem len0 {P : List Value → Prop} (h : P []) (vs : List Value) (e : vs.length = 0) : P vs := by
  cases vs with
  | nil => exact h
  | cons a vs => cases e
theorem bnd1 {fn : FuncData} {x : Str} (h : ∀ s a, BindsTo s fn ⟨[a], []⟩ [(x, a)]) (s : Shared) : ∀ vs, vs.length = [x].length → BindsTo s fn ⟨vs, []⟩ ([x].zip vs) := lenS fun a => len0 (h s a)
theorem bnd2 {fn : FuncData} {x y : Str} (h : ∀ s a b, BindsTo s fn ⟨[a, b], []⟩ [(x, a), (y, b)]) (s : Shared) : ∀ vs, vs.length = [x, y].length → BindsTo s fn ⟨vs, []⟩ ([x, y].zip vs) := lenS fun a => lenS fun b => len0 (h s a b)
theorem bnd3 {fn : FuncData} {x y z : Str} (h : ∀ s a b c, BindsTo s fn ⟨[a, b, c], []⟩ [(x, a), (y, b), (z, c)]) (s : Shared) : ∀ vs, vs.length = [x, y, z].length → BindsTo s fn ⟨vs, []⟩ ([x, y, z].zip vs) := lenS fun a => lenS fun b => lenS fun c => len0 (h s a b c)
theorem bnd4 {fn : FuncData} {x y z u : Str} (h : ∀ s a b c d, BindsTo s fn ⟨[a, b, c, d], []⟩ [(x, a), (y, b), (z, c), (u, d)]) (s : Shared) : ∀ vs, vs.length = [x, y, z, u].length → BindsTo s fn ⟨vs, []⟩ ([x, y, z, u].zip vs) := lenS fun a => lenS fun b => lenS fun c => lenS fun d => len0 (h s a b c d)
section
variable {sc : Scope} {D U : Nat} {C : Cx sc D U} {fr : Fm} {own : List MO} {pos px : Pos} {P : V → List MO → Prop}
theorem WE_globI {g : Str} {i : Int} {t : Tok} (hg : ∀ w : World, nsIn (hd.heap_39 w.params) mainGlobals g = some (some (.int i t))) (hP : P (.d (.int i)) own) (hx : sc.names.lookup g = some .globalImplicit := by rfl) (hd : (g == ("__debug__" : Str)) = false := by decide) : WE C (.Name g px) fr own P :=
  fun _ _ _ _ _ S k => S.global (hg C.w) hx (k _ (.d (.int i)) own _ _ _ S .refl ⟨t, rfl⟩ hP) hd
theorem Fn.enters {w : World} {f : Addr} {ds : List V} {xs : List Str} {body : List Stmt} {scope : Scope} {D0 U0 : Nat} (df : DefAt w f xs body scope) (hn : xs.length = ds.length) (hcel : (ds.all fun d => !d.isCel) = true) (hD : D + 1 ≤ D0) (hU : U + 3 ≤ U0)
    (h : ∀ C : Cx scope D U, C.w = w → WS C body (xs.zip ds) own (fun _ o => Ex own.length P (.d .none) o) (Ex own.length P)) : Fn w f D0 U0 ds own P := FnLe (Fn.enter df hn hcel h) (Nat.ble_eq.mpr hD) (Nat.ble_eq.mpr hU)
theorem Ex_d {x : PyData} (h : P (.d x) []) : Ex ([] : List MO).length P (.d x) own := ⟨rfl, rfl, Nat.zero_le _, h⟩
theorem WCall_read {f : Addr} {ds : List V} {D' U' : Nat} {P' : V → List MO → Prop} (h : ∀ w, Fn w f D' U' ds [] P') (k : ∀ d, P' d [] → P d own) (hD : Nat.ble D' D = true) (hU : Nat.ble U' U = true) (hb : ds.all (V.bd 0) = true) : WCall C f ds fr own P :=
  WCall_of (own1 := []) (own2 := own) h (fun d o hl hp => by obtain rfl : o = [] := List.length_eq_zero_iff.mp hl; exact k d hp) rfl hD hU rfl hb
theorem WE_map {x : Str} {elt it : Expr} {scope : Scope} {cap : Fm} (K : Cap sc scope x fr cap) (g : Nat → PyData)
    (h : WE C it fr own fun d o => ∃ n dat, iterD d = some (n, dat) ∧ n ≤ 1000 ∧ (∀ (C' : Cx (relabelS scope sc) D U) i, i < n → WE C' elt ((x, dat i) :: cap) o fun d o' => d = .d (g i) ∧ o' = o) ∧ P (.d (.list ((List.range n).map g))) o)
    (hs : ∀ env x, foldedSetIterable it env x = pure x := by intro _ _; rfl) : WE C (.ListComp elt [⟨.Name x px, it, [], 0⟩] scope pos) fr own P := by
  refine WE_comp K (h.mono fun d o hd => ?_) hs
  obtain ⟨n, dat, hi, hz, turn, hP⟩ := hd
  refine ⟨n, dat, fun i ys o' => ys = (List.range i).map g ∧ o' = o, hi, hz, ⟨rfl, rfl⟩, ?_, ?_⟩
  · rintro C' i ys own hi ⟨rfl, rfl⟩
    refine (turn C' i hi).mono ?_
    rintro _ _ ⟨rfl, rfl⟩
    exact ⟨_, rfl, by rw [List.range_succ, List.map_append]; rfl, rfl⟩
  · rintro ys o' ⟨rfl, rfl⟩
    exact hP
end
end
section
open PySem PySem.W PyProof.Rows PySem.Calls
section
variable {sc : Scope} {D U : Nat} {C : Cx sc D U} {fr : Fm} {own : List MO} {pos px : Pos} {P : V → List MO → Prop} {PN : Fm → List MO → Prop} {PR : V → List MO → Prop} {m : Str → Option Value} {ro : Ld} {sl : List Sl} {s : Shared}
noncomputable def FrIs (fr' fr : Fm) : Prop := ∀ y d, fr.lookup y = some d → fr'.lookup y = some d
theorem FrIs.nil {fr' : Fm} : FrIs fr' [] := fun _ _ h => by simp at h
theorem FrIs.cons {fr' : Fm} {x : Str} {d : V} (h : fr'.lookup x = some d) (k : FrIs fr' fr) : FrIs fr' ((x, d) :: fr) := fun y e q => by
  rw [List.lookup_cons] at q
  cases hy : y == x with
  | true => rw [hy] at q; cases q; rw [eq_of_beq hy]; exact h
  | false => rw [hy] at q; exact k y e q
theorem FrIs.refl : FrIs fr fr := fun _ _ h => h
theorem WT_forS {σ : Type} {x : Str} {it : Expr} {body : List Stmt} (st : σ → Fm)
    (h : WE C it fr own fun d o => ∃ n dat, ∃ J : Nat → σ → List MO → Prop, ∃ (c₀ : σ) (fr0 : Fm), iterD d = some (n, dat) ∧ n ≤ 1000 ∧ FrIs fr (st c₀ ++ fr0) ∧ J 0 c₀ o ∧ (∀ (C' : Cx sc D U) i c own, i < n → J i c own → WS C' body ((x, dat i) :: (st c ++ fr0)) own (fun fr' own' => ∃ c', FrIs fr' (st c' ++ fr0) ∧ J (i + 1) c' own') PR) ∧
      ∀ c fr' own, FrIs fr' (st c ++ fr0) → J n c own → PN fr' own)
    (hx : sc.names.lookup x = some .local := by rfl) (hs : ∀ env x, foldedSetIterable it env x = pure x := by intro _ _; rfl) : WT C (.For (.Name x px) it body [] pos) fr own PN PR := by
  refine WT_for (h.mono fun d o hd => ?_) hx hs
  obtain ⟨n, dat, J, c₀, fr0, hi, hz, hf, h0, turn, done⟩ := hd
  refine ⟨n, dat, fun i fr' own' => ∃ c, FrIs fr' (st c ++ fr0) ∧ J i c own', hi, hz, ⟨c₀, hf, h0⟩, ?_, fun fr' own' ⟨c, hf, hJ⟩ => done c fr' own' hf hJ⟩
  rintro C' i fr' own' hi ⟨c, hf, hJ⟩
  refine WS.less (turn C' i c own' hi hJ) fun y d e => ?_
  rw [List.lookup_cons] at e ⊢
  cases hy : y == x with
  | true => rw [hy] at e; exact e
  | false => rw [hy] at e; exact hf y d e
theorem PIns.take {l : List PyData} : ∀ {vs : List Value} {n : Nat}, PIns ro vs l → PIns ro (vs.take n) (l.take n) := by
  induction l with
  | nil => intro vs n h; rw [show vs = [] from h]; simp; exact rfl
  | cons d l ih =>
    rintro _ n ⟨v, r, rfl, a, b⟩
    cases n with
    | zero => exact rfl
    | succ n => exact ⟨v, _, rfl, a, ih b⟩
theorem PIns.drop {l : List PyData} : ∀ {vs : List Value} {n : Nat}, PIns ro vs l → PIns ro (vs.drop n) (l.drop n) := by
  induction l with
  | nil => intro vs n h; rw [show vs = [] from h]; simp; exact rfl
  | cons d l ih =>
    rintro _ n ⟨v, r, rfl, a, b⟩
    cases n with
    | zero => exact ⟨v, r, rfl, a, b⟩
    | succ n => exact ih b
theorem PIns.rev {l : List PyData} : ∀ {vs : List Value}, PIns ro vs l → PIns ro vs.reverse l.reverse := by
  induction l with
  | nil => intro vs h; rw [show vs = [] from h]; exact rfl
  | cons d l ih => rintro _ ⟨v, r, rfl, a, b⟩; rw [List.reverse_cons, List.reverse_cons]; exact (ih b).snoc a
theorem WE_from {x : Str} {lo : Expr} {p : Pos} (h : WE C (.Name x px) fr own fun d o => WE C lo fr o fun e o => ∃ l k, d = .d (.tuple l) ∧ e = .d (.int k) ∧ 1 ≤ k ∧ k.toNat ≤ l.length ∧ l.length ≤ 1000 ∧ P (.d (.tuple (l.drop k.toNat))) o) : WE C (.Subscript (.Name x px) (.Slice (some lo) none none p) pos) fr own P := by
  intro m ro sl s Q S k
  refine Subscript_ (h m ro sl s _ S fun v d o1 r1 l1 s1 S1 x1 hv h1 => wpAny_Slice (evalPart_some_step (h1 m r1 l1 s1 _ S1 fun u e o r l' s' S' x' hu hP => evalPart_none_step (evalPart_none_step ?_))))
  obtain ⟨l, j, rfl, rfl, h1, h2, h3, hP⟩ := hP
  obtain ⟨a, vs, rfl, ma, hl⟩ := x'.v (d := .d (.tuple l)) hv
  obtain ⟨t, rfl⟩ := hu
  have hlen := hl.len
  refine sl_from (s := s') (a := j.toNat) S'.F S'.N (S'.news ma) (Int.toNat_of_nonneg (by omega)).symm (by omega) (by omega) (by rw [sizeLine_eq]; omega) (fun D' h' F' N' l'' => ?_) (by rfl) (fun _ => rfl)
  exact k _ (.d (.tuple (l.drop j.toNat))) o _ l' _ (S'.push (tk := s'.toks) F' N' l'') ((x1.trans x').trans .push) ⟨_, _, rfl, .head _, PIns.mono (fun _ h => .tail _ h) _ hl.drop⟩ hP
theorem WE_upto {x : Str} {hi : Expr} {p : Pos} (h : WE C (.Name x px) fr own fun d o => WE C hi fr o fun e o => ∃ l k, d = .d (.tuple l) ∧ e = .d (.int k) ∧ 0 ≤ k ∧ k.toNat < l.length ∧ l.length ≤ 1000 ∧ P (.d (.tuple (l.take k.toNat))) o) : WE C (.Subscript (.Name x px) (.Slice none (some hi) none p) pos) fr own P := by
  intro m ro sl s Q S k
  refine Subscript_ (h m ro sl s _ S fun v d o1 r1 l1 s1 S1 x1 hv h1 => wpAny_Slice (evalPart_none_step (evalPart_some_step (h1 m r1 l1 s1 _ S1 fun u e o r l' s' S' x' hu hP => evalPart_none_step ?_))))
  obtain ⟨l, j, rfl, rfl, h1, h2, h3, hP⟩ := hP
  obtain ⟨a, vs, rfl, ma, hl⟩ := x'.v (d := .d (.tuple l)) hv
  obtain ⟨t, rfl⟩ := hu
  have hlen := hl.len
  refine sl_upto (s := s') (b := j.toNat) S'.F S'.N (S'.news ma) (Int.toNat_of_nonneg (by omega)).symm (by omega) (by rw [sizeLine_eq]; omega) (fun D' h' F' N' l'' => ?_) (by rfl) (fun _ => rfl)
  exact k _ (.d (.tuple (l.take j.toNat))) o _ l' _ (S'.push (tk := s'.toks) F' N' l'') ((x1.trans x').trans .push) ⟨_, _, rfl, .head _, PIns.mono (fun _ h => .tail _ h) _ hl.take⟩ hP
theorem WE_rev {x : Str} {st : Expr} {p : Pos} (h : WE C (.Name x px) fr own fun d o => WE C st fr o fun e o => ∃ k l, d = .slot k ∧ e = .d (.int (-1)) ∧ o[k]? = some (.lst l) ∧ l.length ≤ 1000 ∧ P (.d (.list l.reverse)) o) : WE C (.Subscript (.Name x px) (.Slice none none (some st) p) pos) fr own P := by
  intro m ro sl s Q S k
  refine Subscript_ (h m ro sl s _ S fun v d o1 r1 l1 s1 S1 x1 hv h1 => wpAny_Slice (evalPart_none_step (evalPart_none_step (evalPart_some_step (h1 m r1 l1 s1 _ S1 fun u e o r l' s' S' x' hu hP => ?_)))))
  obtain ⟨j, l, rfl, rfl, ho, hz, hP⟩ := hP
  obtain ⟨y, rfl, hy, vs, n, e0, haux, hl⟩ := S'.slot ho (x'.v (d := .slot j) hv)
  obtain ⟨t, rfl⟩ := hu
  have hm := slLd_mem hy
  rw [e0] at hm
  have hlen := hl.len
  refine rev_led (s := s') S'.F S'.N (List.mem_append_left _ hm) (PySem.IsPart.int _ _) (by omega) (fun D' h' F' N' l'' => ?_) (by rfl) (fun _ => rfl)
  exact k _ (.d (.list l.reverse)) o _ l' _ (S'.push (tk := s'.toks) F' N' l'') ((x1.trans x').trans .push) ⟨_, _, _, rfl, .head _, PIns.mono (fun _ h => .tail _ h) _ hl.rev⟩ hP
end
end
section
open PySem PySem.W PyProof.Rows PySem.Calls
section
variable {sc : Scope} {D U : Nat} {C : Cx sc D U} {fr : Fm} {own : List MO} {pos px : Pos} {P : V → List MO → Prop} {PN : Fm → List MO → Prop} {PR : V → List MO → Prop} {m : Str → Option Value} {ro : Ld} {sl : List Sl} {s : Shared}
theorem WT_unp3 {e : Expr} {x y z : Str} {p1 p2 p3 tp : Pos} {k} (h : WE C e fr own fun d o => ∃ a b c, d = .d (.tuple [a, b, c]) ∧ PN ((z, .d c) :: (y, .d b) :: (x, .d a) :: fr) o)
    (hx : sc.names.lookup x = some .local := by rfl) (hy : sc.names.lookup y = some .local := by rfl) (hz : sc.names.lookup z = some .local := by rfl) (hn : noComp e = true := by rfl)
    (hsw : ∀ env : Env, env.scope = sc → swappedStores [.Tuple [.Name x p1, .Name y p2, .Name z p3] k tp] e env = pure none := by exact envAll fun _ => rfl) : WT C (.Assign [.Tuple [.Name x p1, .Name y p2, .Name z p3] k tp] e pos) fr own PN PR := by
  intro hc m ro sl s Q S q r
  refine Assign_Tuple (h m ro sl s _ S fun v d o r1 l1 s1 S1 x1 hv hP => ?_) (by simp only [swapsWithSole]; exact swaps_plain hn) (hsw _ C.hsc)
  obtain ⟨a, b, c, rfl, hP⟩ := hP
  obtain ⟨t, vs, rfl, mt, va, r1', rfl, ha, vb, r2', rfl, hb, vc, r3', rfl, hc', e3⟩ := hv
  obtain rfl : r3' = [] := e3
  refine unpackN_ S1.F S1.N ⟨_, S1.inro mt, rfl, _, rfl⟩ C.hh rfl rfl fun h2 F2 N2 => ?_
  have S2 := S1.same (tk := s1.toks) F2 N2
  refine assignInOrder_cons (assign_Name (S2.store (d := .d a) hc hx ha rfl fun m3 s3 S3 => ?_))
  refine assignInOrder_cons (assign_Name (S3.store (d := .d b) hc hy hb rfl fun m4 s4 S4 => ?_))
  refine assignInOrder_cons (assign_Name (S4.store (d := .d c) hc hz hc' rfl fun m5 s5 S5 => ?_))
  exact assignInOrder_nil (q m5 _ o _ l1 s5 S5 x1 hP)
theorem WT_unpL {e : Expr} {x y : Str} {p1 p2 tp : Pos} {k} (h : WE C e fr own fun d o => ∃ a b, d = .d (.list [a, b]) ∧ PN ((y, .d b) :: (x, .d a) :: fr) o)
    (hx : sc.names.lookup x = some .local := by rfl) (hy : sc.names.lookup y = some .local := by rfl)
    (hs : ∀ env : Env, swapsWithSole [.Tuple [.Name x p1, .Name y p2] k tp] e (Pos.line pos) env = pure false := by intro _; rfl)
    (hsw : ∀ env : Env, env.scope = sc → swappedStores [.Tuple [.Name x p1, .Name y p2] k tp] e env = pure none := by exact envAll fun _ => rfl) : WT C (.Assign [.Tuple [.Name x p1, .Name y p2] k tp] e pos) fr own PN PR := by
  intro hc m ro sl s Q S q r
  refine Assign_Tuple (h m ro sl s _ S fun v d o r1 l1 s1 S1 x1 hv hP => ?_) (hs _) (hsw _ C.hsc)
  obtain ⟨a, b, rfl, hP⟩ := hP
  obtain ⟨t, vs, n, rfl, mt, va, r1', rfl, ha, vb, r2', rfl, hb, e3⟩ := hv
  obtain rfl : r2' = [] := e3
  refine kun_list S1.F S1.N ⟨_, S1.inro mt, rfl, _, rfl⟩ C.hh rfl rfl fun h2 F2 N2 => ?_
  have S2 := S1.same (tk := s1.toks) F2 N2
  refine assignInOrder_cons (assign_Name (S2.store (d := .d a) hc hx ha rfl fun m3 s3 S3 => ?_))
  refine assignInOrder_cons (assign_Name (S3.store (d := .d b) hc hy hb rfl fun m4 s4 S4 => ?_))
  exact assignInOrder_nil (q m4 _ o _ l1 s4 S4 x1 hP)
theorem WT_swap2 {e1 e2 : Expr} {x y : Str} {p1 p2 tpos vpos : Pos} {k1 k2} (h : WE C e1 fr own fun a o => WE C e2 fr o fun b o' => a.isCel = false ∧ b.isCel = false ∧ PN ((x, a) :: (y, b) :: fr) o')
    (h1 : plainE e1 = true := by rfl) (h2 : plainE e2 = true := by rfl) (hx : sc.names.lookup x = some .local := by rfl) (hy : sc.names.lookup y = some .local := by rfl)
    (hsw : ∀ env : Env, env.scope = sc → swappedStores [.Tuple [.Name x p1, .Name y p2] k1 tpos] (.Tuple [e1, e2] k2 vpos) env = pure (some [x, y]) := by exact envAll fun _ => rfl) : WT C (.Assign [.Tuple [.Name x p1, .Name y p2] k1 tpos] (.Tuple [e1, e2] k2 vpos) pos) fr own PN PR := by
  refine WT_swap (xs := [x, y]) (WEs_cons (h.mono fun a o h => WEs_cons (h.mono fun b o' h => WEs_nil ?_) h2) h1) hsw fun z hz => ?_
  · obtain ⟨ha, hb, hP⟩ := h
    refine ⟨rfl, Nat.le_of_ble_eq_true rfl, fun d hd => ?_, hP⟩
    simp at hd
    rcases hd with rfl | rfl
    · exact ha
    · exact hb
  · simp at hz
    rcases hz with rfl | rfl
    · exact hx
    · exact hy
end
end
section
open PySem PySem.W PyProof.Rows PySem.Calls
section
variable {sc : Scope} {D U : Nat} {C : Cx sc D U} {fr : Fm} {own : List MO} {pos px : Pos} {P : V → List MO → Prop} {PB : Bool → List MO → Prop} {PN : Fm → List MO → Prop} {PR : V → List MO → Prop} {m : Str → Option Value} {ro : Ld} {sl : List Sl} {s : Shared}
theorem Sp.less {fr' : Fm} (S : Sp C m ro sl fr own) (h : FrIs fr fr') : Sp C m ro sl fr' own := ⟨S.nd, S.ap, S.apx, S.mxa, S.ow, fun x d e => S.nm x d (h x d e)⟩
theorem WCmp_neNil {k : Nat} {l : List PyData} (ho : own[k]? = some (.lst l)) (hP : PB (!l.isEmpty) own) (hu : Nat.ble 1 U = true := by rfl) : WCmp C .NotEq (.slot k) (.d (.list [])) fr own PB := by
  intro m ro sl s Q va vb S ha hb q
  obtain ⟨y, rfl, hy, vs, n, e0, _, hl⟩ := S.slot ho ha
  obtain ⟨b, us, n2, rfl, mb, hu2⟩ := hb
  obtain rfl : us = [] := hu2
  have hm := slLd_mem hy
  rw [e0] at hm
  have hu := Nat.le_of_ble_eq_true hu
  refine ne_lst_nil S.N (List.mem_append_left _ hm) (S.news mb) (by have := C.units; omega) (q.tk S (.d (.bool _)) rfl ⟨_, rfl, ?_⟩)
  have : vs.isEmpty = l.isEmpty := by have := hl.len; cases vs <;> cases l <;> simp_all
  rw [this]
  exact hP
theorem WT_while {σ : Type} {test : Expr} {body : List Stmt} (st : σ → Fm) (μ : σ → Nat) (J : σ → List MO → Prop) (c₀ : σ) (fr0 : Fm) (hf : FrIs fr (st c₀ ++ fr0)) (h0 : J c₀ own)
    (turn : ∀ c own, J c own → WB C test (st c ++ fr0) own fun b o => if b = true then WS C body (st c ++ fr0) o (fun fr' o' => ∃ c', FrIs fr' (st c' ++ fr0) ∧ J c' o' ∧ μ c' < μ c) PR else PN (st c ++ fr0) o) : WT C (.While test body [] pos) fr own PN PR := by
  intro hc m ro sl s Q S k r
  have hsame : ∀ {s' : Shared}, s'.gens = C.gens → s'.drawn = C.drawn → s'.os = C.os → s' = { s with heap := s'.heap, toks := s'.toks } := fun {s'} a b c => by
    obtain ⟨h1, g1, d1, t1, o1⟩ := s'
    dsimp only at a b c
    rw [a, b, c, ← S.gens, ← S.drawn, ← S.os]
  refine While_inv2 (h₀ := C.h₀) (L := C.L) (fun n m' nx => ∃ c own' ro' sl', nx = slLd sl' ++ (ro' ++ C.fx) ∧ μ c = n ∧ Sp C m' ro' sl' (st c ++ fr0) own' ∧ Ext ro sl ro' sl' ∧ J c own') S.F S.N ⟨c₀, own, ro, sl, rfl, rfl, S.sp.less hf, .refl, h0⟩ ?_ fun _ _ h => h.elim
  rintro n m₁ nx h tk F₁ N₁ ⟨c, own1, r1, l1, rfl, rfl, S1, x1, hJ⟩
  refine turn c own1 hJ m₁ r1 l1 _ _ (S1.st F₁ N₁ S.gens S.drawn S.os) fun b o r2 l2 s2 S2 x2 hb => ?_
  cases b with
  | false => exact k m₁ _ o r2 l2 s2 S2 (x1.trans x2) hb
  | true =>
    rw [if_pos rfl] at hb ⊢
    refine hb hc m₁ r2 l2 s2 _ S2 (fun m' fr' o' r3 l3 s3 S3 x3 hp => ?_) fun v d m' o' r3 l3 s3 S3 x3 hv hp => r v d m' o' r3 l3 s3 S3 ((x1.trans x2).trans x3) hv hp
    obtain ⟨c', hf', hJ', hm⟩ := hp
    exact ⟨s3.heap, s3.toks, m', _, μ c', hsame S3.gens S3.drawn S3.os, S3.F, S3.N, hm, c', o', r3, l3, rfl, rfl, S3.sp.less hf', (x1.trans x2).trans x3, hJ'⟩
end
end
section
open PySem PySem.W PyProof.Rows PySem.Calls
noncomputable def MO.asR : MO → Option (List Nat)
  | .refs ks => some ks
  | .lst [] => some []
  | _ => none
theorem MO.asR_in {w : World} {ro : Ld} {ad : List Addr} {x : Sl} {mo : MO} {ks : List Nat} (h : mo.asR = some ks) (hm : MoIn w ro ad x mo) : mo.alive = true ∧ ∃ vs n, x.o = listOf vs.toArray n ∧ x.aux = [] ∧ Refs ad vs ks := by
  cases mo with
  | refs l => cases h; exact ⟨rfl, hm⟩
  | lst l =>
    cases l with
    | nil => cases h; obtain ⟨vs, n, a, b, c⟩ := hm; exact ⟨rfl, vs, n, a, b, c⟩
    | cons _ _ => cases h
  | _ => cases h
theorem Refs.len {ad : List Addr} : ∀ {ks : List Nat} {vs : List Value}, Refs ad vs ks → vs.length = ks.length
  | [], _, h => by rw [show _ = [] from h]; rfl
  | _ :: _, _, ⟨_, _, e, _, k⟩ => by rw [e]; simp [Refs.len k]
theorem Refs.snoc {ad : List Addr} {a : Addr} {j : Nat} (ha : ad[j]? = some a) : ∀ {ks : List Nat} {vs : List Value}, Refs ad vs ks → Refs ad (vs ++ [.ref a]) (ks ++ [j])
  | [], _, h => by rw [show _ = [] from h]; exact ⟨a, [], rfl, ha, rfl⟩
  | _ :: _, _, ⟨b, r, e, m, k⟩ => by rw [e]; exact ⟨b, r ++ [.ref a], rfl, m, Refs.snoc ha k⟩
theorem Refs.get {ad : List Addr} : ∀ {ks : List Nat} {vs : List Value} {i j : Nat}, Refs ad vs ks → ks[i]? = some j → ∃ a, vs[i]? = some (.ref a) ∧ ad[j]? = some a
  | [], _, _, _, _, h => by simp at h
  | _ :: _, _, 0, _, ⟨b, r, e, m, k⟩, h => by simp at h; subst h; exact ⟨b, by rw [e]; rfl, m⟩
  | _ :: _, _, i + 1, _, ⟨b, r, e, m, k⟩, h => by simp at h; obtain ⟨a, x, y⟩ := Refs.get k h; exact ⟨a, by rw [e]; simpa using x, y⟩
theorem VIns.refs {w : World} {ro : Ld} {ad : List Addr} : ∀ {ks : List Nat} {vs : List Value}, VIns w ro ad vs (ks.map .slot) → Refs ad vs ks
  | [], _, h => h
  | _ :: _, _, ⟨_, r, e, ⟨a, e2, m⟩, k⟩ => ⟨a, r, by rw [e, e2], m, VIns.refs k⟩
section
variable {sc : Scope} {D U : Nat} {C : Cx sc D U} {fr : Fm} {own : List MO} {pos px : Pos} {P : V → List MO → Prop} {PB : Bool → List MO → Prop} {PN : Fm → List MO → Prop} {PR : V → List MO → Prop} {m : Str → Option Value} {ro : Ld} {sl : List Sl} {s : Shared} {value slice : Expr}
theorem WE_listR {es : List Expr} (h : WEs C es fr own fun ds o => ∃ ks : List Nat, ds = ks.map .slot ∧ ks.length ≤ 1000 ∧ P (.slot o.length) (o ++ [.refs ks])) : WE C (.List es pos) fr own P := by
  intro m ro sl s Q S q
  refine List_ (h pos m ro sl s _ S fun vs ds own' ro' sl' s' S' x hvs hP => ?_)
  obtain ⟨ks, rfl, hz, hP⟩ := hP
  have hp := hvs.refs
  refine newList_K S'.F S'.N (fun D' h' F' N' l => ?_) (by rw [hp.len, sizeLine_eq]; omega)
  exact q _ (.slot own'.length) _ _ _ _ (S'.newSlot (mo := .refs ks) F' N' l ⟨vs, 0, rfl, rfl, hp⟩) (x.trans .new) (new_slot S'.ow.len.symm) hP
theorem WBin_muln {k : Nat} {i : Int} (hi : i = k) (hz : k < 1000) (hP : P (.slot own.length) (own ++ [.lst (List.replicate k .none)])) : WBin C .Mult (.d (.list [.none])) (.d (.int i)) fr own P := by
  rintro m ro sl s Q va vb S ⟨a, vs, n, rfl, ma, v, r, rfl, hv, hr⟩ ⟨t, rfl⟩ q
  obtain rfl : r = [] := hr
  obtain rfl : v = .none := hv
  refine mul_none S.F S.N (S.news ma) hi (by omega) fun D' h' F' N' l => ?_
  have hp : ∀ k, PIns ro (List.replicate k Value.none) (List.replicate k PyData.none) := fun k => by
    induction k with
    | zero => exact rfl
    | succ k ih => exact ⟨_, _, rfl, rfl, ih⟩
  exact q _ (.slot own.length) _ _ _ _ (S.newSlot (tk := s.toks) (mo := .lst (List.replicate k .none)) F' N' l ⟨_, 0, rfl, rfl, hp k⟩) .new (new_slot S.ow.len.symm) hP
theorem WMeth_appendR {k : Nat} {e : Expr} {mo : MO} {ks0 : List Nat} (h0 : own[k]? = some mo) (hr0 : mo.asR = some ks0) (h : WE C e fr own fun d o => ∃ j mo ks, d = .slot j ∧ o[k]? = some mo ∧ mo.asR = some ks ∧ ks.length ≤ 1000 ∧ P (.d .none) (o.set k (.refs (ks ++ [j])))) (he : plainE e = true := by rfl) : WMeth C "append" (.slot k) [e] fr own P := by
  intro pos pl m ro sl s Q va S ha q
  obtain ⟨y, rfl, hy, hmo⟩ := S.slot h0 ha
  obtain ⟨_, vs0, n0, e0, _, _⟩ := MO.asR_in hr0 hmo
  have hmem := slLd_mem hy
  rw [e0] at hmem
  refine listMethod_K S.N (List.mem_append_left _ hmem) PySem.F.slot_list_append PySem.F.type_list_append ?_
  refine callWith_method1 (args_cons (h m ro sl s _ S fun v d o r l s' S' x hv hP => args_nil ?_) (starEach_plain he)) (starEach_plain he) rfl
  obtain ⟨j, mo, ks, rfl, hk, hr, hz, hP⟩ := hP
  obtain ⟨z, e1, hz', hmo'⟩ := S'.slot hk (x.v ha)
  obtain ⟨hal, us, n, eo, haux, hl⟩ := MO.asR_in hr hmo'
  obtain ⟨b, rfl, hb⟩ := hv
  have e1 : y.a = z.a := by injection e1
  rw [e1]
  have U := S'.updF hz' hk hal haux
  rw [eo] at U
  refine app_led S'.F S'.N U (by rw [hl.len, sizeLine_eq]; omega) fun h' F' N' => ?_
  exact q _ (.d .none) _ _ _ _ (S'.setSlot (mo' := .refs (ks ++ [j])) (tk := s'.toks) hz' hk hal haux F' N' ⟨_, _, rfl, rfl, hl.snoc hb⟩) (x.trans (.set hz')) rfl hP
theorem WSub_ref {ks : List Nat} {k : Int} {i j : Nat} (ho : own[j]? = some (.refs ks)) (h0 : 0 ≤ k ∧ k < 100000) (hx : ks[k.toNat]? = some i) (hP : P (.slot i) own) (hs : plainIx slice = true := by rfl) : WSub C value slice (.slot j) (.d (.int k)) fr own P := by
  rintro m ro sl s Q va vi S hv ⟨t, rfl⟩ q
  obtain ⟨y, rfl, hy, vs, n, e, _, ha⟩ := S.slot ho hv
  obtain ⟨a, hv, hp⟩ := ha.get hx
  have hg := (S.N _ (List.mem_append_left _ (slLd_mem hy))).1
  rw [e] at hg
  exact item_litK (vs := vs) (v := .ref a) ⟨_, hg, rfl, _, rfl⟩ h0.1 (by omega) hv (q.tk S (.slot i) ⟨a, rfl, hp⟩ hP) (subscripted_plain hs)
theorem St.toRefs {k : Nat} (S : St C m ro sl fr own s) (h : own[k]? = some (.lst [])) : St C m ro sl fr (own.set k (.refs [])) s where
  F := S.F
  N := S.N
  nd := S.nd
  ap := fun i x mo hx ho hl => by
    by_cases e : i = k
    · subst e
      exact S.ap i x _ hx h rfl
    · rw [List.getElem?_set_ne (Ne.symm e)] at ho
      exact S.ap i x mo hx ho hl
  apx := S.apx
  mxa := S.mxa
  ow := by
    obtain ⟨x, hx, hm⟩ := S.ow.get h
    have := Owns.set (y := x) (mo' := .refs []) (MO.asR_in rfl hm).2 (k := k) S.ow
    rwa [show sl.set k x = sl from List.ext_getElem? fun j => by
      by_cases e : k = j
      · subst e; rw [List.getElem?_set_self' , hx]; rfl
      · rw [List.getElem?_set_ne e]] at this
  nm := S.nm
  gens := S.gens
  drawn := S.drawn
  os := S.os
theorem WS_toRefs {k : Nat} {ss : List Stmt} (h : own[k]? = some (.lst [])) (hs : WS C ss fr (own.set k (.refs [])) PN PR) : WS C ss fr own PN PR := fun hc m ro sl s Q S => hs hc m ro sl s Q (S.toRefs h)
theorem WSub_slotLast {l : List PyData} {x : PyData} {j : Nat} (ho : own[j]? = some (.lst l)) (hx : l[l.length - 1]? = some x) (hz : l.length < 100000) (hP : P (.d x) own) (hs : plainIx slice = true := by rfl) : WSub C value slice (.slot j) (.d (.int (-1))) fr own P := by
  rintro m ro sl s Q va vi S hv ⟨t, rfl⟩ q
  obtain ⟨y, rfl, hy, vs, n, e, _, ha⟩ := S.slot ho hv
  obtain ⟨v, hv, hp⟩ := ha.get hx
  have hm := slLd_mem hy
  rw [e] at hm
  have e2 := ha.len
  exact item_last (n := n) S.N (List.mem_append_left _ hm) rfl (by omega) (by rw [e2]; exact hv) (q.tk S (.d x) hp hP) (subscripted_plain hs)
end
theorem AttrOk.of {w : World} {c : Addr} {name : Str} {attr} (h1 : plainGet (hd.heap_39 w.params) c name = true) (h2 : hasDictIn (hd.heap_39 w.params) c = true) (h3 : findIn (hd.heap_39 w.params) (.ref c) name = some attr) (h4 : noGet (hd.heap_39 w.params) attr = true) : AttrOk w c name := ⟨h1, h2, _, h3, h4⟩
theorem SetOk.of {w : World} {c : Addr} {name : Str} (h1 : findIn (hd.heap_39 w.params) (.ref c) "__setattr__" = some (some (.builtin "object.__setattr__"))) (h2 : plainOver (hd.heap_39 w.params) c = true) (h3 : takerIn (hd.heap_39 w.params) c name = some none) (h4 : hasDictIn (hd.heap_39 w.params) c = true) : SetOk w c name := ⟨h1, h2, h3, h4⟩
theorem MethOk.of {w : World} {c f : Addr} {name : Str} (h1 : plainGet (hd.heap_39 w.params) c name = true) (h2 : findIn (hd.heap_39 w.params) (.ref c) name = some (some (.ref f))) (h3 : isFn (hd.heap_39 w.params) (.ref f) = true) (h4 : keepIn (hd.heap_39 w.params) (.ref f) = true) : MethOk w c name f := ⟨h1, h2, h3, h4⟩
theorem ClsOk.of {w : World} {g : Str} {c fI : Addr} (h1 : nsIn (hd.heap_39 w.params) mainGlobals g = some (some (.ref c))) (h2 : keepIn (hd.heap_39 w.params) (.ref c) = true) (h3 : makesIn (hd.heap_39 w.params) c = true) (h4 : findIn (hd.heap_39 w.params) (.ref c) "__init__" = some (some (.ref fI))) (h5 : isFn (hd.heap_39 w.params) (.ref fI) = true) : ClsOk w g c fI := ⟨h1, h2, h3, h4, h5⟩
end
section
open PySem PySem.W PyProof.Rows PySem.Calls
section
variable {sc : Scope} {D U : Nat} {C : Cx sc D U} {m : Str → Option Value} {ro : Ld} {sl : List Sl} {fr : Fm} {own : List MO} {s : Shared} {P : V → List MO → Prop}
noncomputable abbrev Cx.intoC (C : Cx sc (D + 1) (U + 3)) (scope : Scope) (qual : Str) (L' f : Addr) (cdv : Value) (g : Heap) (hk : scope.kind = .function) (B : Below C.A C.base (C.fenv :: C.outer) g) (X : (KF C.w).In g) (T : Top hd.view_39 (looseW hd.view_39 []) C.mean C.mg C.mb g) : Cx scope D U where
  w := C.w
  A := C.A.deeper (envOfC qual scope L' f cdv)
  env := envOfC qual scope L' f cdv
  fenv := envOfC qual scope L' f cdv
  outer := C.fenv :: C.outer
  A₀ := C.A
  base := C.base
  h₀ := g
  L := L'
  mean := C.mean
  mg := C.mg
  mb := C.mb
  fx := C.fx
  mx := C.mx
  hmx := C.hmx
  cm := none
  gens := C.gens
  drawn := C.drawn
  os := C.os
  hh := C.hh
  hA := by show C.A.frames.map _ = _; rw [C.hA]; rfl
  hf := rfl
  hfk := hk
  hsc := rfl
  hk := hk
  B := B
  X := X
  T := T
  room := by have := C.room; show C.A.depth + 1 + D < _; omega
  units := by have := C.units; show C.A.units + 3 + U < _; omega
  glob := rfl
  bui := rfl
  loc := rfl
structure DefAtC (w : World) (f : Addr) (xs : List Str) (body : List Stmt) (scope : Scope) : Prop where
  at_ : ∃ name qual params dV kV doc pm cdv ct oc an od osl, (KF w).lookup f = some ⟨oc, od, .func (fnOf name qual params body scope dV kV doc pm an cdv ct), osl⟩ ∧ codeIn (KF w) cdv qual = true ∧
    ∀ s vs, vs.length = xs.length → BindsTo s (fnOf name qual params body scope dV kV doc pm an cdv ct) ⟨vs, []⟩ (xs.zip vs)
  nd : xs.Nodup
  loc : ∀ x ∈ xs, scope.names.lookup x = some .local ∨ scope.names.lookup x = some .cell
  co : scope.isCoroutine = false
  gen : scope.isGenerator = false
  kind : scope.kind = .function
  cell : ((cellsFrom 0 scope.names []).map (·.1)).Nodup
structure Ent (C : Cx sc D U) (m : Str → Option Value) (ro : Ld) (sl : List Sl) (cells : Ld) (xs : List Str) (vs : List Value) (s : Shared) : Prop where
  N : News C.h₀ C.L s.heap (cells ++ (slLd sl ++ (ro ++ C.fx)))
  lt : ∀ p ∈ slLd sl ++ (ro ++ C.fx), p.1 < C.L
  cl : C.env.cells = cellsFrom (C.L + 1) sc.names []
  y : CellsAre (bindC C.env.kindOf (xs.zip vs) fun _ => none) C.env.cells cells
  m : m = bindL C.env.kindOf (xs.zip vs) fun _ => none
  cm : C.cm = none
theorem Fn.enterC {w : World} {f : Addr} {ds : List V} {xs : List Str} {body : List Stmt} {scope : Scope} (df : DefAtC w f xs body scope) (hn : xs.length = ds.length)
    (h : ∀ C : Cx scope D U, C.w = w → ∀ m ro sl vs s cells, St C m ro sl [] own s → Ent C m ro sl cells xs vs s → VIns C.w ro (adr sl) vs ds →
      ∃ ro' sl' fr' own', St C m ro' sl' fr' own' s ∧ Ext ro sl ro' sl' ∧ WS C body fr' own' (fun _ o => Ex own.length P (.d .none) o) (Ex own.length P)) : Fn w f (D + 1) (U + 3) ds own P := by
  intro sc C hw m ro sl s vs Q S hv k
  obtain ⟨⟨name, qual, params, dV, kV, doc, pm, cdv, ct, oc, an, od, osl, ho, hcd, hb⟩, nd, hl, co, gen, kind, cell⟩ := df
  subst hw
  have hvl := hv.len
  have hkeys := zip_keys (xs := xs) (vs := vs) (by omega)
  refine code_defC C.B S.F C.X S.N C.T C.hA C.hf C.hfk ho hcd (by have := C.room; omega) (hb s vs (by omega)) ?_ cell (fun g L' h₁ tk cells FG F' N' Y B' X' T' l1 => ?_) co gen kind
  · refine List.all_eq_true.mpr fun y hy => ?_
    rcases hl y.1 (by rw [← hkeys]; exact List.mem_map_of_mem hy) with e | e <;> rw [e] <;> rfl
  have S0 : St (C.intoC scope qual L' f cdv g kind B' X' T') _ ro sl [] own { s with heap := h₁, toks := tk } :=
    ⟨F', fun p hp => N' p (List.mem_append_right _ hp), S.nd, S.ap, S.apx, S.mxa, S.ow, (fun _ _ e => nomatch e), S.gens, S.drawn, S.os⟩
  have fin : ∀ v d m' fr' own' ro' sl' s', St (C.intoC scope qual L' f cdv g kind B' X' T') m' ro' sl' fr' own' s' → Ext ro sl ro' sl' → VIn C.w ro' (adr sl') v d → Ex own.length P d own' →
      LeaveK C.h₀ C.L m g (fun r s' => match r with | .ok (.ret v) => Q v s' | .ok _ => False | .error _ => False) v s' := by
    rintro v d m' fr' own' ro' sl' s' S1 x1 hv1 ⟨h1, h2, h3, hp⟩
    have S2 := S1.exit own.length h2
    refine leaveK_ S2.F S2.N fun F N => ?_
    refine k v _ _ _ _ s' ⟨F, N, S2.nd, S2.ap, S2.apx, S2.mxa, S2.ow, (fun _ _ e => nomatch e), S2.gens, S2.drawn, S2.os⟩ (x1.exit (by rw [S.ow.len]; exact Nat.le_refl _)) ?_ (S1.exitV own.length hv1 h1) hp
    unfold exitO
    rw [List.length_map, List.length_take]
    exact Nat.min_eq_left h3
  obtain ⟨ro1, sl1, fr1, own1, S1, x1, W⟩ := h (C.intoC scope qual L' f cdv g kind B' X' T') rfl _ ro sl vs _ cells S0 ⟨N', l1, rfl, Y, rfl, rfl⟩ hv
  exact wpAny_mono (W rfl _ ro1 sl1 _ (fun fl s' => LeaveK C.h₀ C.L m g _ (match fl with | .ret v => v | _ => .none) s') S1 (fun m' fr' own' ro' sl' s' S2 x2 hp => fin .none (.d .none) m' fr' own' ro' sl' s' S2 (x1.trans x2) rfl hp) fun v d m' own' ro' sl' s' S2 x2 hv1 hp => fin v d m' [] own' ro' sl' s' S2 (x1.trans x2) hv1 hp) (fun _ _ z => z) fun _ _ z => z.elim
end
theorem bindC2 {k : Str → Option NameKind} {x y : Str} {v u : Value} (hx : k x ≠ some .local) (hy : k y ≠ some .local) (z : Str) : bindC k [(x, v), (y, u)] (fun _ => none) z = if z = y then some u else if z = x then some v else none := by
  rw [bindC, bindC, bindC, if_neg hx, if_neg hy]
theorem lookup_two {β : Type} {x y z : Str} {d e r : β} (h : [(x, d), (y, e)].lookup z = some r) : (z = x ∧ r = d) ∨ (z = y ∧ r = e) := by
  rw [List.lookup_cons] at h
  cases q : z == x with
  | true => rw [q] at h; exact .inl ⟨eq_of_beq q, (Option.some.inj h).symm⟩
  | false =>
    rw [q] at h
    change [(y, e)].lookup z = some r at h
    rw [List.lookup_cons] at h
    cases q2 : z == y with
    | true => rw [q2] at h; exact .inr ⟨eq_of_beq q2, (Option.some.inj h).symm⟩
    | false => rw [q2] at h; cases h
theorem Fn.enterC2 {sc : Scope} {D U : Nat} {own : List MO} {P : V → List MO → Prop} {w : World} {f : Addr} {x y : Str} {d e : V} {body : List Stmt} (df : DefAtC w f [x, y] body sc) (hc : ∀ n, cellsFrom n sc.names [] = [(y, n + 1), (x, n)]) (hx : sc.names.lookup x = some .cell) (hy : sc.names.lookup y = some .cell) (hd : d.isCel = false) (he : e.isCel = false)
    (h : ∀ C : Cx sc D U, C.w = w → WS C body [(x, d), (y, e)] own (fun _ o => Ex own.length P (.d .none) o) (Ex own.length P)) : Fn w f (D + 1) (U + 3) [d, e] own P := by
  have hne : y ≠ x := fun q => by have := df.nd; simp [q] at this
  refine @Fn.enterC D U own P w f [d, e] [x, y] body sc df rfl fun C hw m ro sl vs s cells S E hv => ?_
  obtain ⟨v, u, rfl, hv1, hv2⟩ := VIns_two hv
  have hcl := E.cl
  rw [hc] at hcl
  have Y := E.y
  rw [hcl] at Y
  obtain ⟨o2, o1, rfl, d2, d1⟩ := CellsAre.two Y
  have kx : C.env.kindOf x = some .cell := (C.kof x).trans hx
  have ky : C.env.kindOf y = some .cell := (C.kof y).trans hy
  have kk := bindC2 (k := C.env.kindOf) (x := x) (y := y) (v := v) (u := u) (by rw [kx]; decide) (by rw [ky]; decide)
  rw [show [x, y].zip [v, u] = [(x, v), (y, u)] from rfl, kk] at d1 d2
  rw [if_pos rfl] at d2
  rw [if_neg (Ne.symm hne), if_pos rfl] at d1
  have off : ∀ q ∈ [(C.L + 1 + 1, o2), (C.L + 1, o1)], ∀ p ∈ slLd sl ++ (ro ++ C.fx), q.1 ≠ p.1 := fun q hq p hp => by
    have := E.lt p hp
    simp only [List.mem_cons, List.not_mem_nil, or_false] at hq
    rcases hq with rfl | rfl
    · exact Ne.symm (Nat.ne_of_lt (Nat.lt_succ_of_lt (Nat.lt_succ_of_lt this)))
    · exact Ne.symm (Nat.ne_of_lt (Nat.lt_succ_of_lt this))
  refine ⟨[(C.L + 1 + 1, o2), (C.L + 1, o1)] ++ ro, sl, [(x, d), (y, e)], own, ?_, ⟨fun _ h => List.mem_append_right _ h, AdLe.refl⟩, h C hw⟩
  have S1 : St C m ([(C.L + 1 + 1, o2), (C.L + 1, o1)] ++ ro) sl [] own { s with heap := s.heap, toks := s.toks } := S.re S.F (fun p hp => E.N p (by
    simp only [List.mem_append] at hp ⊢
    rcases hp with h | (h | h) | h
    · exact .inr (.inl h)
    · exact .inl h
    · exact .inr (.inr (.inl h))
    · exact .inr (.inr (.inr h)))) (fun _ h => List.mem_append_right _ h) fun q hq => (List.mem_append.mp hq).elim (fun h => .inr ⟨fun p hp => off q h p (List.mem_append_left _ hp), fun p hp => off q h p (List.mem_append_right _ (List.mem_append_right _ hp))⟩) .inl
  refine ⟨S1.F, S1.N, S1.nd, S1.ap, S1.apx, S1.mxa, S1.ow, fun z dz e => ?_, S1.gens, S1.drawn, S1.os⟩
  rcases lookup_two e with ⟨rfl, rfl⟩ | ⟨rfl, rfl⟩
  · refine ⟨v, ?_, VIn.mono (fun _ h => List.mem_append_right _ h) AdLe.refl _ hv1⟩
    unfold NmD
    rw [hd]
    exact .inr ⟨hx, _, o1, by rw [hcl, List.lookup_cons, beq_eq_false_iff_ne.mpr (Ne.symm hne)]; exact List.lookup_cons_self, .tail _ (.head _), d1⟩
  · refine ⟨u, ?_, VIn.mono (fun _ h => List.mem_append_right _ h) AdLe.refl _ hv2⟩
    unfold NmD
    rw [he]
    exact .inr ⟨hy, _, o2, by rw [hcl]; exact List.lookup_cons_self, .head _, d2⟩
theorem bindL_zip {k : Str → Option NameKind} : ∀ {l : List (Str × Value)} {m : Str → Option Value}, (∀ x ∈ l, k x.1 = some .local) → (l.map (·.1)).Nodup → ∀ {x v}, (x, v) ∈ l ∨ (x ∉ l.map (·.1) ∧ m x = some v) → bindL k l m x = some v
  | [], _, _, _, _, _, h => by rcases h with h | h; exact nomatch h; exact h.2
  | (y, u) :: r, m, hk, nd, x, v, h => by
    rw [bindL, if_pos (hk _ (.head _))]
    rw [List.map_cons, List.nodup_cons] at nd
    refine bindL_zip (fun x hx => hk x (.tail _ hx)) nd.2 ?_
    rcases h with h | ⟨h1, h2⟩
    · rcases List.mem_cons.mp h with e | h
      · cases e; exact .inr ⟨nd.1, if_pos rfl⟩
      · exact .inl h
    · rw [List.map_cons, List.mem_cons, not_or] at h1
      exact .inr ⟨h1.2, (if_neg h1.1).trans h2⟩
theorem bindC_off {k : Str → Option NameKind} {x : Str} : ∀ {l : List (Str × Value)} {m : Str → Option Value}, (∀ x ∈ l, k x.1 = some .local) → bindC k l m x = m x
  | [], _, _ => rfl
  | (y, u) :: r, m, hk => by rw [bindC, if_pos (hk _ (.head _))]; exact bindC_off fun x hx => hk x (.tail _ hx)
theorem lookup_memV {β : Type} {x : Str} {v : β} : ∀ {l : List (Str × β)}, l.lookup x = some v → (x, v) ∈ l
  | (y, u) :: r, h => by
    rw [List.lookup_cons] at h
    cases e : x == y with
    | true => rw [e] at h; cases h; rw [eq_of_beq e]; exact .head _
    | false => rw [e] at h; exact .tail _ (lookup_memV h)
theorem Fn.enterC1 {sc : Scope} {D U : Nat} {own : List MO} {P : V → List MO → Prop} {w : World} {f : Addr} {x : Str} {xs : List Str} {ds : List V} {body : List Stmt} (df : DefAtC w f xs body sc) (hn : xs.length = ds.length) (hcel : (ds.all fun d => !d.isCel) = true) (hc : ∀ n, cellsFrom n sc.names [] = [(x, n)]) (hx : sc.names.lookup x = some .cell) (hl : (xs.all fun x => decide (sc.names.lookup x = some .local)) = true)
    (h : ∀ C : Cx sc D U, C.w = w → WS C body ((x, .cel own.length) :: xs.zip ds) (own ++ [.cell]) (fun _ o => Ex own.length P (.d .none) o) (Ex own.length P)) : Fn w f (D + 1) (U + 3) ds own P := by
  have hl : ∀ y ∈ xs, sc.names.lookup y = some .local := fun y hy => of_decide_eq_true (List.all_eq_true.mp hl y hy)
  refine @Fn.enterC D U own P w f ds xs body sc df hn fun C hw m ro sl vs s cells S E hv => ?_
  have hkeys := zip_keys (xs := xs) (vs := vs) (by rw [hn, hv.len])
  have hcl := E.cl
  rw [hc] at hcl
  have Y := E.y
  rw [hcl] at Y
  have hk : ∀ z ∈ xs.zip vs, C.env.kindOf z.1 = some .local := fun z hz => (C.kof _).trans (hl _ (by rw [← hkeys]; exact List.mem_map_of_mem hz))
  obtain ⟨o, rfl, d1⟩ := CellsAre.one Y
  rw [bindC_off hk] at d1
  have S1 := S.newSlot (a := C.L + 1) (o := o) (tk := s.toks) (mo := .cell) S.F E.N (fun p hp => Nat.lt_succ_of_lt (E.lt p hp)) ⟨d1, rfl⟩
  refine ⟨ro, sl ++ [⟨C.L + 1, o, []⟩], _, own ++ [.cell], ⟨S1.F, S1.N, S1.nd, S1.ap, S1.apx, S1.mxa, S1.ow, fun z dz e => ?_, S1.gens, S1.drawn, S1.os⟩, Ext.new, h C hw⟩
  rw [List.lookup_cons] at e
  cases q : z == x with
  | true =>
    rw [q] at e
    obtain rfl := eq_of_beq q
    cases e
    obtain ⟨a, e1, e2⟩ := new_slot (w := C.w) (ro := ro) (a := C.L + 1) (o := o) S.ow.len.symm
    exact ⟨.ref (C.L + 1), ⟨hx, _, by rw [hcl]; exact List.lookup_cons_self, rfl⟩, a, e1, e2⟩
  | false =>
    rw [q] at e
    obtain ⟨v, hv1, hv2⟩ := frame_lookup hv e
    have hz := lookup_mem hv1
    rw [hkeys] at hz
    refine ⟨v, ?_, VIn.mono (fun _ h => h) (Ext.new (ro := ro)).ad _ hv2⟩
    unfold NmD
    have hd : dz.isCel = false := by simpa using List.all_eq_true.mp hcel dz (zip_lookup_mem e)
    rw [hd]
    refine .inl ⟨hl z hz, ?_⟩
    rw [E.cm, E.m]
    exact bindL_zip hk (by rw [hkeys]; exact df.nd) (.inl (lookup_memV hv1))
theorem slot_off {sl : List Sl} {i k : Nat} {x z : Sl} (nd : ((slLd sl).map (·.1)).Nodup) (hx : sl[k]? = some x) (hz : sl[i]? = some z) (hi : i ≠ k) : ∀ p ∈ z.led, x.a ≠ p.1 := fun p hp => by
  rcases Nat.lt_or_gt_of_ne hi with h | h
  · exact nodup_take_drop (n := k) nd (by rw [List.getElem?_take_of_lt h]; exact hz) p hp (x.a, x.o) (List.mem_flatMap.mpr ⟨x, List.mem_of_getElem? (i := 0) (by rw [List.getElem?_drop]; exact hx), .head _⟩)
  · exact Ne.symm (nodup_take_drop (n := i) nd (by rw [List.getElem?_take_of_lt h]; exact hx) (x.a, x.o) (.head _) p (List.mem_flatMap.mpr ⟨z, List.mem_of_getElem? (i := 0) (by rw [List.getElem?_drop]; exact hz), hp⟩))
theorem St.storeC {sc : Scope} {D U : Nat} {C : Cx sc D U} {m : Str → Option Value} {ro : Ld} {sl : List Sl} {fr : Fm} {own : List MO} {s : Shared} {x : Str} {v : Value} {d : V} {k : Nat} {Q : Unit → Shared → Prop} (S : St C m ro sl fr own s) (hf : fr.lookup x = some (.cel k)) (ho : own[k]? = some .cell) (hv : VIn C.w ro (adr sl) v d) (hd : d.isCel = false)
    (h : ∀ ro' sl' s', St C m ro' sl' ((x, d) :: fr) (own.set k .dead) s' → Ext ro sl ro' sl' → Q () s') : wpAny (model Pg C.w) C.A (storeName C.env x v) Q NoE s := by
  obtain ⟨v', ⟨hx, c, hc, rfl⟩, a, ea, ha⟩ := S.nm x _ hf
  cases ea
  obtain ⟨X, hX, hXd, haux⟩ := S.ow.get ho
  have hXa : X.a = c := by rw [adr_get hX] at ha; exact Option.some.inj ha
  subst hXa
  have U := S.updF hX ho rfl haux
  have hm := slLd_mem hX
  have hmem := S.N _ (List.mem_append_left _ hm)
  refine wpAny_storeName_cell C.ek ((C.kof x).trans hx) hc ⟨X.o, hmem.1, hXd⟩ fun h' hvv hs => ?_
  obtain ⟨o', ho', hd'⟩ := hvv
  obtain ⟨pre, post, e0, e1, h1, h2⟩ := U.split
  have N0 := S.N
  rw [e0] at N0
  have N' := N0.setAt h1 h2 hs ho'
  rw [← e1] at N'
  have F' : Fr C.h₀ C.L h' m := ⟨S.F.ns.sameBut hs (Ne.symm hmem.2.1), fun b ob e => (hs.2 b (fun q => by rw [q, hmem.2.2] at e; cases e)).trans (S.F.keep b ob e), S.F.above⟩
  have S1 := S.setSlot (o' := o') (mo' := .dead) (tk := s.toks) hX ho rfl haux F' N' trivial
  have hk := (List.getElem?_eq_some_iff.mp hX).1
  have hX' : (sl.set k ⟨X.a, o', []⟩)[k]? = some ⟨X.a, o', []⟩ := by rw [List.getElem?_set, if_pos rfl, if_pos hk]
  have hm' : (X.a, o') ∈ slLd (sl.set k ⟨X.a, o', []⟩) := slLd_mem hX'
  have xx : Ext ro sl ((X.a, o') :: ro) (sl.set k ⟨X.a, o', []⟩) := ⟨fun _ h => .tail _ h, (Ext.set (ro := ro) hX).ad⟩
  refine h ((X.a, o') :: ro) (sl.set k ⟨X.a, o', []⟩) _
    { F := S1.F
      N := fun p hp => S1.N p (by
        simp only [List.mem_append, List.mem_cons] at hp ⊢
        rcases hp with h | (rfl | h) | h
        · exact .inl h
        · exact .inl hm'
        · exact .inr (.inl h)
        · exact .inr (.inr h))
      nd := S1.nd
      ap := fun i z mo hz hoz hal p hp q hq => by
        rcases List.mem_cons.mp hq with rfl | hq
        · by_cases hi : i = k
          · subst hi
            have hko := (List.getElem?_eq_some_iff.mp ho).1
            rw [List.getElem?_set, if_pos rfl, if_pos hko] at hoz
            cases hoz
            cases hal
          · exact slot_off S1.nd hX' hz hi p hp
        · exact S1.ap i z mo hz hoz hal p hp q hq
      apx := S1.apx
      mxa := fun q hq p hp => by
        rcases List.mem_cons.mp hq with rfl | hq
        · exact Ne.symm (S1.apx _ hm' p (C.hmx p hp))
        · exact S1.mxa q hq p hp
      ow := S1.ow.mono (fun _ h => .tail _ h) AdLe.refl
      nm := fun y dy e => ?_
      gens := S1.gens
      drawn := S1.drawn
      os := S1.os } xx
  by_cases hy : y = x
  · subst hy
    rw [lookup_cons_self] at e
    cases e
    refine ⟨v, ?_, xx.v hv⟩
    unfold NmD
    rw [hd]
    exact .inr ⟨hx, _, o', hc, .head _, hd'⟩
  · rw [lookup_cons_ne hy] at e
    obtain ⟨u, a, b⟩ := S1.nm y dy e
    exact ⟨u, a.mono fun _ h => .tail _ h, VIn.mono (fun _ h => .tail _ h) AdLe.refl _ b⟩
theorem WT_assignC {sc : Scope} {D U : Nat} {C : Cx sc D U} {fr : Fm} {own : List MO} {pos px : Pos} {PN : Fm → List MO → Prop} {PR : V → List MO → Prop} {e : Expr} {x : Str} (h : WE C e fr own fun d o => d.isCel = false ∧ ∃ k, fr.lookup x = some (.cel k) ∧ o[k]? = some .cell ∧ PN ((x, d) :: fr) (o.set k .dead)) (hn : noComp e = true := by rfl) : WT C (.Assign [.Name x px] e pos) fr own PN PR := by
  intro hc m ro sl s Q S k r
  refine wpAny_Assign_Name (h m ro sl s _ S fun v d o r1 l1 s1 S1 x1 hv hp => ?_) (swaps_plain hn)
  obtain ⟨hd, j, hf, ho, hp⟩ := hp
  exact S1.storeC hf ho hv hd fun ro' sl' s' S' x' => k m _ _ ro' sl' s' S' (x1.trans x') hp
section
variable {sc : Scope} {D U : Nat} {C : Cx sc D U} {fr : Fm} {own : List MO} {P : V → List MO → Prop}
theorem WF_tupleS {l : List PyData} {j : Nat} (ho : own[j]? = some (.lst l)) (hz : l.length ≤ 1000) (hP : P (.d (.tuple l)) own) : WFun C (.type "tuple") [.slot j] fr own P := by
  intro m ro sl s Q vs S hv k
  obtain ⟨v, rfl, h⟩ := VIns_one hv
  obtain ⟨y, rfl, hy, us, n, e, _, hl⟩ := S.slot ho h
  have hm := slLd_mem hy
  rw [e] at hm
  refine kde_tupleOf S.F S.N (zs := us) ⟨_, (S.N _ (List.mem_append_left _ hm)).1, rfl, _, rfl⟩ (by simp [hl.len]; omega) (by simp) fun D' h' F' N' l' => ?_
  exact k _ (.d (.tuple l)) _ _ _ _ (S.push (tk := s.toks) F' N' l') .push ⟨_, us, rfl, .head _, PIns.mono (fun _ h => .tail _ h) _ hl⟩ hP
end
noncomputable def closL (cells : List (Str × Addr)) : List (Str × NameKind) → List (Str × Addr) → List (Str × Addr)
  | [], acc => acc
  | (y, k) :: r, acc => if k == .free then closL cells r ((y, (cells.lookup y).getD 0) :: acc) else closL cells r acc
theorem closL_is {env : Env} {f : Str × NameKind → List (Str × Addr) → Sem (ForInStep (List (Str × Addr)))} (hf : ∀ x r, f x r = if (x.2 == .free) = true then (cellOf env x.1 >>= fun a => pure (ForInStep.yield ((x.1, a) :: r))) else pure (ForInStep.yield r)) :
    ∀ {names : List (Str × NameKind)} {acc : List (Str × Addr)}, (∀ p ∈ names, p.2 = .free → ∃ c, env.cells.lookup p.1 = some c) → forIn names acc f = pure (closL env.cells names acc)
  | [], acc, _ => rfl
  | (y, k) :: r, acc, h => by
    rw [List.forIn_cons, closL, hf]
    dsimp only
    cases e : k == .free with
    | false =>
      rw [if_neg Bool.false_ne_true, if_neg Bool.false_ne_true, pure_bind]
      exact closL_is hf fun p hp => h p (.tail _ hp)
    | true =>
      obtain ⟨c, hc⟩ := h _ (.head _) (eq_of_beq e)
      dsimp only at hc
      rw [if_pos rfl, if_pos rfl, cellOf, hc]
      dsimp only
      rw [pure_bind, pure_bind, Option.getD_some]
      exact closL_is hf fun p hp => h p (.tail _ hp)
theorem closL_look {cells : List (Str × Addr)} {y : Str} : ∀ {names : List (Str × NameKind)} {acc : List (Str × Addr)}, (∀ a, acc.lookup y = some a → a = (cells.lookup y).getD 0) → (y, NameKind.free) ∈ names ∨ (acc.lookup y).isSome = true → (closL cells names acc).lookup y = some ((cells.lookup y).getD 0)
  | [], acc, h, k => by
    rcases k with k | k
    · exact nomatch k
    · obtain ⟨a, e⟩ := Option.isSome_iff_exists.mp k
      rw [closL, e, h a e]
  | (z, k) :: r, acc, h, q => by
    rw [closL]
    cases e : k == .free with
    | false =>
      rw [if_neg Bool.false_ne_true]
      refine closL_look h (q.imp (fun q => ?_) id)
      rcases List.mem_cons.mp q with q | q
      · cases q; cases e
      · exact q
    | true =>
      rw [if_pos rfl]
      refine closL_look (fun a ha => ?_) ?_
      · rw [List.lookup_cons] at ha
        cases ez : y == z with
        | true => rw [ez] at ha; rw [eq_of_beq ez]; exact (Option.some.inj ha).symm
        | false => rw [ez] at ha; exact h a ha
      · cases ez : y == z with
        | true => exact .inr (by rw [List.lookup_cons, ez]; rfl)
        | false =>
          refine q.imp (fun q => ?_) fun q => by rw [List.lookup_cons, ez]; exact q
          rcases List.mem_cons.mp q with q | q
          · cases q; rw [beq_self_eq_true] at ez; cases ez
          · exact q
theorem lookup_keys {β : Type} {x : Str} : ∀ {l : List (Str × β)}, x ∈ l.map (·.1) → ∃ v, l.lookup x = some v
  | (y, v) :: r, h => by
    rw [List.lookup_cons]
    cases e : x == y with
    | true => exact ⟨v, rfl⟩
    | false =>
      rcases List.mem_cons.mp h with h | h
      · rw [h, beq_self_eq_true] at e; cases e
      · exact lookup_keys h
theorem Cap.of {sc scope : Scope} {x : Str} {fr cap : Fm} (ks : List Str) (he : cap.map (·.1) = ks) (hcel : (cap.all fun p => !p.2.isCel) = true) (hf : FrIs fr cap) (h1 : decide ((relabelS scope sc).names.lookup x = some .local) = true) (hc : (ks.all fun y => decide (sc.names.lookup y = some .cell) && decide ((relabelS scope sc).names.lookup y = some .cell) && decide ((y, NameKind.free) ∈ scope.names)) = true)
    (hn : (scope.names.all fun p => decide (p.2 ≠ .free) || decide (p.1 ∈ ks)) = true) (hk : scope.kind = .function) (h2 : (scope.names.all fun p => decide (p.2 ≠ .cell)) = true) (h3 : (scope.names.all fun p => decide (p.2 = .local → scope.names.lookup p.1 = some .local)) = true) (h4 : decide (scope.names.lookup x = some .local) = true) : Cap sc scope x fr cap where
  xl := of_decide_eq_true h1
  frm := fun y d e => by
    have := List.all_eq_true.mp hc y (by rw [← he]; exact lookup_mem e)
    simp only [Bool.and_eq_true, decide_eq_true_eq] at this
    exact ⟨hf y d e, by simpa using List.all_eq_true.mp hcel _ (lookup_memV e), this.1.1, this.1.2⟩
  clos := fun env hh => by
    refine ⟨closL env.cells scope.names [], ?_, fun y d e => ?_⟩
    · refine (bind_pure _).trans (closL_is (env := env) (fun x r => rfl) fun p hp hfr => ?_)
      have := List.all_eq_true.mp hn p hp
      rw [hfr] at this
      have hm := of_decide_eq_true ((Bool.or_eq_true_iff.mp this).resolve_left (by decide))
      rw [← he] at hm
      obtain ⟨d, e⟩ := lookup_keys hm
      exact hh _ d e
    · have := List.all_eq_true.mp hc y (by rw [← he]; exact lookup_mem e)
      simp only [Bool.and_eq_true, decide_eq_true_eq] at this
      obtain ⟨c, hcc⟩ := hh y d e
      rw [closL_look (fun a h => by cases h) (.inl this.2), hcc]
      rfl
  kind := hk
  cell := fun y hy => of_decide_eq_true (List.all_eq_true.mp h2 y hy)
  names := fun y hy => of_decide_eq_true (List.all_eq_true.mp h3 y hy)
  own := of_decide_eq_true h4
theorem DefAtC.of {w : World} {f : Addr} {xs : List Str} {body : List Stmt} {scope : Scope} {name qual params dV kV doc pm cdv ct oc an od osl} (h1 : (hd.heap_39 w.params).lookup f = some ⟨oc, od, .func (fnOf name qual params body scope dV kV doc pm an cdv ct), osl⟩) (h2 : codeIn (hd.heap_39 w.params) cdv qual = true)
    (h3 : ∀ s vs, vs.length = xs.length → BindsTo s (fnOf name qual params body scope dV kV doc pm an cdv ct) ⟨vs, []⟩ (xs.zip vs)) (h4 : decide xs.Nodup = true) (h5 : (xs.all fun x => decide (scope.names.lookup x = some .local ∨ scope.names.lookup x = some .cell)) = true) (h6 : scope.isCoroutine = false) (h7 : scope.isGenerator = false) (h8 : scope.kind = .function) (h9 : decide ((cellsFrom 0 scope.names []).map (·.1)).Nodup = true) : DefAtC w f xs body scope :=
  ⟨⟨name, qual, params, dV, kV, doc, pm, cdv, ct, oc, an, od, osl, h1, h2, h3⟩, of_decide_eq_true h4, fun x hx => of_decide_eq_true (List.all_eq_true.mp h5 x hx), h6, h7, h8, of_decide_eq_true h9⟩
end
section
open PySem PySem.W PyProof.Rows PySem.Calls
noncomputable def Scr (a : Addr) (ns : List Int) (h : Heap) : Prop := ∃ vs, h.IsList a vs.toArray ∧ IntsAre vs ns
theorem Scr.keep {a : Addr} {ns : List Int} {h h' : Heap} (H : Scr a ns h) (k : h.StaysIn h') : Scr a ns h' := let ⟨vs, l, i⟩ := H; ⟨vs, l.at fun o e => k a o e, i⟩
theorem ints_get {vs : List Value} {ns : List Int} (h : IntsAre vs ns) : ∀ {i : Nat} {n : Int}, ns[i]? = some n → ∃ t, vs[i]? = some (.int n t) := by
  induction h with
  | nil => intro i n e; simp at e
  | cons _ _ _ ih =>
    intro i n e
    cases i with
    | zero => simp at e; subst e; exact ⟨_, rfl⟩
    | succ i => exact ih e
section
variable {sc : Scope} {D U : Nat} {C : Cx sc D U} {fr : Fm} {own : List MO} {P : V → List MO → Prop} {value slice : Expr} {a : Addr} {ns : List Int}
theorem WF_lenRaw (H : Scr a ns C.h₀) (hz : ns.length ≤ 1000) (hP : P (.d (.int ns.length)) own) : WFun C (.builtin "len") [.raw a] fr own P := by
  intro m ro sl s Q vs S hv k
  obtain ⟨v, rfl, h⟩ := VIns_one hv
  obtain rfl : v = .ref a := h
  obtain ⟨us, hl, hi⟩ := H.keep (h' := s.heap) S.F.keep
  have e : us.toArray.size = ns.length := by rw [List.size_toArray]; exact hi.length
  exact call_len_list hl (by rw [e]; omega) (by rw [e]; exact k _ (.d (.int ns.length)) own ro sl _ S.tk.tk .refl ⟨_, rfl⟩ hP)
theorem WSub_raw {k i : Int} (H : Scr a ns C.h₀) (h0 : 0 ≤ k ∧ k < 100000) (hx : ns[k.toNat]? = some i) (hP : P (.d (.int i)) own) (hs : plainIx slice = true := by rfl) : WSub C value slice (.raw a) (.d (.int k)) fr own P := by
  rintro m ro sl s Q va vi S hva ⟨t, rfl⟩ q
  obtain rfl : va = .ref a := hva
  obtain ⟨us, hl, hi⟩ := H.keep (h' := s.heap) S.F.keep
  obtain ⟨u, hu⟩ := ints_get hi hx
  exact item_litK hl h0.1 (by omega) hu (q.tk S (.d (.int i)) ⟨u, rfl⟩ hP) (subscripted_plain hs)
theorem WCall_G {H : Heap → Prop} {N : Nat} {f : Addr} {ds : List V} {D' U' : Nat} {P' : V → List MO → Prop} (h : ∀ w, FnG H N w f D' U' ds [] P') (hH : H C.h₀) (k : ∀ d o, o.length = N → P' d o → P d o) (hD : Nat.ble D' D = true) (hU : Nat.ble U' U = true) : WCall C f ds fr [] P := by
  have h1 := Nat.le_of_ble_eq_true hD
  have h2 := Nat.le_of_ble_eq_true hU
  intro m ro sl s Q vs S hv q
  let C' : Cx sc D' U' := { C with room := by have := C.room; omega, units := by have := C.units; omega }
  obtain rfl : sl = [] := S.ow
  refine wpAny_call (codeAny_mono (h C.w C' rfl hH m ro [] s vs Q ⟨S.F, S.N, S.nd, S.ap, S.apx, S.mxa, S.ow, (fun _ _ e => nomatch e), S.gens, S.drawn, S.os⟩ hv fun v d o r l s' S' x hlen hd hp => ?_) fun r s' h => by cases r <;> exact h)
  exact q v d o r l s' ⟨S'.F, S'.N, S'.nd, S'.ap, S'.apx, S'.mxa, S'.ow, fun y d e => let ⟨u, a, b⟩ := S.nm y d e; ⟨u, a.mono x.ro, x.v b⟩, S'.gens, S'.drawn, S'.os⟩ x hd (k d o hlen hp)
end
end
section
open PySem PySem.W PyProof.Rows PySem.Calls
open PyProof.Rows.LCg PyProof.Rows.LCt
section
variable {sc : Scope} {D U : Nat} {C : Cx sc D U} {m : Str → Option Value} {ro : Ld} {sl : List Sl} {fr : Fm} {own : List MO} {s : Shared} {pos px : Pos} {P : V → List MO → Prop}
set_option tactic.hygienic true in
theorem vcomp_restT {scope : Scope} {x : Str} {cap : Fm} {cl : List (Str × Addr)} {ct elt : Expr} {s : Shared} {Q : Value → Shared → Prop} (K : Cap sc scope x fr cap) (hcl : ∀ y d, cap.lookup y = some d → cl.lookup y = C.env.cells.lookup y) (n : Nat) (dat : Nat → V) {Pv : Nat → Value → Prop} (J : Nat → List PyData → List MO → Prop) (r0 : Ld) (l0 : List Sl)
    (hg : s.gens = C.gens) (hd : s.drawn = C.drawn) (ho : s.os = C.os) (hdat : ∀ i v, i < n → Pv i v → VIn C.w r0 (adr l0) v (dat i) ∧ (dat i).isCel = false)
    (turn : ∀ (C' : Cx (relabelS scope sc) D U) i ys own, i < n → J i ys own → WB C' ct ((x, dat i) :: cap) own fun c o => if c = true then WE C' elt ((x, dat i) :: cap) o (fun d o => ∃ y, d = .d y ∧ J (i + 1) (ys ++ [y]) o) else J (i + 1) ys o)
    (fin : ∀ vs ys own' ro' sl', Sp C m ro' sl' fr own' → Ext r0 l0 ro' sl' → PIns ro' vs ys → J n ys own' → FinE C.h₀ C.L m s Q vs (slLd sl' ++ (ro' ++ C.fx))) :
    ∀ k i vs ys own ro sl, i + k = n → Sp C m ro sl fr own → Ext r0 l0 ro sl → PIns ro vs ys → J i ys own →
      CompRestT Pg C.w C.A C.h₀ C.L m C.env ct elt x scope cl s (fun nw => ∀ p ∈ r0, p ∈ nw) Pv (FinE C.h₀ C.L m s Q) k i vs (slLd sl ++ (ro ++ C.fx))
  | 0, i, vs, ys, own, ro, sl, hi, S, xx, hv, hJ => fin vs ys own ro sl S xx hv (by rw [← hi]; exact hJ)
  | k + 1, i, vs, ys, own, ro, sl, hi, S, xx, hv, hJ => by
    intro v I oI Cc oC Dd m₂ h tk E' hP hC hx F N off ne
    have off := off.mem
    obtain ⟨hd1, hd2⟩ := hdat i v (by omega) hP
    have S1 := S.turn (hk := K.kind) (cl := cl) (hC := hC) (tk := tk) (fr' := (x, dat i) :: cap) F N off hg hd ho fun y d e => by
      by_cases hy : y = x
      · subst hy
        rw [lookup_cons_self] at e
        cases e
        refine ⟨v, ?_, xx.v hd1⟩
        unfold NmD
        rw [hd2]
        exact .inl ⟨K.xl, hx⟩
      · rw [lookup_cons_ne hy] at e
        exact K.nm hcl S e
    have next : ∀ {vs' ys' o r l s'} {fr' : Fm}, St (C.comp scope K.kind cl Cc oC m₂ hC [(I, oI), (Dd, lst vs)]) m r l fr' o s' → Ext ro sl r l → PIns r vs' ys' → J (i + 1) ys' o →
        ∃ h' tk' news', s' = { s with heap := h', toks := tk' } ∧ Fr C.h₀ C.L h' m ∧ News C.h₀ C.L h' ((I, oI) :: (Cc, oC) :: (Dd, lst vs) :: news') ∧ Off3 I Cc Dd news' ∧ (∀ p ∈ r0, p ∈ news') ∧ CompRestT Pg C.w C.A C.h₀ C.L m C.env ct elt x scope cl s (fun nw => ∀ p ∈ r0, p ∈ nw) Pv (FinE C.h₀ C.L m s Q) k (i + 1) vs' news' := fun {vs' ys' o r l s' fr'} S' x' hvs hJ' => by
      have z := S.out off hg hd ho S' x'
      exact ⟨s'.heap, s'.toks, slLd l ++ (r ++ C.fx), z.same, z.F, z.N, Off3.of z.off, fun p hp => List.mem_append_right _ (List.mem_append_left _ (x'.ro p (xx.ro p hp))), vcomp_restT K hcl n dat J r0 l0 hg hd ho hdat turn fin k (i + 1) _ ys' o r l (by omega) z.sp (xx.trans x') hvs hJ'⟩
    refine wpAny_mono (turn _ i ys own (by omega) hJ m ro sl _ (fun ok s' => if ok = true then wpAny (model Pg C.w) C.A (eval elt (compEnvC scope cl Cc C.env)) (CompEnd C.h₀ C.L m { s with heap := h, toks := tk } I oI Cc oC Dd (lst vs) (fun nw => ∀ p ∈ r0, p ∈ nw) fun y news' => CompRestT Pg C.w C.A C.h₀ C.L m C.env ct elt x scope cl s (fun nw => ∀ p ∈ r0, p ∈ nw) Pv (FinE C.h₀ C.L m s Q) k (i + 1) (vs ++ [y]) news') E' s'
      else CompEnd C.h₀ C.L m { s with heap := h, toks := tk } I oI Cc oC Dd (lst vs) (fun nw => ∀ p ∈ r0, p ∈ nw) (fun _ news' => CompRestT Pg C.w C.A C.h₀ C.L m C.env ct elt x scope cl s (fun nw => ∀ p ∈ r0, p ∈ nw) Pv (FinE C.h₀ C.L m s Q) k (i + 1) vs news') Value.none s') S1 fun b o r l s' S' x' hp => ?_) (fun _ _ z => z) fun _ _ z => z.elim
    cases b with
    | true =>
      exact wpAny_mono (hp m r l s' _ S' fun u d o2 r2 l2 s2 S2 x2 hu hp2 => by
        obtain ⟨y, rfl, hJ'⟩ := hp2
        exact next S2 (x'.trans x2) ((PIns.mono (x'.trans x2).ro _ hv).snoc hu) hJ') (fun _ _ z => z) fun _ _ z => z.elim
    | false => exact next S' x' (PIns.mono x'.ro _ hv) hp
theorem WE_compT {x : Str} {ct elt it : Expr} {scope : Scope} {cap : Fm} (K : Cap sc scope x fr cap)
    (h : WE C it fr own fun d o => ∃ (l : List (List Str × PyData)) (J : Nat → List PyData → List MO → Prop), d = .dS l ∧ l.length ≤ 900 ∧ J 0 [] o ∧
      (∀ (C' : Cx (relabelS scope sc) D U) i ys own, i < l.length → J i ys own → WB C' ct ((x, .d ((l.map fun x => encS x.1).getD i .none)) :: cap) own fun c o => if c = true then WE C' elt ((x, .d ((l.map fun x => encS x.1).getD i .none)) :: cap) o (fun d o => ∃ y, d = .d y ∧ J (i + 1) (ys ++ [y]) o) else J (i + 1) ys o) ∧ ∀ ys o, J l.length ys o → P (.d (.list ys)) o)
    (hs : ∀ env x, foldedSetIterable it env x = pure x := by intro _ _; rfl) : WE C (.ListComp elt [⟨.Name x px, it, [ct], 0⟩] scope pos) fr own P := by
  intro m ro sl s Q S k
  obtain ⟨cl, hclos, hcl⟩ := K.clo S
  rw [eval_ListComp]
  refine wpAny_comprehension_free (use := none) rfl (hs _) hclos K.kind K.names (h m ro sl s _ S fun xv d o r1 l1 s1 S1 x1 hv hP => ?_)
  obtain ⟨l, J, rfl, hz, hJ, turn, done⟩ := hP
  obtain ⟨a, xs, rfl, T, hp⟩ := hv
  have T' := T.mono fun p hp => S1.news hp
  obtain ⟨es, ep, hr, hk⟩ := T'.raw S1.N
  have hxl := hp.len
  have hl : es.size = l.length := by have := congrArg List.length hk; rw [← hxl]; simpa [keysOf] using this
  have hlt := hr.lt
  have hL : C.L < s1.heap.objs.size := S1.F.ns.lt
  refine raw_iter T.lo hr ?_
  have up : ∀ b o, s1.heap.get? b = some o → (s1.heap.push { cls := .type "dict_keyiterator", data := .fields #[.ref a, .int 0 0, .int es.size 0, .int ep 0] }).get? b = some o := fun b o e => Heap.get?_push_of_some _ e
  have hmem : ∃ ob : Obj, (a, ob) ∈ r1 ∧ ob.ExactDict ∧ ob.data = .dict es ep := by
    obtain ⟨_, ob, hm, _, _⟩ := T
    obtain ⟨o', ho', r⟩ := hr
    have := S1.inro hm
    rw [this] at ho'
    cases ho'
    exact ⟨ob, hm, r⟩
  obtain ⟨ob, hm, hx1, hx2⟩ := hmem
  have hkp := keys_pins hp
  refine LCt.block_T (n := es.size) (S := fun nw => ∀ p ∈ r1, p ∈ nw) (news := slLd l1 ++ (r1 ++ C.fx)) (h₀ := C.h₀) (L := C.L) (m := m) (Fin := FinE C.h₀ C.L m { s1 with heap := s1.heap.push { cls := .type "dict_keyiterator", data := .fields #[.ref a, .int 0 0, .int es.size 0, .int ep 0] } } Q) (raw_walks C.hh s1.heap.objs.size a (Nat.ne_of_lt hlt) es ep) (by rw [hl, sizeLine_eq]; omega) (fun i h st => by obtain ⟨o, e, _⟩ := st.1; exact ⟨o, e⟩) (fun i h h' o' nw st e e' k N S => ⟨by obtain ⟨o₂, q, r⟩ := st.1; rw [e] at q; cases q; exact ⟨o', e', r⟩, ⟨ob, N.get (S _ hm), hx1, hx2⟩⟩) K.cell K.kind K.own ⟨⟨_, Heap.get?_push_size _ rfl, rfl, rfl⟩, hr.at fun o e => up _ _ e⟩ (fun b hb => ?_)
    (S1.F.keeps up) (S1.N.grown up) (Nat.ne_of_lt hL) (next_is_new S1.F) (fun p hp => Nat.ne_of_lt (Heap.lt_size (S1.N p hp).1)) (fun p hp => List.mem_append_right _ (List.mem_append_left _ hp))
    (vcomp_restT (s := { s1 with heap := s1.heap.push { cls := .type "dict_keyiterator", data := .fields #[.ref a, .int 0 0, .int es.size 0, .int ep 0] } }) K hcl es.size _ J r1 l1 S1.gens S1.drawn S1.os (fun i v hi ⟨e, he, hv⟩ => ?_) (fun C' i ys own hi => turn C' i ys own (by rw [← hl]; exact hi)) (fun vs ys own' ro' sl' Sp' x' hv' hJ' => vfin (r0 := r1) (l0 := l1) (P := P) S1.gens S1.drawn S1.os Sp' x' hv' (Kv.ext (Q := Q) k x1) (done ys own' (by rw [← hl]; exact hJ'))) es.size 0 [] [] o r1 l1 (Nat.zero_add _) S1.sp .refl rfl hJ) ?_
  · show b < (s1.heap.push _).objs.size
    rw [Heap.size_push]
    rcases List.mem_cons.mp hb with rfl | hb
    · exact Nat.lt_succ_self _
    · rw [List.mem_singleton.mp hb]; exact Nat.lt_succ_of_lt hlt
  · intro D' C'' h tk m' ys news' F' N' o1 hn hC₀ hD₀ hCL hDL hCD offC fin
    refine ⟨m', hn, fun h'' hs'' => fin D' h'' tk (F'.change hs'' hCL hC₀) (fun p hp => ?_) o1⟩
    refine ⟨hs''.extBut _ _ ?_ (N' p hp).1, (N' p hp).2⟩
    rcases List.mem_cons.mp hp with rfl | hp
    · exact Ne.symm hCD
    · exact offC p hp
  · refine ⟨?_, rfl⟩
    have h1 : (keysOf xs)[i]? = some v := by rw [← hk, hv]; simp [he]
    have hi' : i < (l.map fun x => encS x.1).length := by rw [List.length_map, ← hl]; exact hi
    obtain ⟨u, hu, hpu⟩ := hkp.get (List.getElem?_eq_getElem hi')
    rw [h1] at hu
    cases hu
    rw [List.getD_eq_getElem?_getD, List.getElem?_eq_getElem hi']
    exact hpu
theorem newsCons {h₀ h : Heap} {L : Addr} {p : Addr × Obj} {l : Ld} (hp : h.get? p.1 = some p.2 ∧ p.1 ≠ L ∧ h₀.get? p.1 = none) (N : News h₀ L h l) : News h₀ L h (p :: l) := fun q hq => (List.mem_cons.mp hq).elim (fun e => e ▸ hp) (N q)
inductive Trip (r : Ld) (l : List PyData) (i : Nat) : Value → Prop
  | mk {t : Addr} {v1 v2 v3 : Value} {a b c : PyData} (hl : l[i]? = some (PyData.tuple [a, b, c])) (ht : (t, tupO [v1, v2, v3]) ∈ r) (h1 : PIn r v1 a) (h2 : PIn r v2 b) (h3 : PIn r v3 c) : Trip r l i (.ref t)
theorem trip_at {r : Ld} {l : List PyData} {vs : List Value} (hvs : PIns r vs l) (h3 : ∀ (i : Nat) x, l[i]? = some x → ∃ a b c, x = PyData.tuple [a, b, c]) {i : Nat} {v : Value} (hv : vs[i]? = some v) : Trip r l i v := by
  have hi := (List.getElem?_eq_some_iff.mp hv).1
  have hli : l[i]? = some (l[i]'(by rw [← hvs.len]; exact hi)) := List.getElem?_eq_getElem _
  obtain ⟨a, b, c, e3⟩ := h3 i _ hli
  rw [e3] at hli
  obtain ⟨v', hv', t, ws, rfl, ht, v1, w1, rfl, hq1, v2, w2, rfl, hq2, v3, w3, rfl, hq3, rfl⟩ := hvs.get hli
  rw [hv] at hv'
  cases hv'
  exact .mk hli ht hq1 hq2 hq3
inductive Inv3 (C : Cx sc D U) (m : Str → Option Value) (fr : Fm) (s : Shared) (r1 : Ld) (l1 : List Sl) (I Dd Cc ax : Addr) (n : Nat) (J : Nat → List PyData → List MO → Prop) : Nat → Shared → Prop
  | mk {k : Nat} {h' : Heap} {tk i : Nat} {us : List Value} {ys : List PyData} {m' : Str → Option Value} {r : Ld} {lx : List Sl} {ow : List MO} (hk : i + k = n + 1) (hk1 : 1 ≤ k) (hul : us.length = i) (hit : h'.IsTupleIter I ax i) (F' : Fr C.h₀ C.L h' m) (hn' : h'.Ns Cc m') (N' : News C.h₀ C.L h' ((Dd, lst us) :: (slLd lx ++ (r ++ C.fx))))
    (off : ∀ p ∈ slLd lx ++ (r ++ C.fx), p.1 ≠ I ∧ p.1 ≠ Cc ∧ p.1 ≠ Dd) (Sp' : Sp C m r lx fr ow) (xx : Ext r1 l1 r lx) (hus : PIns r us ys) (hJ' : J i ys ow) : Inv3 C m fr s r1 l1 I Dd Cc ax n J k { s with heap := h', toks := tk }
set_option tactic.hygienic true in
theorem comp3_loop {x1 x2 x3 : Str} {p1 p2 p3 tp : Pos} {tk0} {elt it : Expr} {scope : Scope} {cl : List (Str × Addr)} {I Dd Cc ax : Addr} {vs : List Value} {l : List PyData} {J : Nat → List PyData → List MO → Prop} {Q : Value → Shared → Prop} {r1 : Ld} {l1 : List Sl} {o : List MO} {h₁ : Heap} {m0 : Str → Option Value} (K : Cap sc scope x3 fr []) (hx1 : scope.names.lookup x1 = some .local) (hx2 : scope.names.lookup x2 = some .local) (hr1 : (relabelS scope sc).names.lookup x1 = some .local) (hr2 : (relabelS scope sc).names.lookup x2 = some .local) (h12 : x1 ≠ x2)
    (hID : I ≠ Dd) (hIC : I ≠ Cc) (hDC : Dd ≠ Cc) (hI0 : C.h₀.get? I = none) (hC0 : C.h₀.get? Cc = none) (hD0 : C.h₀.get? Dd = none) (hIL : I ≠ C.L) (hCL : Cc ≠ C.L) (hDL : Dd ≠ C.L) (hg : s.gens = C.gens) (hd : s.drawn = C.drawn) (ho : s.os = C.os)
    (hax : (ax, tupO vs) ∈ r1) (hvs : PIns r1 vs l) (hz : l.length ≤ 1000) (h3 : ∀ (i : Nat) x, l[i]? = some x → ∃ a b c, x = PyData.tuple [a, b, c])
    (turn : ∀ (C' : Cx (relabelS scope sc) D U) (i : Nat) ys own a b c, l[i]? = some (PyData.tuple [a, b, c]) → J i ys own → WE C' elt [(x3, .d c), (x2, .d b), (x1, .d a)] own fun d o => ∃ y, d = .d y ∧ J (i + 1) (ys ++ [y]) o)
    (fin : ∀ us ys ow r lx, Sp C m r lx fr ow → Ext r1 l1 r lx → PIns r us ys → J l.length ys ow → FinE C.h₀ C.L m s Q us (slLd lx ++ (r ++ C.fx)))
    (hit : h₁.IsTupleIter I ax 0) (F : Fr C.h₀ C.L h₁ m) (hns : h₁.Ns Cc m0) (N : News C.h₀ C.L h₁ ((Dd, lst []) :: (slLd l1 ++ (r1 ++ C.fx)))) (off : ∀ p ∈ slLd l1 ++ (r1 ++ C.fx), p.1 ≠ I ∧ p.1 ≠ Cc ∧ p.1 ≠ Dd) (S : Sp C m r1 l1 fr o) (hJ : J 0 [] o) (s3 : Shared) {tk : Nat} (hs3 : s3 = { s with heap := h₁, toks := tk }) :
    codeAny (model Pg C.w) C.A (.compLoop (.ListComp elt [⟨.Tuple [.Name x1 p1, .Name x2 p2, .Name x3 p3] tk0 tp, it, [], 0⟩] scope pos) 0 (.ref I) (.ref Dd) (compEnvC scope cl Cc C.env)) (compPost (model Pg C.w) C.A NoE none Q (.ref Dd) Cc) s3 := by
  subst hs3
  have hvl := hvs.len
  have haI := (off _ (List.mem_append_right _ (List.mem_append_left _ hax))).1
  have W := Walks.tuple (prog := Pg) (w := C.w) (A := C.A) C.hh I ax haI vs.toArray
  refine LCp.codeAny_compLoop_pair (Inv3 C m fr s r1 l1 I Dd Cc ax vs.length J) ?_ (vs.length + 1) (.mk (us := []) (ys := []) (Nat.zero_add _) (Nat.succ_pos _) rfl hit F hns N off S .refl rfl hJ)
  clear hit F hns N off S hJ
  rintro k' s' ⟨hk, hk1, hul, hit, F', hn', N', off, Sp', xx, hus, hJ'⟩
  rename_i h' tk i us ys m' r lx ow
  have hst : h'.IsTupleIter I ax i ∧ h'.IsTuple ax vs.toArray := ⟨hit, ⟨_, (N' _ (.tail _ (List.mem_append_right _ (List.mem_append_left _ (xx.ro _ hax))))).1, rfl, _, rfl⟩⟩
  have hN2 : ∀ {h₂ : Heap}, (∀ b o, b ≠ I → h'.get? b = some o → h₂.get? b = some o) → News C.h₀ C.L h₂ ((Dd, lst us) :: (slLd lx ++ (r ++ C.fx))) := fun hk2 p hp => ⟨hk2 _ _ ((List.mem_cons.mp hp).elim (fun e => by rw [e]; exact Ne.symm hID) fun hp => (off p hp).1) (N' p hp).1, (N' p hp).2⟩
  by_cases hlt : i < vs.length
  · refine W.item i _ _ _ (by rw [List.size_toArray]; exact hlt) hst fun v h₂ tk₂ hv hst₂ hk₂ => ?_
    have hk₂' : ∀ b o, b ≠ I → h'.get? b = some o → h₂.get? b = some o := fun b o hb e => hk₂ b o (fun h => hb (List.mem_singleton.mp h)) e
    cases trip_at hvs h3 (show vs[i]? = some v by simpa using hv)
    rename_i t v1 v2 v3 a b c hli ht hq1 hq2 hq3
    have N₂ := hN2 hk₂'
    have F₂ : Fr C.h₀ C.L h₂ m := fr_but F' hk₂ (Ne.symm hIL) hI0
    refine own_tup_iter hst₂.1 ?_
    refine assign_Tuple_tuple C.hh (⟨_, (N₂ _ (.tail _ (List.mem_append_right _ (List.mem_append_left _ (xx.ro _ ht))))).1, rfl, _, rfl⟩ : IsTup h₂ t #[v1, v2, v3]) rfl rfl fun h₅ he => ?_
    have he' : ∀ b o, h₂.get? b = some o → h₅.get? b = some o := fun b o e => he b o (Nat.ne_of_lt (Heap.lt_size e)) e
    have hn₅ : h₅.Ns Cc m' := (hn'.at' fun o e => hk₂' _ o (Ne.symm hIC) e).at' fun o e => he' _ o e
    have hkd : (compEnvC scope cl Cc C.env).scope.kind = .function := K.kind
    refine assignInOrder_cons (wpAny_assign_Name (wpAny_storeName_local (lookup_relabel_local hx1) hn₅ (fun h₆ hn₆ hs₆ => ?_) (by rw [hkd]; rfl)))
    refine assignInOrder_cons (wpAny_assign_Name (wpAny_storeName_local (lookup_relabel_local hx2) hn₆ (fun h₇ hn₇ hs₇ => ?_) (by rw [hkd]; rfl)))
    refine assignInOrder_cons (wpAny_assign_Name (wpAny_storeName_local (lookup_relabel_local K.own) hn₇ (fun h₃ hn₃ hs₃ => ?_) (by rw [hkd]; rfl)))
    refine assignInOrder_nil ?_
    have old : ∀ b o, b ≠ Cc → h₂.get? b = some o → h₃.get? b = some o := fun b o hb e => hs₃.extBut b o hb (hs₇.extBut b o hb (hs₆.extBut b o hb (he' b o e)))
    obtain ⟨oI, hI2, cI, dI⟩ := hst₂.1
    obtain ⟨oC, heC, hoC⟩ := ns_obj hn₃
    have F₃ : Fr C.h₀ C.L h₃ m := (((F₂.keeps he').change hs₆ hCL hC0).change hs₇ hCL hC0).change hs₃ hCL hC0
    have N₃ : News C.h₀ C.L h₃ ((I, oI) :: (Cc, oC) :: (Dd, lst us) :: (slLd lx ++ (r ++ C.fx))) := newsCons ⟨old _ _ hIC hI2, hIL, hI0⟩ (newsCons ⟨heC, hCL, hC0⟩ fun p hp => ⟨old _ _ ((List.mem_cons.mp hp).elim (fun e => by rw [e]; exact hDC) fun hp => (off p hp).2.1) (N₂ p hp).1, (N₂ p hp).2⟩)
    have S2 := Sp'.turn (s := s) (scope := scope) (hk := K.kind) (cl := cl) (hC := hoC) (tk := tk₂ + 1 + 1 + 1) (fr' := [(x3, .d c), (x2, .d b), (x1, .d a)]) F₃ N₃ off hg hd ho fun y d e => by
      rw [List.lookup_cons] at e
      cases q3 : y == x3 with
      | true =>
        rw [q3] at e
        cases e
        obtain rfl := eq_of_beq q3
        exact ⟨v3, .inl ⟨K.xl, if_pos rfl⟩, PIn.mono xx.ro _ hq3⟩
      | false =>
        rw [q3] at e
        have n3 := ne_of_beq_false q3
        rcases lookup_two (show [(x2, V.d b), (x1, V.d a)].lookup y = some d from e) with ⟨rfl, rfl⟩ | ⟨rfl, rfl⟩
        · exact ⟨v2, .inl ⟨hr2, (if_neg n3).trans (if_pos rfl)⟩, PIn.mono xx.ro _ hq2⟩
        · exact ⟨v1, .inl ⟨hr1, (if_neg n3).trans ((if_neg h12).trans (if_pos rfl))⟩, PIn.mono xx.ro _ hq1⟩
    clear N₃ F₃ N₂ F₂ hn₃ hs₃ hn₇ hs₇ hn₆ hs₆ hn₅ old he he' hk₂ hk₂' hst₂ hI2 heC
    refine wpAny_mono (turn _ i ys ow a b c hli hJ' m r lx _ _ S2 fun u d o' r' l' s' S' x' hu hp => ?_) (fun _ _ z => z) fun _ _ z => z.elim
    obtain ⟨y, rfl, hJ''⟩ := hp
    have z := Sp'.out off hg hd ho S' x'
    have N4 := z.N
    rw [z.same]
    refine append_at (hsz := by rw [List.size_toArray, hul, sizeLine_eq]; omega) (N4 (Dd, lst us) (.tail _ (.tail _ (.head _)))).1 fun h₅ hs₅ hD₅ => ?_
    refine ⟨k' - 1, Nat.sub_lt hk1 Nat.one_pos, .mk (by omega) (by omega) (by rw [List.length_append, hul]; rfl) ⟨oI, hs₅.extBut _ _ hID (N4 (I, oI) (.head _)).1, cI, dI⟩ (z.F.change hs₅ hDL hD0) ((hoC.ns (N4 (Cc, oC) (.tail _ (.head _))).1).sameBut hs₅ (Ne.symm hDC)) (newsCons ⟨hD₅.trans (congrArg some (lst_snoc us u)), hDL, hD0⟩ fun p hp => ⟨hs₅.extBut _ _ (z.off p hp).2.2 (N4 p (.tail _ (.tail _ (.tail _ hp)))).1, (N4 p (.tail _ (.tail _ (.tail _ hp)))).2⟩) z.off z.sp (xx.trans x') ((PIns.mono x'.ro _ hus).snoc hu) hJ''⟩
  · have hi : i = vs.length := by omega
    subst hi
    refine W.done _ _ _ (by rw [List.size_toArray]; exact hst) fun h₂ tk₂ hk₂ => ?_
    have hk₂' : ∀ b o, b ≠ I → h'.get? b = some o → h₂.get? b = some o := fun b o hb e => hk₂ b o (fun h => hb (List.mem_singleton.mp h)) e
    refine ⟨m', hn'.at' fun o e => hk₂' _ o (Ne.symm hIC) e, fun h'' hs'' => ?_⟩
    exact fin us ys ow r lx Sp' xx hus (by rw [← hvl]; exact hJ') Dd h'' tk₂ ((fr_but F' hk₂ (Ne.symm hIL) hI0).change hs'' hCL hC0) (fun p hp => ⟨hs''.extBut _ _ ((List.mem_cons.mp hp).elim (fun e => by rw [e]; exact hDC) fun hp => (off p hp).2.1) (hN2 hk₂' p hp).1, (hN2 hk₂' p hp).2⟩) (Off3.of off).one
theorem WE_comp3 {x1 x2 x3 : Str} {p1 p2 p3 tp : Pos} {tk0} {elt it : Expr} {scope : Scope} (K : Cap sc scope x3 fr []) (hx1 : scope.names.lookup x1 = some .local) (hx2 : scope.names.lookup x2 = some .local) (hr1 : (relabelS scope sc).names.lookup x1 = some .local) (hr2 : (relabelS scope sc).names.lookup x2 = some .local) (h12 : x1 ≠ x2)
    (h : WE C it fr own fun d o => ∃ (l : List PyData) (J : Nat → List PyData → List MO → Prop), d = .d (.tuple l) ∧ l.length ≤ 1000 ∧ (∀ (i : Nat) x, l[i]? = some x → ∃ a b c, x = PyData.tuple [a, b, c]) ∧ J 0 [] o ∧
      (∀ (C' : Cx (relabelS scope sc) D U) (i : Nat) ys own a b c, l[i]? = some (PyData.tuple [a, b, c]) → J i ys own → WE C' elt [(x3, .d c), (x2, .d b), (x1, .d a)] own fun d o => ∃ y, d = .d y ∧ J (i + 1) (ys ++ [y]) o) ∧ ∀ ys o, J l.length ys o → P (.d (.list ys)) o)
    (hs : ∀ env x, foldedSetIterable it env x = pure x := by intro _ _; rfl) : WE C (.ListComp elt [⟨.Tuple [.Name x1 p1, .Name x2 p2, .Name x3 p3] tk0 tp, it, [], 0⟩] scope pos) fr own P := by
  intro m ro sl s Q S k
  obtain ⟨cl, hclos, hcl⟩ := K.clo S
  rw [eval_ListComp]
  refine wpAny_comprehension_free (use := none) rfl (hs _) hclos K.kind K.names (h m ro sl s _ S fun xv d o r1 l1 s1 S1 x1' hv hP => ?_)
  obtain ⟨l, J, rfl, hz, h3, hJ, turn, done⟩ := hP
  obtain ⟨ax, vs, rfl, hax, hvs⟩ := hv
  have F := S1.F
  have hg := S1.inro hax
  refine wpAny_pyIter_tuple (⟨_, hg, rfl, _, rfl⟩ : s1.heap.IsTuple ax vs.toArray) ?_
  refine wpAny_newObj_type (wpAny_newFunctionEnv K.cell (by intro y hy; simp at hy) (fun h₁ hns₁ hsb₁ => ?_) K.kind)
  have up1 : ∀ b o, s1.heap.get? b = some o → (s1.heap.push { cls := .type "tuple_iterator", data := .fields #[.ref ax, .int 0 0] }).get? b = some o := fun b o e => Heap.get?_push_of_some _ e
  have size1 : (s1.heap.push { cls := .type "tuple_iterator", data := .fields #[.ref ax, .int 0 0] }).objs.size = s1.heap.objs.size + 1 := Heap.size_push ..
  have size2 : ((s1.heap.push { cls := .type "tuple_iterator", data := .fields #[.ref ax, .int 0 0] }).push { cls := .type "list", dict := none, data := .seq ([] : List Value).toArray }).objs.size = s1.heap.objs.size + 1 + 1 := by rw [Heap.size_push, size1]
  have up3 : ∀ b o, ((s1.heap.push { cls := .type "tuple_iterator", data := .fields #[.ref ax, .int 0 0] }).push { cls := .type "list", dict := none, data := .seq ([] : List Value).toArray }).get? b = some o → h₁.get? b = some o := fun b o e => hsb₁.extBut b o (Nat.ne_of_lt (Heap.lt_size e)) (Heap.get?_push_of_some _ e)
  have hI0 : h₁.get? s1.heap.objs.size = some { cls := .type "tuple_iterator", data := .fields #[.ref ax, .int 0 0] } := up3 _ _ (Heap.get?_push_of_some _ (Heap.get?_push_size _ rfl))
  have hD1 := up3 _ _ (Heap.get?_push_size (s1.heap.push { cls := .type "tuple_iterator", data := .fields #[.ref ax, .int 0 0] }) (o := { cls := .type "list", dict := none, data := .seq ([] : List Value).toArray }) rfl)
  have up : ∀ b o, s1.heap.get? b = some o → h₁.get? b = some o := fun b o e => up3 _ _ (Heap.get?_push_of_some _ (up1 _ _ e))
  rw [size2] at hns₁ ⊢
  rw [size1] at hD1 ⊢
  have no0 : ∀ b : Addr, s1.heap.objs.size ≤ b → C.h₀.get? b = none := fun b hb => by
    cases e : C.h₀.get? b with
    | none => rfl
    | some o => exact absurd (Heap.lt_size (F.keep _ _ e)) (Nat.not_lt.mpr hb)
  have hLlt := F.ns.lt
  have lt1 := Nat.lt_succ_self s1.heap.objs.size
  have lt2 := Nat.lt_succ_self (s1.heap.objs.size + 1)
  have lt3 := Nat.lt_trans lt1 lt2
  have go := comp3_loop (pos := pos) (p1 := p1) (p2 := p2) (p3 := p3) (tp := tp) (tk0 := tk0) (it := it) (cl := cl) (s := s1) (Q := Q) K hx1 hx2 hr1 hr2 h12 (Nat.ne_of_lt lt1) (Nat.ne_of_lt lt3) (Nat.ne_of_lt lt2) (no0 _ (Nat.le_refl _)) (no0 _ (Nat.le_of_lt lt3)) (no0 _ (Nat.le_of_lt lt1)) (Nat.ne_of_gt hLlt) (Nat.ne_of_gt (Nat.lt_trans hLlt lt3)) (Nat.ne_of_gt (Nat.lt_trans hLlt lt1)) S1.gens S1.drawn S1.os hax hvs hz h3 turn
    (fun us ys ow r lx Sp' xx hus hJ' => vfin (r0 := r1) (l0 := l1) (P := P) S1.gens S1.drawn S1.os Sp' xx hus (Kv.ext (Q := Q) k x1') (done ys ow hJ')) ⟨_, hI0, rfl, rfl⟩ (F.keeps up) hns₁ (newsCons ⟨hD1, Nat.ne_of_gt (Nat.lt_trans hLlt lt1), no0 _ (Nat.le_of_lt lt1)⟩ (S1.N.grown up))
    (fun p hp => by
      have hb := Heap.lt_size (S1.N p hp).1
      exact ⟨Nat.ne_of_lt hb, Nat.ne_of_lt (Nat.lt_trans hb lt3), Nat.ne_of_lt (Nat.lt_trans hb lt1)⟩) S1.sp hJ _ (tk := s1.toks + ([] : List (Str × Value)).length) rfl
  exact codeAny_compStart_list go (wpAny_pyIter_tupleiter (⟨_, hI0, rfl, rfl⟩ : Heap.IsTupleIter h₁ s1.heap.objs.size ax 0) go)
inductive InvF {σ : Type} (C : Cx sc D U) (st : σ → Fm) (fr0 : Fm) (J : Nat → σ → List MO → Prop) (s1 : Shared) (r1 : Ld) (l1 : List Sl) (I ax : Addr) (n : Nat) : Nat → Shared → Prop
  | mk {k i tk : Nat} {h' : Heap} {m' : Str → Option Value} {c : σ} {ow : List MO} {r : Ld} {lx : List Sl} (hk : i + k = n + 1) (hk1 : 1 ≤ k) (hit : h'.IsListIter I ax i) (S : St C m' r lx (st c ++ fr0) ow { s1 with heap := h', toks := tk }) (off : ∀ p ∈ slLd lx ++ (r ++ C.fx), p.1 ≠ I) (xx : Ext r1 l1 r lx) (hJ : J i c ow) :
    InvF C st fr0 J s1 r1 l1 I ax n k { s1 with heap := h', toks := tk }
inductive For3P {σ : Type} (C : Cx sc D U) (st : σ → Fm) (body : List Stmt) (x1 x2 x3 : Str) (fr : Fm) (PN : Fm → List MO → Prop) (PR : V → List MO → Prop) : V → List MO → Prop
  | mk {l : List PyData} {o : List MO} (J : Nat → σ → List MO → Prop) (c₀ : σ) (fr0 : Fm) (hf : FrIs fr (st c₀ ++ fr0)) (h0 : J 0 c₀ o) (hT : ∀ (i : Nat) (x : PyData), l[i]? = some x → ∃ a b c, x = PyData.tuple [a, b, c])
    (turn : ∀ (C' : Cx sc D U) (i : Nat) c own a b e, l[i]? = some (PyData.tuple [a, b, e]) → J i c own → WS C' body ((x3, .d e) :: (x2, .d b) :: (x1, .d a) :: (st c ++ fr0)) own (fun fr' own' => ∃ c', FrIs fr' (st c' ++ fr0) ∧ J (i + 1) c' own') PR)
    (done : ∀ c fr' own, FrIs fr' (st c ++ fr0) → J l.length c own → PN fr' own) : For3P C st body x1 x2 x3 fr PN PR (.d (.list l)) o
set_option tactic.hygienic true in
theorem for3_walk {σ : Type} {x1 x2 x3 : Str} {body : List Stmt} {p1 p2 p3 pt : Pos} {ex} {st : σ → Fm} {fr0 : Fm} {J : Nat → σ → List MO → Prop} {I ax : Addr} {vs : List Value} {l : List PyData} {n : Nat} {c₀ : σ} {PR : V → List MO → Prop} {R : Result → Shared → Prop} {tk : Nat} {h₁ : Heap} (hc : C.cm = none)
    (h1 : sc.names.lookup x1 = some .local) (h2 : sc.names.lookup x2 = some .local) (h3 : sc.names.lookup x3 = some .local) (hIL : C.L ≠ I) (hI0 : C.h₀.get? I = none) (hax : (ax, listOf vs.toArray n) ∈ ro) (hvs : PIns ro vs l) (hT : ∀ (i : Nat) (x : PyData), l[i]? = some x → ∃ a b c, x = PyData.tuple [a, b, c])
    (turn : ∀ (C' : Cx sc D U) (i : Nat) c own a b e, l[i]? = some (PyData.tuple [a, b, e]) → J i c own → WS C' body ((x3, .d e) :: (x2, .d b) :: (x1, .d a) :: (st c ++ fr0)) own (fun fr' own' => ∃ c', FrIs fr' (st c' ++ fr0) ∧ J (i + 1) c' own') PR)
    (k : ∀ m' c ow r lx s', St C m' r lx (st c ++ fr0) ow s' → Ext ro sl r lx → J vs.length c ow → R (.ok .next) s') (kr : ∀ v d m' o r lx s', St C m' r lx [] o s' → Ext ro sl r lx → VIn C.w r (adr lx) v d → PR d o → R (.ok (.ret v)) s')
    (hit : h₁.IsListIter I ax 0) (S : St C m ro sl (st c₀ ++ fr0) own { s with heap := h₁, toks := tk }) (off : ∀ p ∈ slLd sl ++ (ro ++ C.fx), p.1 ≠ I) (h0 : J 0 c₀ own) :
    codeAny (model Pg C.w) C.A (.forLoop (.Tuple [.Name x1 p1, .Name x2 p2, .Name x3 p3] ex pt) (.ref I) body [] C.env) R { s with heap := h₁, toks := tk } := by
  have haI := off _ (List.mem_append_right _ (List.mem_append_left _ hax))
  have W := Walks.list (prog := Pg) (w := C.w) (A := C.A) C.hh I ax haI vs.toArray
  have hLl := C.locals hc
  have hkd : (C.env.scope.kind == .class || (C.env.scope.kind == .module && C.env.locals != C.env.globals)) = false := by rw [C.ek]; rfl
  refine codeAny_forLoop_any (InvF C st fr0 J s ro sl I ax vs.length) ?_ (vs.length + 1) (.mk (Nat.zero_add _) (Nat.succ_pos _) hit S off .refl h0)
  clear hit S off h0
  rintro k' s' ⟨hk, hk1, hit, S', off, xx, hJ⟩
  rename_i i tk h' m' c ow r lx
  have hls : h'.IsList ax vs.toArray := ⟨_, (S'.N _ (List.mem_append_right _ (List.mem_append_left _ (xx.ro _ hax)))).1, rfl, _, rfl⟩
  have hN2 : ∀ {h₂ : Heap}, (∀ b o, b ∉ [I] → h'.get? b = some o → h₂.get? b = some o) → News C.h₀ C.L h₂ (slLd lx ++ (r ++ C.fx)) := fun hk2 p hp => ⟨hk2 _ _ (fun e => off p hp (List.mem_singleton.mp e)) (S'.N p hp).1, (S'.N p hp).2⟩
  by_cases hlt : i < vs.length
  · refine W.item i _ _ _ (by rw [List.size_toArray]; exact hlt) ⟨hit, hls⟩ fun v h₂ tk₂ hv hst₂ hk₂ => ?_
    cases trip_at hvs hT (show vs[i]? = some v by simpa using hv)
    rename_i t v1 v2 v3 a b e hli ht hq1 hq2 hq3
    have N₂ := hN2 hk₂
    have F₂ : Fr C.h₀ C.L h₂ m' := fr_but S'.F hk₂ hIL hI0
    refine wpAny_letOwnedTupleGo_listiter hst₂.1 ?_
    refine wpAny_assign_Tuple C.hh (⟨_, N₂.get (List.mem_append_right _ (List.mem_append_left _ (xx.ro _ ht))), rfl, _, rfl⟩ : h₂.IsTuple t #[v1, v2, v3]) rfl rfl fun h₃ hx₃ => ?_
    replace hx₃ : Heap.ExtBut h₂.objs.size h₂ h₃ := hx₃
    have up₃ : ∀ b o, h₂.get? b = some o → h₃.get? b = some o := fun b o x => hx₃ b o (Nat.ne_of_lt (Heap.lt_size x)) x
    have F₃ := F₂.keeps up₃
    have N₃ := N₂.grown up₃
    obtain ⟨oI, hoI, hcI, hdI⟩ := hst₂.1
    have hoI₃ := up₃ _ _ hoI
    clear hk₂ hx₃ up₃ N₂ F₂ hst₂ hoI
    show wpAny _ C.A (do holding [v2, v3] (assign (.Name x1 p1) C.env v1); do holding [v3] (assign (.Name x2 p2) C.env v2); do holding [] (assign (.Name x3 p3) C.env v3); pure ()) _ _ _
    refine wpAny_bind (wpAny_holding (wpAny_assign_Name (wpAny_storeName_local ((C.kof x1).trans h1) (hLl.symm ▸ F₃.ns) (fun h₄ hn₄ hs₄ => ?_) hkd)))
    rw [hLl] at hn₄ hs₄
    replace hs₄ : Heap.SameBut C.L h₃ h₄ := hs₄
    have F₄ := F₃.set hn₄ hs₄
    have N₄ := N₃.set hs₄
    have hoI₄ := hs₄.extBut I oI (Ne.symm hIL) hoI₃
    clear F₃ N₃ hoI₃ hn₄ hs₄
    refine wpAny_bind (wpAny_holding (wpAny_assign_Name (wpAny_storeName_local ((C.kof x2).trans h2) (hLl.symm ▸ F₄.ns) (fun h₅ hn₅ hs₅ => ?_) hkd)))
    rw [hLl] at hn₅ hs₅
    replace hs₅ : Heap.SameBut C.L h₄ h₅ := hs₅
    have F₅ := F₄.set hn₅ hs₅
    have N₅ := N₄.set hs₅
    have hoI₅ := hs₅.extBut I oI (Ne.symm hIL) hoI₄
    clear F₄ N₄ hoI₄ hn₅ hs₅
    refine wpAny_bind (wpAny_holding (wpAny_assign_Name (wpAny_storeName_local ((C.kof x3).trans h3) (hLl.symm ▸ F₅.ns) (fun h₆ hn₆ hs₆ => wpAny_pure ?_) hkd)))
    rw [hLl] at hn₆ hs₆
    replace hs₆ : Heap.SameBut C.L h₅ h₆ := hs₆
    have F₆ := F₅.set hn₆ hs₆
    have N₆ := N₅.set hs₆
    have hoI₆ := hs₆.extBut I oI (Ne.symm hIL) hoI₅
    clear F₅ N₅ hoI₅ hn₆ hs₆
    have up : ∀ {v : Value} {d : PyData}, PIn ro v d → VIn C.w r (adr lx) v (.d d) := fun hp => PIn.mono xx.ro _ hp
    have S4 := ((((S'.sp.store hc h1 (up hq1) rfl).store hc h2 (up hq2) rfl).store hc h3 (up hq3) rfl).more1 (p := (I, oI)) off).st (s := s) (tk := tk₂ + 1 + 1 + 1) F₆ (fun p hp => newsCons (p := (I, oI)) ⟨hoI₆, Ne.symm hIL, hI0⟩ N₆ p (mem_ins hp)) S'.gens S'.drawn S'.os
    dsimp only
    refine wpAny_mono (turn (C.more [(I, oI)] [(I, oI)] fun _ h => h) i c ow a b e hli hJ hc _ _ _ _ (fun f s₃ => match f with
            | .next | .cont => ∃ m, m < k' ∧ InvF C st fr0 J s ro sl I ax vs.length m s₃
            | .brk => R (.ok .next) s₃
            | .ret v => R (.ok (.ret v)) s₃) S4 (fun m2 fr2 o2 r2 l2 s2 S5 x5 hp5 => ?_) fun v d m2 o2 r2 l2 s2 S5 x5 hv5 hp5 => ?_) (fun _ _ h => h) fun _ _ h => h.elim
    · obtain ⟨c', hf', hJ'⟩ := hp5
      obtain ⟨S6, off6, hI6⟩ := S5.less1
      have e2 := S'.gdo S6.gens S6.drawn S6.os
      refine ⟨k' - 1, Nat.sub_lt hk1 Nat.one_pos, ?_⟩
      rw [e2] at S6 ⊢
      exact .mk (c := c') (by omega) (by omega) ⟨oI, hI6, hcI, hdI⟩ (S6.sp.less hf' |>.st S6.F S6.N S6.gens S6.drawn S6.os) (fun p hp => by
        rw [← List.append_assoc] at hp
        rcases List.mem_append.mp hp with h | h
        · exact off6 p h
        · exact off p (List.mem_append_right _ (List.mem_append_right _ h))) (xx.trans x5) hJ'
    · exact kr v d m2 o2 r2 l2 s2 S5.less1.1 (xx.trans x5) hv5 hp5
  · obtain rfl : i = vs.length := by omega
    refine W.done _ _ _ ⟨by rw [List.size_toArray]; exact hit, hls⟩ fun h₂ tk₂ hk₂ => wpAny_execs_nil ?_
    exact k m' c ow r lx _ (S'.sp.st (fr_but S'.F hk₂ hIL hI0) (hN2 hk₂) S'.gens S'.drawn S'.os) xx hJ
theorem WT_for3 {σ : Type} {x1 x2 x3 : Str} {it : Expr} {body : List Stmt} {p1 p2 p3 pt : Pos} {ex} {PN : Fm → List MO → Prop} {PR : V → List MO → Prop} (st : σ → Fm) (h : WE C it fr own (For3P C st body x1 x2 x3 fr PN PR))
    (h1 : sc.names.lookup x1 = some .local := by rfl) (h2 : sc.names.lookup x2 = some .local := by rfl) (h3 : sc.names.lookup x3 = some .local := by rfl) (hs : ∀ env x, foldedSetIterable it env x = pure x := by intro _ _; rfl) :
    WT C (.For (.Tuple [.Name x1 p1, .Name x2 p2, .Name x3 p3] ex pt) it body [] pos) fr own PN PR := by
  intro hc m ro sl s Q S k r
  refine wpAny_For (h m ro sl s _ S fun v d o r1 l1 s1 S1 y1 hv hP => ?_) (hs _)
  obtain ⟨J, c₀, fr0, hf, h0, hT, turn, done⟩ := hP
  obtain ⟨a, vs, n, rfl, ma, hvs⟩ := hv
  refine wpAny_pyIter_list (⟨_, S1.inro ma, rfl, _, rfl⟩ : s1.heap.IsList a vs.toArray) ?_
  have S2 := S1.same (tk := s1.toks) (S1.F.push { cls := .type "list_iterator", data := .fields #[.ref a, .int 0 0] }) fun p hp => ⟨Heap.get?_push_of_some _ (S1.N p hp).1, (S1.N p hp).2⟩
  exact for3_walk (s := s1) (sl := l1) (tk := s1.toks) hc h1 h2 h3 (Nat.ne_of_lt S1.F.ns.lt) (next_is_new S1.F) ma hvs hT turn (fun m' c ow r lx s' S' x' hJ => k m' _ ow r lx s' S' (y1.trans x') (done c _ ow FrIs.refl (by rw [← hvs.len]; exact hJ))) (fun v d m' o r' lx s' S' x' hv hp => r v d m' o r' lx s' S' (y1.trans x') hv hp) ⟨_, Heap.get?_push_size _ rfl, rfl, rfl⟩ (S2.sp.less hf |>.st S2.F S2.N S2.gens S2.drawn S2.os) (fun p hp => Nat.ne_of_lt (Heap.lt_size (S1.N p hp).1)) h0
end
end
section
open PySem PySem.W PyProof.Rows PySem.Calls
section
variable {sc : Scope} {D U : Nat} {C : Cx sc D U} {fr : Fm} {own : List MO} {P : V → List MO → Prop} {PB : Bool → List MO → Prop} {value slice : Expr}
theorem WCmp_notinS {l : List (List Str × PyData)} {ks : List Str} (hP : PB (!(dval l ks).isSome) own) (hu : Nat.ble 1 U = true := by rfl) : WCmp C .NotIn (.d (encS ks)) (.dS l) fr own PB := by
  rintro m ro sl s Q va vi S ⟨a, vs, rfl, ma, hvs⟩ ⟨d, xs, rfl, T, hp⟩ q
  have hU := C.units
  have hu := Nat.le_of_ble_eq_true hu
  refine td_notin (Nat.lt_of_le_of_lt (Nat.add_le_add_left hu _) hU) S.N (T.mono fun p hp => S.news hp) (S.news ma) (.made (strItems hvs)) fun t => ?_
  have := hp.at ks
  cases e : dval l ks with
  | some d => rw [e] at this hP; obtain ⟨a, v, h, _⟩ := this; rw [h]; exact q _ (.d (.bool _)) _ _ _ _ S.tk .refl rfl ⟨_, rfl, hP⟩
  | none => rw [e] at this hP; rw [show atKey xs ks = none from this]; exact q _ (.d (.bool _)) _ _ _ _ S.tk .refl rfl ⟨_, rfl, hP⟩
theorem WSub_dS {l : List (List Str × PyData)} {ks : List Str} {x : PyData} (hx : dval l ks = some x) (hP : P (.d x) own) (hs : plainIx slice = true := by rfl) (hu : Nat.ble 1 U = true := by rfl) (hg : ∀ d r, letTemporaryGo value (.ref d) r = pure () := by intro _ _; with_unfolding_all rfl) : WSub C value slice (.dS l) (.d (encS ks)) fr own P := by
  rintro m ro sl s Q va vi S ⟨d, xs, rfl, T, hp⟩ ⟨a, vs, rfl, ma, hvs⟩ q
  have hU := C.units
  have hu := Nat.le_of_ble_eq_true hu
  have := hp.at ks
  rw [hx] at this
  obtain ⟨b, v, h, hv⟩ := this
  exact td_item (Nat.lt_of_le_of_lt (Nat.add_le_add_left hu _) hU) S.N (T.mono fun p hp => S.news hp) (S.news ma) (.made (strItems hvs)) h (fun t => q _ (.d x) _ _ _ _ S.tk .refl hv hP) (subscripted_plain hs) (hg d)
theorem WF_sorted1 {l : List PyData} (h : l.length < 2) (hP : P (.d (.list l)) own) : WFun C (.builtin "sorted") [.d (.list l)] fr own P := by
  intro m ro sl s Q vs S hv k
  obtain ⟨v, rfl, a, us, n, rfl, ma, hl⟩ := VIns_one hv
  refine few_sorted S.F S.N (S.news ma) (by rw [hl.len]; exact h) fun D' c h' F' N' l' => ?_
  exact k _ (.d (.list l)) _ _ _ _ (S.push (tk := s.toks) F' N' l') .push ⟨_, us, _, rfl, .head _, PIns.mono (fun _ h => .tail _ h) _ hl⟩ hP
end
end
section
open PySem PySem.W PyProof.Rows PySem.Calls
@[irreducible] noncomputable def Lk (p : Prop) : Prop := p
theorem lk {p : Prop} (h : p) : Lk p := by unfold Lk; exact h
theorem Lk.un {p : Prop} (h : Lk p) : p := by unfold Lk at h; exact h
inductive BK | len | range | int | min | max | sum | tuple | list | dict | sorted
noncomputable abbrev BK.val : BK → Value
  | .len => .builtin "len" | .range => .type "range" | .int => .type "int" | .min => .builtin "min" | .max => .builtin "max" | .sum => .builtin "sum" | .tuple => .type "tuple" | .list => .type "list" | .dict => .type "dict" | .sorted => .builtin "sorted"
structure Tbl where
  gi : List (Str × Int)
  gf : List (Str × Addr)
  gb : List (Str × BK)
  ga : List (Addr × Str)
  gs : List (Addr × Str)
  gm : List ((Addr × Str) × Addr)
structure TblOk (T : Tbl) : Prop where
  gi : ∀ x ∈ T.gi, ∃ t, ∀ w : World, nsIn (hd.heap_39 w.params) mainGlobals x.1 = some (some (.int x.2 t))
  gf : ∀ x ∈ T.gf, ∀ w, GFn w x.1 x.2
  gb : ∀ x ∈ T.gb, ∀ w, BFn w x.1 x.2.val
  ga : ∀ x ∈ T.ga, ∀ w, AttrOk w x.1 x.2
  gs : ∀ x ∈ T.gs, ∀ w, SetOk w x.1 x.2
  gm : ∀ x ∈ T.gm, ∀ w, MethOk w x.1.1 x.1.2 x.2
theorem lookup_pair {α β : Type} [BEq α] [LawfulBEq α] {x : α} {v : β} : ∀ {l : List (α × β)}, l.lookup x = some v → (x, v) ∈ l
  | [], h => nomatch h
  | (y, u) :: r, h => by
    rw [List.lookup_cons] at h
    cases e : x == y with
    | true => rw [e] at h; cases h; rw [eq_of_beq e]; exact .head _
    | false => rw [e] at h; exact .tail _ (lookup_pair h)
noncomputable abbrev bC (c : Bool) (A B : Prop) : Prop := Bool.rec B A c
theorem Ex_of {n : Nat} {P : V → List MO → Prop} {d : V} {own own' : List MO} (h1 : (d.frz n own).bd n = true) (h2 : exitO n own = own') (h3 : own'.all (MO.bd n) = true) (h4 : n ≤ own.length) (h : P (d.frz n own) own') : Ex n P d own := by
  subst h2
  exact ⟨h1, h3, h4, h⟩
theorem bT {c : Bool} {A B : Prop} (h : c = true) (a : A) : bC c A B := by subst h; exact a
theorem bF {c : Bool} {A B : Prop} (h : c = false) (b : B) : bC c A B := by subst h; exact b
section
variable (T : Tbl) {sc : Scope} {D U : Nat} (C : Cx sc D U)
noncomputable def dbg (x : Str) : Bool := x == ("__debug__" : Str)
noncomputable def isLoc (sc : Scope) (x : Str) : Bool := match sc.names.lookup x with | some .local => true | _ => false
noncomputable def isGlo (sc : Scope) (x : Str) : Bool := match sc.names.lookup x with | some .globalImplicit => !dbg x | _ => false
noncomputable def onO {α : Type} (o : Option α) (k : α → Prop) (z : Prop) : Prop := match o with | some x => k x | none => z
noncomputable def onD (a : V) (k : PyData → Prop) (z : Prop) : Prop := match a with | .d x => k x | _ => z
noncomputable def onI (x : PyData) (k : Int → Prop) (z : Prop) : Prop := match x with | .int i => k i | _ => z
noncomputable def onS (x : PyData) (k : Str → Prop) (z : Prop) : Prop := match x with | .str i => k i | _ => z
noncomputable def onT (x : PyData) (k : List PyData → Prop) (z : Prop) : Prop := match x with | .tuple i => k i | _ => z
noncomputable def onN (x : PyData) (k z : Prop) : Prop := match x with | .none => k | _ => z
noncomputable def onIns (a : V) (k : Addr → Fs → Prop) (z : Prop) : Prop := match a with | .ins c fs => k c fs | _ => z
noncomputable def onObj (a : V) (k : Addr → Nat → Prop) (z : Prop) : Prop := match a with | .obj c j => k c j | _ => z
noncomputable def onF (o : Option MO) (k : Fs → Prop) (z : Prop) : Prop := onO o (fun m => match m with | .flds fs => k fs | _ => z) z
noncomputable def pName (fr : Fm) (x : Str) (pos : Pos) (own : List MO) (P : V → List MO → Prop) : Prop :=
  bC (isGlo sc x) (onO (T.gi.lookup x) (fun i => P (.d (.int i)) own) (Lk (WE C (.Name x pos) fr own P))) (onO (fr.lookup x) (fun d => bC (!d.isCel && !dbg x) (P d own) (Lk (WE C (.Name x pos) fr own P))) (Lk (WE C (.Name x pos) fr own P)))
noncomputable def pBin (fr : Fm) (op : Operator) (a b : V) (own : List MO) (P : V → List MO → Prop) : Prop := match op with
  | .Add => onD a (fun x => onI x (fun i => onD b (fun y => onI y (fun j => P (.d (.int (i + j))) own) (Lk (WBin C op a b fr own P))) (Lk (WBin C op a b fr own P))) (Lk (WBin C op a b fr own P))) (Lk (WBin C op a b fr own P))
  | .Sub => onD a (fun x => onI x (fun i => onD b (fun y => onI y (fun j => P (.d (.int (i - j))) own) (Lk (WBin C op a b fr own P))) (Lk (WBin C op a b fr own P))) (Lk (WBin C op a b fr own P))) (Lk (WBin C op a b fr own P))
  | op => Lk (WBin C op a b fr own P)
noncomputable def cII (op : CmpOp) (i j : Int) (own : List MO) (P : Bool → List MO → Prop) (z : Prop) : Prop := match op with
  | .Eq => P (i == j) own
  | .Lt => P (decide (i < j)) own
  | .Gt => P (decide (j < i)) own
  | .GtE => P (decide (j ≤ i)) own
  | _ => z
noncomputable def cSS (op : CmpOp) (i j : Str) (own : List MO) (P : Bool → List MO → Prop) (z : Prop) : Prop := match op with
  | .Eq => P (i == j) own
  | .NotEq => P (i != j) own
  | _ => z
noncomputable def cIs (op : CmpOp) (b : Bool) (own : List MO) (P : Bool → List MO → Prop) (z : Prop) : Prop := match op with
  | .Is => P b own
  | .IsNot => P (!b) own
  | _ => z
noncomputable def pCmpD (fr : Fm) (op : CmpOp) (x y : PyData) (own : List MO) (P : Bool → List MO → Prop) : Prop := match x with
  | .int i => onI y (fun j => cII op i j own P (Lk (WCmp C op (.d (.int i)) (.d y) fr own P))) (onN y (cIs op false own P (Lk (WCmp C op (.d (.int i)) (.d y) fr own P))) (Lk (WCmp C op (.d (.int i)) (.d y) fr own P)))
  | .str i => onS y (fun j => cSS op i j own P (Lk (WCmp C op (.d (.str i)) (.d y) fr own P))) (Lk (WCmp C op (.d (.str i)) (.d y) fr own P))
  | .none => onN y (cIs op true own P (Lk (WCmp C op (.d .none) (.d y) fr own P))) (Lk (WCmp C op (.d .none) (.d y) fr own P))
  | x => Lk (WCmp C op (.d x) (.d y) fr own P)
noncomputable def pCmp (fr : Fm) (op : CmpOp) (a b : V) (own : List MO) (P : Bool → List MO → Prop) : Prop := match a with
  | .d x => onD b (fun y => pCmpD C fr op x y own P) (Lk (WCmp C op (.d x) b fr own P))
  | a => Lk (WCmp C op a b fr own P)
noncomputable def on1 (ds : List V) (k : PyData → Prop) (z : Prop) : Prop := match ds with
  | a :: r => (match r with | [] => onD a k z | _ => z)
  | [] => z
noncomputable def on2 (ds : List V) (k : Int → Int → Prop) (z : Prop) : Prop := match ds with
  | a :: r => on1 r (fun y => onD a (fun x => onI x (fun i => onI y (fun j => k i j) z) z) z) z
  | [] => z
noncomputable def pFun (fr : Fm) (b : BK) (ds : List V) (own : List MO) (P : V → List MO → Prop) : Prop :=
  match b with
  | .len => on1 ds (fun x => match x with
    | .tuple l => l.length ≤ 1000 ∧ P (.d (.int l.length)) own
    | .list l => l.length ≤ 1000 ∧ P (.d (.int l.length)) own
    | _ => Lk (WFun C b.val ds fr own P)) (Lk (WFun C b.val ds fr own P))
  | .int => on1 ds (fun x => match x with
    | .int i => P (.d (.int i)) own
    | .bool b => P (.d (.int (if b = true then 1 else 0))) own
    | _ => Lk (WFun C b.val ds fr own P)) (Lk (WFun C b.val ds fr own P))
  | .min => on2 ds (fun i j => P (.d (.int (if j < i then j else i))) own) (Lk (WFun C b.val ds fr own P))
  | .max => on2 ds (fun i j => P (.d (.int (if j > i then j else i))) own) (Lk (WFun C b.val ds fr own P))
  | b => Lk (WFun C b.val ds fr own P)
noncomputable def isLit (sc : Scope) : Expr → Bool
  | .Constant _ _ _ => true
  | .Name x _ => isGlo sc x
  | _ => false
noncomputable def pSub (fr : Fm) (value slice : Expr) (a i : V) (own : List MO) (P : V → List MO → Prop) : Prop :=
  bC (isLit sc slice) (onD a (fun x => onT x (fun l => onD i (fun y => onI y (fun k => match k with
    | .ofNat k => bC (Nat.blt k 1000) (onO l[k]? (fun x => P (.d x) own) (Lk (WSub C value slice a i fr own P))) (Lk (WSub C value slice a i fr own P))
    | _ => Lk (WSub C value slice a i fr own P)) (Lk (WSub C value slice a i fr own P))) (Lk (WSub C value slice a i fr own P))) (Lk (WSub C value slice a i fr own P))) (Lk (WSub C value slice a i fr own P))) (Lk (WSub C value slice a i fr own P))
noncomputable def pAttr (fr : Fm) (name : Str) (a : V) (own : List MO) (P : V → List MO → Prop) : Prop :=
  onIns a (fun c fs => bC (T.ga.contains (c, name)) (onO (fs.get name) (fun d => P d own) (Lk (WAttr C name a fr own P))) (Lk (WAttr C name a fr own P)))
  (onObj a (fun c k => bC (T.ga.contains (c, name)) (onF own[k]? (fun fs => onO (fs.get name) (fun d => P d own) (Lk (WAttr C name a fr own P))) (Lk (WAttr C name a fr own P))) (Lk (WAttr C name a fr own P))) (Lk (WAttr C name a fr own P)))
noncomputable def isB (d : V) (k : Bool → Prop) : Prop := onD d (fun x => match x with | .bool b => k b | _ => False) False
noncomputable def isI (d : V) (k : Int → Prop) : Prop := onD d (fun x => onI x k False) False
noncomputable def isL (ds : List V) (k : List PyData → Prop) : Prop := onO (V.ps ds) (fun xs => bC (Nat.ble xs.length 1000) (k xs) False) False
noncomputable def pCallN (fr : Fm) (g : Str) (px : Pos) (args : List Expr) (pos : Pos) (evs : List MO → (List V → List MO → Prop) → Prop) (own : List MO) (P : V → List MO → Prop) : Prop :=
  bC (isGlo sc g && plainArgs args) (onO (T.gf.lookup g) (fun f => evs own fun ds o => Lk (WCall C f ds fr o P)) (onO (T.gb.lookup g) (fun b => evs own fun ds o => pFun C fr b ds o P) (Lk (WE C (.Call (.Name g px) args [] pos) fr own P)))) (Lk (WE C (.Call (.Name g px) args [] pos) fr own P))
noncomputable def plainHd : Expr → Bool
  | .Name _ _ => true
  | .Attribute _ _ _ => true
  | .Subscript _ _ _ => true
  | _ => false
noncomputable def plainM (v : Expr) (p : Pos) (args : List Expr) (pos : Pos) : Bool := plainHd v && p.endLine == pos.line && args.all plainE && Nat.blt args.length 30
noncomputable def pCallM (fr : Fm) (name : Str) (args : List Expr) (evs : List MO → (List V → List MO → Prop) → Prop) (a : V) (o : List MO) (P : V → List MO → Prop) : Prop :=
  bC (args.all plainE) (onIns a (fun c fs => onO (T.gm.lookup (c, name)) (fun f => bC (fs.get name).isNone (evs o fun ds o => Lk (WCall C f (a :: ds) fr o P)) (Lk (WMeth C name a args fr o P))) (Lk (WMeth C name a args fr o P)))
  (onObj a (fun c k => onO (T.gm.lookup (c, name)) (fun f => onF o[k]? (fun fs => bC (fs.get name).isNone (evs o fun ds o => Lk (WCall C f (a :: ds) fr o P)) (Lk (WMeth C name a args fr o P))) (Lk (WMeth C name a args fr o P))) (Lk (WMeth C name a args fr o P))) (Lk (WMeth C name a args fr o P)))) (Lk (WMeth C name a args fr o P))
mutual
noncomputable def wpE (fr : Fm) : Nat → Expr → List MO → (V → List MO → Prop) → Prop
  | 0, e, own, P => Lk (WE C e fr own P)
  | n + 1, e, own, P => match e with
    | .Name x pos => pName T C fr x pos own P
    | .Constant (.int i) _ _ => P (.d (.int i)) own
    | .Constant (.str x) _ _ => P (.d (.str x)) own
    | .Constant .none _ _ => P (.d .none) own
    | .Constant (.bool b) _ _ => P (.d (.bool b)) own
    | .BinOp l op r _ => wpE fr n l own fun a o => wpE fr n r o fun b o' => pBin C fr op a b o' P
    | .Subscript v s pos => bC (plainIx s) (wpE fr n v own fun a o => wpE fr n s o fun i o' => pSub C fr v s a i o' P) (Lk (WE C (.Subscript v s pos) fr own P))
    | .Tuple es _ _ => wpEs fr n es own fun ds o => isL ds fun xs => P (.d (.tuple xs)) o
    | .IfExp t b e _ => wpB fr n t own fun c o => bC c (wpE fr n b o P) (wpE fr n e o P)
    | .Compare l [op] [r] pos => bC (simpleE r) (wpE fr n l own fun a o => wpE fr n r o fun b o' => pCmp C fr op a b o' fun c o => P (.d (.bool c)) o) (Lk (WE C (.Compare l [op] [r] pos) fr own P))
    | .Attribute v name pos => bC (plainHd v) (wpE fr n v own fun a o => pAttr T C fr name a o P) (Lk (WE C (.Attribute v name pos) fr own P))
    | .BoolOp .And [x] _ => wpE fr n x own P
    | .BoolOp .And (x :: y :: es) pos => wpE fr n x own fun d o => isB d fun b => bC b (wpE fr n (.BoolOp .And (y :: es) pos) o P) (P (.d (.bool b)) o)
    | .UnaryOp .USub e _ => wpE fr n e own fun d o => isI d fun i => P (.d (.int (-i))) o
    | .Call (.Name g px) args [] pos => pCallN T C fr g px args pos (wpEs fr n args) own P
    | .Call (.Attribute v name p) args [] pos => bC (plainM v p args pos) (wpE fr n v own fun a o => pCallM T C fr name args (wpEs fr n args) a o P) (Lk (WE C (.Call (.Attribute v name p) args [] pos) fr own P))
    | e => Lk (WE C e fr own P)
noncomputable def wpEs (fr : Fm) : Nat → List Expr → List MO → (List V → List MO → Prop) → Prop
  | 0, es, own, P => Lk (WEs C es fr own P)
  | _ + 1, [], own, P => P [] own
  | n + 1, e :: es, own, P => bC (plainE e) (wpE fr n e own fun d o => wpEs fr n es o fun ds o' => P (d :: ds) o') (Lk (WEs C (e :: es) fr own P))
noncomputable def wpB (fr : Fm) : Nat → Expr → List MO → (Bool → List MO → Prop) → Prop
  | 0, e, own, P => Lk (WB C e fr own P)
  | n + 1, e, own, P => match e with
    | .Compare l [op] [r] pos => bC (simpleE r) (wpE fr n l own fun a o => wpE fr n r o fun b o' => pCmp C fr op a b o' P) (Lk (WB C (.Compare l [op] [r] pos) fr own P))
    | .UnaryOp .Not e _ => wpB fr n e own fun c o => P (!c) o
    | .BoolOp op es pos => wpBo fr n op es pos own P
    | .Call f args kws pos => wpE fr n (.Call f args kws pos) own fun d o => isB d fun b => P b o
    | .Name x pos => wpE fr n (.Name x pos) own fun d o => isB d fun b => P b o
    | e => Lk (WB C e fr own P)
noncomputable def wpBo (fr : Fm) : Nat → BoolOp → List Expr → Pos → List MO → (Bool → List MO → Prop) → Prop
  | 0, op, es, pos, own, P => Lk (WBo C op es pos fr own P)
  | _ + 1, .And, [], _, own, P => P true own
  | _ + 1, .Or, [], _, own, P => P false own
  | n + 1, .And, x :: es, pos, own, P => wpB fr n x own fun c o => bC c (wpBo fr n .And es pos o P) (P false o)
  | n + 1, .Or, x :: es, pos, own, P => wpB fr n x own fun c o => bC c (P true o) (wpBo fr n .Or es pos o P)
end
noncomputable def isLoop : Stmt → Bool
  | .For _ _ _ _ _ => true
  | .While _ _ _ _ => true
  | _ => false
variable (PR : V → List MO → Prop)
mutual
noncomputable def wpT : Nat → Stmt → Fm → List MO → (Fm → List MO → Prop) → Prop
  | 0, st, fr, own, PN => Lk (WT C st fr own PN PR)
  | n + 1, st, fr, own, PN => match st with
    | .Return (some e) _ => wpE T C fr n e own PR
    | .If t a b _ => wpB T C fr n t own fun c o => bC c (wpS n a fr o PN) (wpS n b fr o PN)
    | .Expr e pos => bC (noComp e) (wpE T C fr n e own fun _ o => PN fr o) (Lk (WT C (.Expr e pos) fr own PN PR))
    | .Assign [.Name x px] e pos => bC (noComp e && isLoc sc x) (wpE T C fr n e own fun d o => bC (!d.isCel) (PN ((x, d) :: fr) o) False) (Lk (WT C (.Assign [.Name x px] e pos) fr own PN PR))
    | .Assign [.Subscript v i p] e pos => bC (noComp e) (wpE T C fr n e own fun d o => wpE T C fr n v o fun a o => wpE T C fr n i o fun i o => Lk (WSet C a i d fr o fun o => PN fr o)) (Lk (WT C (.Assign [.Subscript v i p] e pos) fr own PN PR))
    | st => Lk (WT C st fr own PN PR)
noncomputable def wpS : Nat → List Stmt → Fm → List MO → (Fm → List MO → Prop) → Prop
  | 0, ss, fr, own, PN => Lk (WS C ss fr own PN PR)
  | _ + 1, [], fr, own, PN => PN fr own
  | n + 1, st :: rest, fr, own, PN => bC (isLoop st) (Lk (WS C (st :: rest) fr own PN PR)) (wpT n st fr own fun fr' o => wpS n rest fr' o PN)
end
end
noncomputable def is3 (l : List PyData) (k : PyData → PyData → PyData → Prop) : Prop := match l with
  | a :: r => (match r with
    | b :: r => (match r with
      | c :: r => (match r with | [] => k a b c | _ => False)
      | [] => False)
    | [] => False)
  | [] => False
theorem is3_is {l : List PyData} {k : PyData → PyData → PyData → Prop} (h : is3 l k) : ∃ a b c, l = [a, b, c] ∧ k a b c := by
  cases l with
  | nil => exact h.elim
  | cons a r =>
    cases r with
    | nil => exact h.elim
    | cons b r =>
      cases r with
      | nil => exact h.elim
      | cons c r =>
        cases r with
        | nil => exact ⟨a, b, c, rfl, h⟩
        | cons _ _ => exact h.elim
noncomputable def tup3 (d : V) (k : PyData → PyData → PyData → Prop) : Prop := onD d (fun x => onT x (fun l => is3 l k) False) False
section
variable {T : Tbl} {sc : Scope} {D U : Nat} {C : Cx sc D U} {fr : Fm} {own : List MO} {PN : Fm → List MO → Prop} {PR : V → List MO → Prop} {P : V → List MO → Prop} {PB : Bool → List MO → Prop}
theorem bE {c : Bool} {A B G : Prop} (h : bC c A B) (a : c = true → A → G) (b : c = false → B → G) : G := by
  cases c with
  | true => exact a rfl h
  | false => exact b rfl h
section
variable {z G : Prop}
theorem oO {α : Type} {o : Option α} {k : α → Prop} (h : onO o k z) (a : ∀ x, o = some x → k x → G) (b : z → G) : G := by
  cases o with
  | some x => exact a x rfl h
  | none => exact b h
theorem oD {v : V} {k : PyData → Prop} (h : onD v k z) (a : ∀ x, v = .d x → k x → G) (b : z → G) : G := by
  cases v with
  | d x => exact a x rfl h
  | _ => exact b h
theorem oI {v : PyData} {k : Int → Prop} (h : onI v k z) (a : ∀ x, v = .int x → k x → G) (b : z → G) : G := by
  cases v with
  | int x => exact a x rfl h
  | _ => exact b h
theorem oS {v : PyData} {k : Str → Prop} (h : onS v k z) (a : ∀ x, v = .str x → k x → G) (b : z → G) : G := by
  cases v with
  | str x => exact a x rfl h
  | _ => exact b h
theorem oT {v : PyData} {k : List PyData → Prop} (h : onT v k z) (a : ∀ x, v = .tuple x → k x → G) (b : z → G) : G := by
  cases v with
  | tuple x => exact a x rfl h
  | _ => exact b h
theorem oNo {v : PyData} {k : Prop} (h : onN v k z) (a : v = .none → k → G) (b : z → G) : G := by
  cases v with
  | none => exact a rfl h
  | _ => exact b h
theorem oIns {v : V} {k : Addr → Fs → Prop} (h : onIns v k z) (a : ∀ c fs, v = .ins c fs → k c fs → G) (b : z → G) : G := by
  cases v with
  | ins c fs => exact a c fs rfl h
  | _ => exact b h
theorem oObj {v : V} {k : Addr → Nat → Prop} (h : onObj v k z) (a : ∀ c j, v = .obj c j → k c j → G) (b : z → G) : G := by
  cases v with
  | obj c j => exact a c j rfl h
  | _ => exact b h
theorem oF {o : Option MO} {k : Fs → Prop} (h : onF o k z) (a : ∀ fs, o = some (.flds fs) → k fs → G) (b : z → G) : G :=
  oO h (fun m e h => by
    cases m with
    | flds fs => exact a fs e h
    | _ => exact b h) b
theorem o1 {ds : List V} {k : PyData → Prop} (h : on1 ds k z) (a : ∀ x, ds = [.d x] → k x → G) (b : z → G) : G := by
  cases ds with
  | nil => exact b h
  | cons d r =>
    cases r with
    | nil => exact oD h (fun x e h => a x (by rw [e]) h) b
    | cons _ _ => exact b h
theorem o2 {ds : List V} {k : Int → Int → Prop} (h : on2 ds k z) (a : ∀ i j, ds = [.d (.int i), .d (.int j)] → k i j → G) (b : z → G) : G := by
  cases ds with
  | nil => exact b h
  | cons d r => exact o1 h (fun y e h => oD h (fun x e2 h => oI h (fun i e3 h => oI h (fun j e4 h => a i j (by rw [e, e2, e3, e4]) h) b) b) b) b
end
theorem isGlo_is {x : Str} (h : isGlo sc x = true) : sc.names.lookup x = some .globalImplicit ∧ (x == ("__debug__" : Str)) = false := by
  unfold isGlo at h
  split at h
  · exact ⟨by assumption, by simpa [dbg] using h⟩
  · cases h
theorem isB_is {d : V} {k : Bool → Prop} (h : isB d k) : ∃ b, d = .d (.bool b) ∧ k b :=
  oD h (fun x e h => by
    cases x with
    | bool b => exact ⟨b, e, h⟩
    | _ => exact h.elim) fun h => h.elim
theorem isI_is {d : V} {k : Int → Prop} (h : isI d k) : ∃ b, d = .d (.int b) ∧ k b :=
  oD h (fun _ e h => oI h (fun i e2 h => ⟨i, by rw [e, e2], h⟩) fun h => h.elim) fun h => h.elim
theorem isL_is {ds : List V} {k : List PyData → Prop} (h : isL ds k) : ∃ xs, V.ps ds = some xs ∧ xs.length ≤ 1000 ∧ k xs :=
  oO h (fun xs e h => bE h (fun a h => ⟨xs, e, Nat.le_of_ble_eq_true a, h⟩) fun _ h => h.elim) fun h => h.elim
theorem pName_ok (hT : TblOk T) {x : Str} {pos : Pos} (h : pName T C fr x pos own P) : WE C (.Name x pos) fr own P :=
  bE h (fun e1 h => oO h (fun i e2 h => by
      obtain ⟨t, ht⟩ := hT.gi _ (lookup_pair e2)
      exact WE_globI ht h (isGlo_is e1).1 (isGlo_is e1).2) Lk.un)
    fun _ h => oO h (fun d e h => bE h (fun a h => by
      rw [Bool.and_eq_true] at a
      exact WE_name e h (by simpa using a.1) (by simpa [dbg] using a.2)) fun _ => Lk.un) Lk.un
theorem pBin_ok {op : Operator} {a b : V} (h : pBin C fr op a b own P) : WBin C op a b fr own P := by
  cases op with
  | Add => exact oD h (fun x ea h => oI h (fun i ex h => oD h (fun y eb h => oI h (fun j ey h => by rw [ea, eb, ex, ey]; exact WBin_add h) Lk.un) Lk.un) Lk.un) Lk.un
  | Sub => exact oD h (fun x ea h => oI h (fun i ex h => oD h (fun y eb h => oI h (fun j ey h => by rw [ea, eb, ex, ey]; exact WBin_sub h) Lk.un) Lk.un) Lk.un) Lk.un
  | _ => exact h.un
theorem pCmpD_ok {op : CmpOp} {x y : PyData} (h : pCmpD C fr op x y own PB) : WCmp C op (.d x) (.d y) fr own PB := by
  cases x with
  | int i =>
    refine oI h (fun j e h => ?_) fun h => oNo h (fun e h => ?_) Lk.un
    · subst e
      cases op with
      | Eq => exact WCmp_eqI h
      | Lt => exact WCmp_lt h
      | Gt => exact WCmp_gt h
      | GtE => exact WCmp_ge h
      | _ => exact h.un
    · subst e
      cases op with
      | Is => exact WCmp_isI h
      | IsNot => exact WCmp_isnotI h
      | _ => exact h.un
  | str i =>
    refine oS h (fun j e h => ?_) Lk.un
    subst e
    cases op with
    | Eq => exact WCmp_eqS h
    | NotEq => exact WCmp_neS h
    | _ => exact h.un
  | none =>
    refine oNo h (fun e h => ?_) Lk.un
    subst e
    cases op with
    | Is => exact WCmp_isN h
    | IsNot => exact WCmp_isnotN h
    | _ => exact h.un
  | _ => exact h.un
theorem pCmp_ok {op : CmpOp} {a b : V} (h : pCmp C fr op a b own PB) : WCmp C op a b fr own PB := by
  cases a with
  | d x => exact oD h (fun y e h => by subst e; exact pCmpD_ok h) Lk.un
  | _ => exact h.un
theorem pCmp_eq {x y : PyData} (hx : SeqAt.shaped x = true) (hy : SeqAt.shaped y = true) (hP : PB (PyData.eqv x y) own) (hu : Nat.ble 64 U = true := by rfl) : pCmp C fr .Eq (.d x) (.d y) own PB := by
  have h := lk (WCmp_eq (C := C) (fr := fr) hx hy hP hu)
  cases x <;> first | exact h | (cases y <;> first | exact h | (unfold PyData.eqv at hP; exact hP))
theorem pCmp_ne {x y : PyData} (hx : SeqAt.shaped x = true) (hy : SeqAt.shaped y = true) (hP : PB (!PyData.eqv x y) own) (hu : Nat.ble 64 U = true := by rfl) : pCmp C fr .NotEq (.d x) (.d y) own PB := by
  have h := lk (WCmp_ne (C := C) (fr := fr) hx hy hP hu)
  cases x <;> first | exact h | (cases y <;> first | exact h | (unfold PyData.eqv at hP; exact hP))
theorem pFun_ok {b : BK} {ds : List V} (h : pFun C fr b ds own P) : WFun C b.val ds fr own P := by
  cases b with
  | len => exact o1 h (fun x e h => by
      subst e
      cases x with
      | tuple l => exact WF_lenT h.1 h.2
      | list l => exact WF_lenL h.1 h.2
      | _ => exact Lk.un h) Lk.un
  | int => exact o1 h (fun x e h => by
      subst e
      cases x with
      | int l => exact WF_intI h
      | bool l => exact WF_intB h
      | _ => exact Lk.un h) Lk.un
  | min => exact o2 h (fun i j e h => by subst e; exact WF_min h) Lk.un
  | max => exact o2 h (fun i j e h => by subst e; exact WF_max h) Lk.un
  | _ => exact h.un
theorem pSub_ok {v s : Expr} {a i : V} (hs : plainIx s = true) (h : pSub C fr v s a i own P) : WSub C v s a i fr own P :=
  bE h (fun _ h => oD h (fun x ea h => oT h (fun l ex h => oD h (fun y ei h => oI h (fun k ey h => by
    cases k with
    | ofNat k => exact bE h (fun hk h => oO h (fun x el hP => by
        subst ex ey ea ei
        exact WSub_tup ⟨Int.natCast_nonneg _, Int.lt_of_lt_of_le (Int.ofNat_lt.mpr (Nat.le_of_ble_eq_true hk)) (by decide)⟩ el hP hs) Lk.un) fun _ => Lk.un
    | negSucc _ => exact h.un) Lk.un) Lk.un) Lk.un) Lk.un) fun _ => Lk.un
theorem pAttr_ok (hT : TblOk T) {name : Str} {a : V} (h : pAttr T C fr name a own P) : WAttr C name a fr own P :=
  oIns h (fun c fs ea h => bE h (fun hc h => oO h (fun d ed hP => by
      subst ea
      exact WAttr_ins ed (hT.ga _ (List.mem_of_elem_eq_true hc)) hP) Lk.un) fun _ => Lk.un)
    fun h => oObj h (fun c k ea h => bE h (fun hc h => oF h (fun fs eo h => oO h (fun d ed hP => by
      subst ea
      exact WAttr_obj eo ed (hT.ga _ (List.mem_of_elem_eq_true hc)) hP) Lk.un) Lk.un) fun _ => Lk.un) Lk.un
theorem WEs.mono {es : List Expr} {P P' : List V → List MO → Prop} (h : WEs C es fr own P) (k : ∀ d o, P d o → P' d o) : WEs C es fr own P' := fun p m ro sl s Q S q => h p m ro sl s Q S fun v d o r l s' a b c e => q v d o r l s' a b c (k _ _ e)
theorem pCallM_ok (hT : TblOk T) {name : Str} {args : List Expr} {evs : List MO → (List V → List MO → Prop) → Prop} (he : ∀ o P, evs o P → WEs C args fr o P) {a : V} (h : pCallM T C fr name args evs a own P) : WMeth C name a args fr own P :=
  bE h (fun ha h => oIns h (fun c fs ea h => oO h (fun f ef h => bE h (fun hn h => by
      subst ea
      exact WMeth_ins (Option.isNone_iff_eq_none.mp hn) (hT.gm _ (lookup_pair ef)) ((he _ _ h).mono fun _ _ => Lk.un) ha) fun _ => Lk.un) Lk.un)
    fun h => oObj h (fun c k ea h => oO h (fun f ef h => oF h (fun fs eo h => bE h (fun hn h => by
      subst ea
      exact WMeth_obj eo (Option.isNone_iff_eq_none.mp hn) (hT.gm _ (lookup_pair ef)) ((he _ _ h).mono fun _ _ => Lk.un) ha) fun _ => Lk.un) Lk.un) Lk.un) Lk.un) fun _ => Lk.un
theorem meth_eval {v : Expr} {name : Str} {p pos : Pos} {args : List Expr} {env : Env} (h : plainM v p args pos = true) : eval (.Call (.Attribute v name p) args [] pos) env = (do
      let ov ← eval v env
      standAt (Pos.atName p)
      let __x ← holding [ov] (getMethod ov name (do return (← importBound v env).getD true))
      match __x with
        | (f, first) => callWith pos f first (backTo pos (starEach args env)) []) := by
  unfold plainM at h
  rw [Bool.and_eq_true, Bool.and_eq_true, Bool.and_eq_true] at h
  obtain ⟨⟨⟨h1, h2⟩, h3⟩, h4⟩ := h
  have ha : (backTo pos (starEach args env)).all (!·.1) = true := by
    have := any_plain (pos := pos) (env := env) h3
    rw [List.any_eq_false] at this
    rw [List.all_eq_true]
    intro x hx
    simpa using this x hx
  have hm : methodCallForm (args.length + 0) (backTo pos (starEach args env)) [] = true := by
    unfold methodCallForm
    rw [ha]
    have := Nat.le_of_ble_eq_true h4
    simp
    omega
  have hb : attributeBase v name env (eval v env) = eval v env := by
    cases v with
    | Name _ _ => rfl
    | Attribute _ _ _ => rfl
    | Subscript _ _ _ => rfl
    | _ => exact Bool.noConfusion h1
  show (do let ov ← attributeBase v name env (eval v env); standAt p.atName; methodCall v name p pos env ov (args.length + 0) (backTo pos (starEach args env)) []) = _
  rw [hb]
  unfold methodCall
  rw [hm]
  unfold methodCallPos
  rw [h2]
  rfl
theorem pCallN_ok (hT : TblOk T) {g : Str} {px pos : Pos} {args : List Expr} {evs : List MO → (List V → List MO → Prop) → Prop} (he : ∀ o P, evs o P → WEs C args fr o P) (h : pCallN T C fr g px args pos evs own P) : WE C (.Call (.Name g px) args [] pos) fr own P :=
  bE h (fun e1 h => by
    rw [Bool.and_eq_true] at e1
    refine oO h (fun f e2 h => WE_call (hT.gf _ (lookup_pair e2)) ((he _ _ h).mono fun _ _ => Lk.un) (isGlo_is e1.1).1 e1.2 (isGlo_is e1.1).2) fun h => oO h (fun b e2 h => ?_) Lk.un
    have k := (he _ _ h).mono fun ds o h => pFun_ok h
    have hb := hT.gb _ (lookup_pair e2)
    cases b <;> first | exact WE_blt hb k (isGlo_is e1.1).1 e1.2 (isGlo_is e1.1).2 | exact WE_typ hb k (isGlo_is e1.1).1 e1.2 (isGlo_is e1.1).2) fun _ => Lk.un
theorem WB.mono {e : Expr} {P P' : Bool → List MO → Prop} (h : WB C e fr own P) (k : ∀ d o, P d o → P' d o) : WB C e fr own P' := fun m ro sl s Q S q => h m ro sl s Q S fun d o r l s' a b e => q d o r l s' a b (k _ _ e)
theorem wp_all (hT : TblOk T) : ∀ n : Nat, (∀ e own P, wpE T C fr n e own P → WE C e fr own P) ∧ (∀ es own P, wpEs T C fr n es own P → WEs C es fr own P) ∧ (∀ e own P, wpB T C fr n e own P → WB C e fr own P) ∧ ∀ op es pos own P, wpBo T C fr n op es pos own P → WBo C op es pos fr own P
  | 0 => ⟨fun _ _ _ h => Lk.un h, fun _ _ _ h => Lk.un h, fun _ _ _ h => Lk.un h, fun _ _ _ _ _ h => Lk.un h⟩
  | n + 1 => by
    obtain ⟨hE, hEs, hB, hBo⟩ := wp_all hT n
    have hE1 : ∀ e own P, wpE T C fr (n + 1) e own P → WE C e fr own P := fun e own P h => by
      cases e with
      | Name x pos => exact pName_ok hT h
      | Constant c k pos =>
        cases c with
        | int i => exact WE_int h
        | str i => exact WE_str h
        | none => exact WE_none h
        | bool b => exact WE_bool h
        | _ => exact h.un
      | BinOp l op r pos => exact WE_bin ((hE _ _ _ h).mono fun a o h => (hE _ _ _ h).mono fun b o' h => pBin_ok h)
      | Subscript v s pos => exact bE h (fun hs h => WE_sub ((hE _ _ _ h).mono fun a o h => (hE _ _ _ h).mono fun b o' h => pSub_ok hs h)) fun _ => Lk.un
      | Attribute v name pos =>
        refine bE h (fun hv h => ?_) fun _ => Lk.un
        have k := (hE _ _ _ h).mono fun a o h => pAttr_ok hT h
        cases v with
        | Name _ _ => exact WE_attr k
        | Attribute _ _ _ => exact WE_attr k
        | Subscript _ _ _ => exact WE_attr k
        | _ => exact Bool.noConfusion hv
      | Tuple es k pos => exact WE_tuple ((hEs _ _ _ h).mono fun ds o h => isL_is h)
      | IfExp t b e pos =>
        refine WE_ifexp ((hB _ _ _ h).mono fun c o h => ?_)
        cases c with
        | true => exact hE _ _ _ h
        | false => exact hE _ _ _ h
      | UnaryOp op e pos =>
        cases op with
        | USub => exact WE_neg ((hE _ _ _ h).mono fun d o h => isI_is h)
        | _ => exact h.un
      | BoolOp op es pos =>
        cases op with
        | Or => exact Lk.un h
        | And =>
          cases es with
          | nil => exact h.un
          | cons x es =>
            cases es with
            | nil => exact WE_and1 (hE _ _ _ h)
            | cons y es =>
              refine WE_and ((hE _ _ _ h).mono fun d o h => ?_)
              obtain ⟨b, e, h⟩ := isB_is h
              refine ⟨b, e, ?_⟩
              cases b with
              | true => exact hE _ _ _ h
              | false => rw [e]; exact h
      | Compare l ops rs pos =>
        cases ops with
        | nil => exact h.un
        | cons op ops =>
          cases ops with
          | cons _ _ => exact h.un
          | nil =>
            cases rs with
            | nil => exact h.un
            | cons r rs =>
              cases rs with
              | cons _ _ => exact h.un
              | nil => exact bE h (fun hs h => WE_cmp ((hE _ _ _ h).mono fun a o h => (hE _ _ _ h).mono fun b o' h => pCmp_ok h) hs) fun _ => Lk.un
      | Call f args kws pos =>
        cases kws with
        | cons _ _ => cases f <;> exact Lk.un h
        | nil =>
          cases f with
          | Name g px =>
            exact pCallN_ok hT (fun o P h => hEs _ _ _ h) h
          | Attribute v name p =>
            exact bE h (fun hv h => WE_meth ((hE _ _ _ h).mono fun a o h => pCallM_ok hT (fun o P h => hEs _ _ _ h) h) fun env => meth_eval hv) fun _ => Lk.un
          | _ => exact h.un
      | _ => exact h.un
    refine ⟨hE1, fun es own P h => ?_, fun e own P h => ?_, fun op es pos own P h => ?_⟩
    · cases es with
      | nil => exact WEs_nil h
      | cons e es => exact bE h (fun he h => WEs_cons ((hE _ _ _ h).mono fun d o h => hEs _ _ _ h) he) fun _ => Lk.un
    · cases e with
      | Compare l ops rs pos =>
        cases ops with
        | nil => exact h.un
        | cons op ops =>
          cases ops with
          | cons _ _ => exact h.un
          | nil =>
            cases rs with
            | nil => exact h.un
            | cons r rs =>
              cases rs with
              | cons _ _ => exact h.un
              | nil => exact bE h (fun hs h => WB_cmp ((hE _ _ _ h).mono fun a o h => (hE _ _ _ h).mono fun b o' h => pCmp_ok h) hs) fun _ => Lk.un
      | UnaryOp op e pos =>
        cases op with
        | Not => exact WB_not (hB _ _ _ h)
        | _ => exact h.un
      | BoolOp op es pos => exact WB_bool (hBo _ _ _ _ _ h)
      | Call f args kws pos => exact WB_plain ((hE _ _ _ h).mono fun d o h => isB_is h)
      | Name x pos => exact WB_plain ((hE _ _ _ h).mono fun d o h => isB_is h)
      | _ => exact h.un
    · cases es with
      | nil =>
        cases op with
        | And => exact WBo_and_nil h
        | Or => exact WBo_or_nil h
      | cons x es =>
        cases op with
        | And =>
          refine WBo_and ((hB _ _ _ h).mono fun c o h => ?_)
          cases c with
          | true => exact hBo _ _ _ _ _ h
          | false => exact h
        | Or =>
          refine WBo_or ((hB _ _ _ h).mono fun c o h => ?_)
          cases c with
          | true => exact h
          | false => exact hBo _ _ _ _ _ h
theorem WT.mono {st : Stmt} {PN' : Fm → List MO → Prop} (h : WT C st fr own PN PR) (a : ∀ f o, PN f o → PN' f o) : WT C st fr own PN' PR := fun hc m ro sl s Q S k r => h hc m ro sl s Q S (fun m' f o r l s' S' x hp => k m' f o r l s' S' x (a _ _ hp)) r
theorem wpS_all (hT : TblOk T) : ∀ n : Nat, (∀ st fr own PN, wpT T C PR n st fr own PN → WT C st fr own PN PR) ∧ ∀ ss fr own PN, wpS T C PR n ss fr own PN → WS C ss fr own PN PR
  | 0 => ⟨fun _ _ _ _ h => Lk.un h, fun _ _ _ _ h => Lk.un h⟩
  | n + 1 => by
    obtain ⟨hT1, hS⟩ := wpS_all hT n
    have hE : ∀ {fr e own P}, wpE T C fr n e own P → WE C e fr own P := fun h => (wp_all hT n).1 _ _ _ h
    refine ⟨fun st fr own PN h => ?_, fun ss fr own PN h => ?_⟩
    · cases st with
      | Return e pos =>
        cases e with
        | none => exact h.un
        | some e => exact WT_ret (hE h)
      | If t a b pos =>
        refine WT_if (((wp_all hT n).2.2.1 _ _ _ h).mono fun c o h => ?_)
        cases c with
        | true => exact hS _ _ _ _ h
        | false => exact hS _ _ _ _ h
      | Expr e pos => exact bE h (fun hn h => WT_expr (hE h) hn) fun _ => Lk.un
      | Assign ts e pos =>
        cases ts with
        | nil => exact h.un
        | cons t ts =>
          cases ts with
          | cons _ _ => cases t <;> exact Lk.un h
          | nil =>
            cases t with
            | Name x px =>
              refine bE h (fun hn h => ?_) fun _ => Lk.un
              rw [Bool.and_eq_true] at hn
              refine WT_assign ((hE h).mono fun d o h => bE h (fun hd h => ⟨by simpa using hd, h⟩) fun _ h => h.elim) ?_ hn.1
              have h2 := hn.2
              unfold isLoc at h2
              split at h2
              · assumption
              · cases h2
            | Subscript v i p => exact bE h (fun hn h => WT_setitem ((hE h).mono fun d o h => (hE h).mono fun a o h => (hE h).mono fun i o h => Lk.un h) hn) fun _ => Lk.un
            | _ => exact h.un
      | _ => exact h.un
    · cases ss with
      | nil => exact WS_nil h
      | cons st rest => exact bE h (fun _ => Lk.un) fun _ h => WS_cons ((hT1 _ _ _ _ h).mono fun f o h => hS _ _ _ _ h)
theorem wpE_ok (hT : TblOk T) (n : Nat) {e : Expr} (h : wpE T C fr n e own P) : WE C e fr own P := (wp_all hT n).1 _ _ _ h
theorem wpEs_ok (hT : TblOk T) (n : Nat) {es : List Expr} {P : List V → List MO → Prop} (h : wpEs T C fr n es own P) : WEs C es fr own P := (wp_all hT n).2.1 _ _ _ h
theorem wpB_ok (hT : TblOk T) (n : Nat) {e : Expr} (h : wpB T C fr n e own PB) : WB C e fr own PB := (wp_all hT n).2.2.1 _ _ _ h
theorem wpS_ok (hT : TblOk T) (n : Nat) {ss : List Stmt} (h : wpS T C PR n ss fr own PN) : WS C ss fr own PN PR := (wpS_all hT n).2 _ _ _ _ h
theorem pT_unp3 (hT : TblOk T) (n : Nat) {e : Expr} {x y z : Str} {p1 p2 p3 tp pos : Pos} {k} (h : wpE T C fr n e own fun d o => tup3 d fun a b c => PN ((z, .d c) :: (y, .d b) :: (x, .d a) :: fr) o)
    (hx : sc.names.lookup x = some .local := by rfl) (hy : sc.names.lookup y = some .local := by rfl) (hz : sc.names.lookup z = some .local := by rfl) (hn : noComp e = true := by rfl)
    (hsw : ∀ env : Env, env.scope = sc → swappedStores [.Tuple [.Name x p1, .Name y p2, .Name z p3] k tp] e env = pure none := by exact envAll fun _ => rfl) : WT C (.Assign [.Tuple [.Name x p1, .Name y p2, .Name z p3] k tp] e pos) fr own PN PR := by
  refine WT_unp3 ((wpE_ok hT n h).mono fun d o hd => ?_) hx hy hz hn hsw
  exact oD hd (fun x ed h => oT h (fun l ex h => by
    obtain ⟨a, b, c, e, h⟩ := is3_is h
    exact ⟨a, b, c, by rw [ed, ex, e], h⟩) fun h => h.elim) fun h => h.elim
theorem pS_forS {σ : Type} (hT : TblOk T) (n : Nat) {x : Str} {px pos : Pos} {it : Expr} {body rest : List Stmt} (st : σ → Fm) (N : Nat) (dat : Nat → V) (J : Nat → σ → List MO → Prop) (c₀ : σ) (fr0 : Fm)
    (h : wpE T C fr n it own fun d o => iterD d = some (N, dat) ∧ J 0 c₀ o) (hz : N ≤ 1000) (hf : FrIs fr (st c₀ ++ fr0))
    (turn : ∀ (C' : Cx sc D U) i c own, i < N → J i c own → wpS T C' PR n body ((x, dat i) :: (st c ++ fr0)) own (fun fr' own' => ∃ c', FrIs fr' (st c' ++ fr0) ∧ J (i + 1) c' own'))
    (done : ∀ c own, J N c own → wpS T C PR n rest (st c ++ fr0) own PN)
    (hx : sc.names.lookup x = some .local := by rfl) (hs : ∀ env x, foldedSetIterable it env x = pure x := by intro _ _; rfl) : WS C (.For (.Name x px) it body [] pos :: rest) fr own PN PR :=
  WS_cons (WT_forS st ((wpE_ok hT n h).mono fun _ _ hd => ⟨N, dat, J, c₀, fr0, hd.1, hz, hf, hd.2, fun C' i c own hi hJ => wpS_ok hT n (turn C' i c own hi hJ), fun c _ own hf' hJ => WS.less (wpS_ok hT n (done c own hJ)) hf'⟩) hx hs)
theorem pS_while {σ : Type} (hT : TblOk T) (n : Nat) {pos : Pos} {test : Expr} {body rest : List Stmt} (st : σ → Fm) (μ : σ → Nat) (J : σ → List MO → Prop) (c₀ : σ) (fr0 : Fm) (hf : FrIs fr (st c₀ ++ fr0)) (h0 : J c₀ own)
    (turn : ∀ c own, J c own → wpB T C (st c ++ fr0) n test own fun b o => bC b (wpS T C PR n body (st c ++ fr0) o (fun fr' o' => ∃ c', FrIs fr' (st c' ++ fr0) ∧ J c' o' ∧ μ c' < μ c)) (wpS T C PR n rest (st c ++ fr0) o PN)) : WS C (.While test body [] pos :: rest) fr own PN PR :=
  WS_cons (WT_while st μ J c₀ fr0 hf h0 fun c own hJ => (wpB_ok hT n (turn c own hJ)).mono fun b o h => by
    cases b with
    | true => exact wpS_ok hT n h
    | false => exact wpS_ok hT n h)
theorem pS_for3 {σ : Type} (hT : TblOk T) (n : Nat) {x1 x2 x3 : Str} {p1 p2 p3 pt pos : Pos} {ex} {it : Expr} {body rest : List Stmt} (st : σ → Fm) (l : List PyData) (J : Nat → σ → List MO → Prop) (c₀ : σ) (fr0 : Fm)
    (h : WE C it fr own fun d o => d = .d (.list l) ∧ J 0 c₀ o) (hf : FrIs fr (st c₀ ++ fr0)) (h3 : ∀ (i : Nat) (x : PyData), l[i]? = some x → ∃ a b c, x = PyData.tuple [a, b, c])
    (turn : ∀ (C' : Cx sc D U) (i : Nat) c own a b e, l[i]? = some (PyData.tuple [a, b, e]) → J i c own → wpS T C' PR n body ((x3, .d e) :: (x2, .d b) :: (x1, .d a) :: (st c ++ fr0)) own (fun fr' own' => ∃ c', FrIs fr' (st c' ++ fr0) ∧ J (i + 1) c' own'))
    (done : ∀ c own, J l.length c own → wpS T C PR n rest (st c ++ fr0) own PN)
    (hx1 : sc.names.lookup x1 = some .local := by rfl) (hx2 : sc.names.lookup x2 = some .local := by rfl) (hx3 : sc.names.lookup x3 = some .local := by rfl) (hs : ∀ env x, foldedSetIterable it env x = pure x := by intro _ _; rfl) :
    WS C (.For (.Tuple [.Name x1 p1, .Name x2 p2, .Name x3 p3] ex pt) it body [] pos :: rest) fr own PN PR :=
  WS_cons (WT_for3 st (h.mono fun d o hd => hd.1 ▸ .mk J c₀ fr0 hf hd.2 h3 (fun C' i c own a b e hi hJ => wpS_ok hT n (turn C' i c own a b e hi hJ)) fun c _ own hf' hJ => WS.less (wpS_ok hT n (done c own hJ)) hf') hx1 hx2 hx3 hs)
noncomputable def fromP (P : V → List MO → Prop) (d e : V) (o : List MO) : Prop := onD d (fun x => onT x (fun l => onD e (fun y => onI y (fun k => 1 ≤ k ∧ k.toNat ≤ l.length ∧ l.length ≤ 1000 ∧ P (.d (.tuple (l.drop k.toNat))) o) False) False) False) False
noncomputable def uptoP (P : V → List MO → Prop) (d e : V) (o : List MO) : Prop := onD d (fun x => onT x (fun l => onD e (fun y => onI y (fun k => 0 ≤ k ∧ k.toNat < l.length ∧ l.length ≤ 1000 ∧ P (.d (.tuple (l.take k.toNat))) o) False) False) False) False
noncomputable def appP (k : Nat) (P : V → List MO → Prop) (d : V) (o : List MO) : Prop := onD d (fun x => onO o[k]? (fun mo => match mo with | .lst l => l.length ≤ 1000 ∧ P (.d .none) (o.set k (.lst (l ++ [x]))) | _ => False) False) False
theorem pE_from (hT : TblOk T) (n : Nat) {x : Str} {lo : Expr} {p pos px : Pos} (h : wpE T C fr n (.Name x px) own fun d o => wpE T C fr n lo o fun e o => fromP P d e o) : WE C (.Subscript (.Name x px) (.Slice (some lo) none none p) pos) fr own P :=
  WE_from ((wpE_ok hT n h).mono fun _ _ h => (wpE_ok hT n h).mono fun _ _ h => oD h (fun _ ex h => oT h (fun l el h => oD h (fun _ ey h => oI h (fun k ek h => ⟨l, k, by rw [ex, el], by rw [ey, ek], h⟩) fun h => h.elim) fun h => h.elim) fun h => h.elim) fun h => h.elim)
theorem pE_upto (hT : TblOk T) (n : Nat) {x : Str} {hi : Expr} {p pos px : Pos} (h : wpE T C fr n (.Name x px) own fun d o => wpE T C fr n hi o fun e o => uptoP P d e o) : WE C (.Subscript (.Name x px) (.Slice none (some hi) none p) pos) fr own P :=
  WE_upto ((wpE_ok hT n h).mono fun _ _ h => (wpE_ok hT n h).mono fun _ _ h => oD h (fun _ ex h => oT h (fun l el h => oD h (fun _ ey h => oI h (fun k ek h => ⟨l, k, by rw [ex, el], by rw [ey, ek], h⟩) fun h => h.elim) fun h => h.elim) fun h => h.elim) fun h => h.elim)
theorem pM_append (hT : TblOk T) (n : Nat) {k : Nat} {e : Expr} {l0 : List PyData} (h0 : own[k]? = some (.lst l0)) (h : wpE T C fr n e own (appP k P)) (he : plainE e = true := by rfl) : WMeth C "append" (.slot k) [e] fr own P :=
  WMeth_append h0 ((wpE_ok hT n h).mono fun _ _ h => oD h (fun x ed h => oO h (fun mo em h => by
    cases mo with
    | lst l => exact ⟨x, l, ed, em, h.1, h.2⟩
    | _ => exact h.elim) fun h => h.elim) fun h => h.elim) he
theorem pE_listS (hT : TblOk T) (n : Nat) {es : List Expr} {pos : Pos} (h : wpEs T C fr n es own fun ds o => isL ds fun xs => P (.slot o.length) (o ++ [.lst xs])) : WE C (.List es pos) fr own P :=
  WE_listS ((wpEs_ok hT n h).mono fun _ _ h => isL_is h)
theorem pE_listF (hT : TblOk T) (n : Nat) {es : List Expr} {pos : Pos} (h : wpEs T C fr n es own fun ds o => isL ds fun xs => P (.d (.list xs)) o) : WE C (.List es pos) fr own P :=
  WE_listF ((wpEs_ok hT n h).mono fun _ _ h => isL_is h)
theorem pT_swap2 (hT : TblOk T) (n : Nat) {e1 e2 : Expr} {x y : Str} {p1 p2 tpos vpos pos : Pos} {k1 k2} (h : wpE T C fr n e1 own fun a o => wpE T C fr n e2 o fun b o' => bC (!a.isCel && !b.isCel) (PN ((x, a) :: (y, b) :: fr) o') False)
    (h1 : plainE e1 = true := by rfl) (h2 : plainE e2 = true := by rfl) (hx : sc.names.lookup x = some .local := by rfl) (hy : sc.names.lookup y = some .local := by rfl)
    (hsw : ∀ env : Env, env.scope = sc → swappedStores [.Tuple [.Name x p1, .Name y p2] k1 tpos] (.Tuple [e1, e2] k2 vpos) env = pure (some [x, y]) := by exact envAll fun _ => rfl) : WT C (.Assign [.Tuple [.Name x p1, .Name y p2] k1 tpos] (.Tuple [e1, e2] k2 vpos) pos) fr own PN PR :=
  WT_swap2 ((wpE_ok hT n h).mono fun a o h => (wpE_ok hT n h).mono fun b o' h => bE h (fun hc h => by rw [Bool.and_eq_true] at hc; exact ⟨by simpa using hc.1, by simpa using hc.2, h⟩) fun _ h => h.elim) h1 h2 hx hy hsw
theorem pT_setattr (hT : TblOk T) (n : Nat) {o e : Expr} {name : Str} {pos' pos : Pos} (h : WE C e fr own fun v own1 => wpE T C fr n o own1 fun a own2 => ∃ c k fs, a = .obj c k ∧ T.gs.contains (c, name) = true ∧ own2[k]? = some (.flds fs) ∧ fs.len ≤ 100 ∧ PN fr (own2.set k (.flds (fs.put name v)))) (hn : noComp e = true := by rfl) :
    WT C (.Assign [.Attribute o name pos'] e pos) fr own PN PR :=
  WT_setattr (h.mono fun _ _ h => (wpE_ok hT n h).mono fun _ _ ⟨c, k, fs, e, hc, ho, hl, hP⟩ => ⟨c, k, fs, e, ho, hl, hT.gs _ (List.mem_of_elem_eq_true hc), hP⟩) hn
theorem pS_mid (hT : TblOk T) : ∀ (k n : Nat) {ss : List Stmt} {fr : Fm} {own : List MO} (Q0 : Fm → List MO → Prop), Nat.blt k n = true → (ss.take k).all (fun s => !isLoop s) = true → wpS T C PR n (ss.take k) fr own Q0 → (∀ fr' o, Q0 fr' o → WS C (ss.drop k) fr' o PN PR) → WS C ss fr own PN PR
  | 0, n, ss, fr, own, Q0, hk, _, h, r => by
    cases n with
    | zero => cases hk
    | succ n => exact r _ _ h
  | k + 1, n, ss, fr, own, Q0, hk, hl, h, r => by
    cases n with
    | zero => cases hk
    | succ n =>
      cases ss with
      | nil => exact r _ _ h
      | cons st rest =>
        have hl' : ((st :: rest.take k).all fun s => !isLoop s) = true := hl
        rw [List.all_cons, Bool.and_eq_true] at hl'
        refine bE (c := isLoop st) h (fun e _ => by rw [e] at hl'; exact absurd hl'.1 (by decide)) fun _ h => WS_cons (((wpS_all hT n).1 _ _ _ _ h).mono fun f o h => pS_mid hT k n Q0 hk hl'.2 h r)
theorem wpS_split (hT : TblOk T) (k n : Nat) {ss : List Stmt} {fr : Fm} {own : List MO} (hk : Nat.blt k n = true) (hl : (ss.take k).all (fun s => !isLoop s) = true) (h : wpS T C PR n (ss.take k) fr own (fun fr' o => WS C (ss.drop k) fr' o PN PR)) : WS C ss fr own PN PR :=
  pS_mid hT k n _ hk hl h fun _ _ h => h
theorem pS_cut (hT : TblOk T) (n : Nat) {e : Expr} {x : Str} {px pos : Pos} {rest : List Stmt} (P0 : V → List MO → Prop) (h : wpE T C fr n e own P0) (k : ∀ d o, P0 d o → d.isCel = false ∧ WS C rest ((x, d) :: fr) o PN PR) (hx : sc.names.lookup x = some .local := by rfl) (hn : noComp e = true := by rfl) : WS C (.Assign [.Name x px] e pos :: rest) fr own PN PR :=
  WS_cons (WT_assign ((wpE_ok hT n h).mono fun d o h => k d o h) hx hn)
theorem pS_whileW {σ : Type} (hT : TblOk T) (n : Nat) {pos : Pos} {test : Expr} {body rest : List Stmt} (st : σ → Fm) (μ : σ → Nat) (J : σ → List MO → Prop) (c₀ : σ) (fr0 : Fm) (hf : FrIs fr (st c₀ ++ fr0)) (h0 : J c₀ own)
    (turn : ∀ c own, J c own → wpB T C (st c ++ fr0) n test own fun b o => bC b (WS C body (st c ++ fr0) o (fun fr' o' => ∃ c', FrIs fr' (st c' ++ fr0) ∧ J c' o' ∧ μ c' < μ c) PR) (WS C rest (st c ++ fr0) o PN PR)) : WS C (.While test body [] pos :: rest) fr own PN PR :=
  WS_cons (WT_while st μ J c₀ fr0 hf h0 fun c own hJ => (wpB_ok hT n (turn c own hJ)).mono fun b o h => by
    cases b with
    | true => exact h
    | false => exact h)
theorem pS_if (hT : TblOk T) (n : Nat) {t : Expr} {a b : List Stmt} {pos : Pos} (Q0 : Bool → List MO → Prop) (h : wpB T C fr n t own Q0) (ha : ∀ o, Q0 true o → WS C a fr o PN PR) (hb : ∀ o, Q0 false o → WS C b fr o PN PR) : WS C [.If t a b pos] fr own PN PR :=
  WS_cons (WT_if (((wpB_ok hT n h).mono fun c o h => (show if c = true then WS C a fr o PN PR else WS C b fr o PN PR from by
    cases c with
    | true => exact ha o h
    | false => exact hb o h)).mono fun c o h => by
    cases c with
    | true => exact WS.mono h (fun _ _ h => WS_nil h) fun _ _ h => h
    | false => exact WS.mono h (fun _ _ h => WS_nil h) fun _ _ h => h))
end
end
section
open PySem PySem.W PyProof.Rows
noncomputable def mayMatch : Form → Form → Bool
  | .mk k l _ _ _, .mk k' l' _ _ _ => decide (k = k') && decide (l = l')
mutual
noncomputable def Form.size : Form → Nat
  | .mk _ _ _ _ ks => 1 + sizes ks
noncomputable def sizes : List Form → Nat
  | [] => 0
  | f :: r => f.size + sizes r
end
mutual
noncomputable def Form.height : Form → Nat
  | .mk _ _ _ _ ks => 1 + heights ks
noncomputable def heights : List Form → Nat
  | [] => 0
  | f :: r => max f.height (heights r)
end
theorem heights_get : ∀ {l : List Form} {i : Nat} {f : Form}, l[i]? = some f → f.height ≤ heights l
  | [], i, f, h => by simp at h
  | g :: r, 0, f, h => by simp at h; subst h; rw [heights]; omega
  | g :: r, i + 1, f, h => by simp at h; have := heights_get h; rw [heights]; omega
theorem sizes_sum : ∀ l : List Form, (sizes l : Int) = (l.map fun f => (f.size : Int)).sum
  | [] => rfl
  | f :: r => by rw [sizes, List.map_cons, List.sum_cons, ← sizes_sum r]; omega
theorem height_pos (f : Form) : 1 ≤ f.height := by cases f; rw [Form.height]; omega
noncomputable def attGet (l : List Att) (k : Str) : PyData := match l.find? fun a => a.key == k with
  | none => .none
  | some a => .tuple [.str a.name, .str a.value]
noncomputable def keyW (k : Str) : List Str := [Str.ofString "", k]
noncomputable def keyD (k : Str) : PyData := .tuple [.str (Str.ofString ""), .str k]
noncomputable def unlikeAt (a b : List Att) (k : Str) : List PyData :=
  if PyData.eqv (attGet a k) (attGet b k) then [] else [match attGet b k with
    | .tuple ds => .tuple (keyD k :: ds)
    | _ => .tuple [keyD k, .none, .none]]
noncomputable def unlike (a b : List Att) : List PyData := unlikeAt a b (Str.ofString "k") ++ unlikeAt a b (Str.ofString "m")
noncomputable def Form.atts : Form → List Att | .mk _ _ _ a _ => a
theorem attsOk_len {l : List Att} (h : attsOk l = true) : l.length ≤ 2 := by
  unfold attsOk at h
  simp only [Bool.and_eq_true, List.contains_iff_mem] at h
  have h2 := h.2
  simp only [List.mem_cons, List.not_mem_nil, or_false] at h2
  have e : l.length = (l.map (·.key)).length := by simp
  rw [e]
  rcases h2 with h2 | h2 | h2 | h2 <;> rw [h2] <;> simp
theorem attsOk_nodup {l : List Att} (h : attsOk l = true) : (l.map fun a => keyW a.key).Nodup := by
  unfold attsOk at h
  simp only [Bool.and_eq_true, List.contains_iff_mem] at h
  have h2 := h.2
  simp only [List.mem_cons, List.not_mem_nil, or_false] at h2
  have e : (l.map fun a => keyW a.key) = (l.map (·.key)).map keyW := by simp
  rw [e]
  rcases h2 with h2 | h2 | h2 | h2 <;> rw [h2] <;> decide
theorem att_some {a : Att} (hmem : a ∈ atts) : ∃ n v, attGet atts a.key = .tuple [.str n, .str v] := by
  unfold attGet
  cases e : atts.find? fun b => b.key == a.key with
  | none => exact absurd (List.find?_eq_none.mp e a hmem) (by simp)
  | some b => exact ⟨_, _, rfl⟩
theorem att_none {k : Str} (h : k ∉ atts.map (·.key)) : attGet atts k = .none := by
  unfold attGet
  cases e : atts.find? fun b => b.key == k with
  | none => rfl
  | some b =>
    have h1 := List.find?_some e
    have h2 := List.mem_of_find?_eq_some e
    exact absurd (List.mem_map.mpr ⟨b, h2, by simpa using h1⟩) h
set_option tactic.hygienic true in
theorem attGet_shaped {l : List Att} (h : attsOk l = true) (k : Str) : SeqAt.shaped (attGet l k) = true := by
  unfold attGet
  split
  · rfl
  · rename_i a e
    have hm := List.mem_of_find?_eq_some e
    unfold attsOk at h
    simp only [Bool.and_eq_true, List.all_eq_true] at h
    have := h.1 a hm
    unfold Att.ok at this
    simp_all [SeqAt.shaped, PyData.canLay0, PyData.canLayAll0, PyData.depth, PyData.depthAll]
noncomputable def ukeys : List Str := [Str.ofString "k", Str.ofString "m"]
noncomputable def unlikeTo (a b : List Att) (i : Nat) : List PyData := (ukeys.take i).flatMap (unlikeAt a b)
theorem unlikeTo_step {a b : List Att} {i : Nat} {k : Str} (h : ukeys[i]? = some k) : unlikeTo a b (i + 1) = unlikeTo a b i ++ unlikeAt a b k := by
  unfold unlikeTo
  rw [List.take_add_one, h]
  simp
theorem unlikeTo_len (a b : List Att) (i : Nat) : (unlikeTo a b i).length ≤ 2 := by
  have h : ∀ k, (unlikeAt a b k).length ≤ 1 := fun k => by unfold unlikeAt; split <;> simp
  have h1 := h (Str.ofString "k")
  have h2 := h (Str.ofString "m")
  unfold unlikeTo
  rcases i with _ | _ | i
  · simp
  · simp [ukeys]; omega
  · simp [ukeys]; omega
noncomputable def unionK (a b : List Att) : List Str := a.map (·.key) ++ (b.map (·.key)).filter fun k => !(a.map (·.key)).contains k
noncomputable def bothK (a b : List Att) : List Str := ukeys.filter fun k => (unionK a b).contains k
theorem attsOk_keys {l : List Att} (h : attsOk l = true) : l.map (·.key) = [] ∨ l.map (·.key) = [Str.ofString "k"] ∨ l.map (·.key) = [Str.ofString "m"] ∨ l.map (·.key) = [Str.ofString "k", Str.ofString "m"] := by
  unfold attsOk at h
  simp only [Bool.and_eq_true, List.contains_iff_mem] at h
  have h2 := h.2
  simpa only [List.mem_cons, List.not_mem_nil, or_false] using h2
theorem union_five {a b : List Att} (ha : attsOk a = true) (hb : attsOk b = true) : (unionK a b = bothK a b ∧ (unionK a b).length < 2) ∨ (bothK a b = [Str.ofString "k", Str.ofString "m"] ∧ (unionK a b = [Str.ofString "k", Str.ofString "m"] ∨ unionK a b = [Str.ofString "m", Str.ofString "k"])) := by
  unfold bothK unionK
  rcases attsOk_keys ha with e | e | e | e <;> rcases attsOk_keys hb with e' | e' | e' | e' <;> rw [e, e'] <;> decide +kernel
theorem union_mem {a b : List Att} {k : Str} : k ∈ unionK a b ↔ k ∈ a.map (·.key) ∨ k ∈ b.map (·.key) := by
  unfold unionK
  simp only [List.mem_append, List.mem_filter, Bool.not_eq_true', List.contains_eq_mem, decide_eq_false_iff_not]
  constructor
  · rintro (h | h)
    · exact .inl h
    · exact .inr h.1
  · intro h
    by_cases hk : k ∈ a.map (·.key)
    · exact .inl hk
    · exact .inr ⟨h.resolve_left hk, hk⟩
noncomputable def unlikeL (a b : List Att) (ks : List Str) : List PyData := ks.flatMap (unlikeAt a b)
theorem unlikeL_step {a b : List Att} {ks : List Str} {i : Nat} {k : Str} (h : ks[i]? = some k) : unlikeL a b (ks.take (i + 1)) = unlikeL a b (ks.take i) ++ unlikeAt a b k := by
  unfold unlikeL
  rw [List.take_add_one, h]
  simp
theorem unlikeAt_off {a b : List Att} {k : Str} (h : k ∉ unionK a b) : unlikeAt a b k = [] := by
  rw [union_mem, not_or] at h
  rw [unlikeAt, att_none h.1, att_none h.2]
  rfl
theorem unlikeL_both (a b : List Att) : unlikeL a b (bothK a b) = unlike a b := by
  have key : ∀ l : List Str, unlikeL a b (l.filter fun k => (unionK a b).contains k) = unlikeL a b l := by
    intro l
    induction l with
    | nil => rfl
    | cons k l ih =>
      unfold unlikeL at ih ⊢
      rw [List.filter_cons]
      by_cases hk : k ∈ unionK a b
      · rw [if_pos (by simpa using hk), List.flatMap_cons, List.flatMap_cons, ih]
      · rw [if_neg (by simpa using hk), List.flatMap_cons, unlikeAt_off hk, List.nil_append, ih]
  unfold bothK
  rw [key]
  simp [unlikeL, ukeys, unlike]
theorem unlikeAt_new {a b : List Att} {k : Str} (h : k ∈ unionK a b) (hb : k ∉ b.map (·.key)) : unlikeAt a b k = [.tuple [keyD k, .none, .none]] := by
  rw [union_mem] at h
  obtain ⟨t, ht, rfl⟩ := List.mem_map.mp (h.resolve_right hb)
  obtain ⟨n, v, e⟩ := att_some ht
  rw [unlikeAt, att_none hb, e]
  rfl
theorem both_len (a b : List Att) : (bothK a b).length ≤ 2 := List.length_filter_le _ _
theorem both_union {a b : List Att} {k : Str} {i : Nat} (h : (bothK a b)[i]? = some k) : k ∈ unionK a b := by
  have := List.mem_of_getElem? h
  unfold bothK at this
  simpa using (List.mem_filter.mp this).2
theorem unlikeL_len (a b : List Att) (ks : List Str) (i : Nat) (h : ks.length ≤ 2) : (unlikeL a b (ks.take i)).length ≤ 2 := by
  have h1 : ∀ k, (unlikeAt a b k).length ≤ 1 := fun k => by unfold unlikeAt; split <;> simp
  have key : ∀ l : List Str, (unlikeL a b l).length ≤ l.length := by
    intro l
    induction l with
    | nil => simp [unlikeL]
    | cons k l ih =>
      unfold unlikeL at ih ⊢
      rw [List.flatMap_cons, List.length_append, List.length_cons]
      have := h1 k
      omega
  have h2 := key (ks.take i)
  rw [List.length_take] at h2
  omega
noncomputable def Form.value : Form → Str | .mk _ _ v _ _ => v
noncomputable def own (f g : Form) : Nat := (if f.value = g.value then 0 else 1) + (unlike f.atts g.atts).length
theorem unlike_len (a b : List Att) : (unlike a b).length ≤ 2 := unlikeTo_len a b 2 |> fun h => by
  have e : unlikeTo a b 2 = unlike a b := by simp [unlikeTo, ukeys, unlike]
  rw [← e]
  exact h
noncomputable def Form.kids : Form → List Form | .mk _ _ _ _ c => c
noncomputable def cands (rest : List Form → Nat) (pair : Form → Option Nat) (gs : List Form) (n : Nat) : List Nat := (List.range n).filterMap fun i => (gs[i]?.bind pair).map fun c => sizes (gs.take i) + c + rest (gs.drop (i + 1))
noncomputable def minOf : List Nat → Nat → Nat
  | [], m => m
  | x :: r, m => minOf r (min x m)
mutual
noncomputable def pairCost : Form → Form → Option Nat
  | .mk k l v a c, g => if mayMatch (.mk k l v a c) g then some (own (.mk k l v a c) g + least c g.kids) else none
noncomputable def least : List Form → List Form → Nat
  | [], gs => sizes gs
  | f :: fs, gs => minOf (cands (least fs) (pairCost f) gs gs.length) (f.size + least fs gs)
end
theorem minOf_le : ∀ (l : List Nat) (m : Nat), minOf l m ≤ m ∧ ∀ x ∈ l, minOf l m ≤ x
  | [], m => ⟨Nat.le_refl _, fun _ h => nomatch h⟩
  | x :: r, m => by
    have h := minOf_le r (min x m)
    rw [minOf]
    refine ⟨by omega, fun y hy => ?_⟩
    rcases List.mem_cons.mp hy with rfl | hy
    · omega
    · exact h.2 y hy
theorem minOf_mem : ∀ (l : List Nat) (m : Nat), minOf l m ∈ m :: l
  | [], m => .head _
  | x :: r, m => by
    have h := minOf_mem r (min x m)
    rw [minOf]
    rcases List.mem_cons.mp h with h | h
    · rw [h]
      rcases Nat.le_total x m with q | q
      · rw [Nat.min_eq_left q]; exact .tail _ (.head _)
      · rw [Nat.min_eq_right q]; exact .head _
    · exact .tail _ (.tail _ h)
theorem minOf_int {l : List Nat} {m : Nat} {M : Int} (h1 : M ∈ ((m :: l).map fun (x : Nat) => (x : Int))) (h2 : ∀ a ∈ ((m :: l).map fun (x : Nat) => (x : Int)), M ≤ a) : M = (minOf l m : Int) := by
  obtain ⟨x, hx, rfl⟩ := List.mem_map.mp h1
  have a := h2 _ (List.mem_map.mpr ⟨_, minOf_mem l m, rfl⟩)
  have b := minOf_le l m
  rcases List.mem_cons.mp hx with rfl | hx
  · omega
  · have := b.2 x hx; omega
theorem cands_step {rest : List Form → Nat} {pair : Form → Option Nat} {gs : List Form} {i : Nat} : cands rest pair gs (i + 1) = cands rest pair gs i ++ (((gs[i]?.bind pair).map fun c => sizes (gs.take i) + c + rest (gs.drop (i + 1))).toList) := by
  unfold cands
  rw [List.range_succ, List.filterMap_append]
  congr 1
theorem cands_len (rest : List Form → Nat) (pair : Form → Option Nat) (gs : List Form) (n : Nat) : (cands rest pair gs n).length ≤ n := by
  unfold cands
  exact Nat.le_trans (List.length_filterMap_le _ _) (by simp)
theorem heights_take : ∀ {l : List Form} {n : Nat}, heights (l.take n) ≤ heights l
  | [], n => by simp
  | f :: r, 0 => by rw [List.take_zero, heights]; omega
  | f :: r, n + 1 => by rw [List.take_succ_cons, heights, heights]; have := heights_take (l := r) (n := n); omega
theorem heights_drop : ∀ {l : List Form} {n : Nat}, heights (l.drop n) ≤ heights l
  | [], n => by simp
  | f :: r, 0 => Nat.le_refl _
  | f :: r, n + 1 => by rw [List.drop_succ_cons, heights]; have := heights_drop (l := r) (n := n); omega
noncomputable def Att.data (a : Att) : PyData := .tuple [keyD a.key, .str a.name, .str a.value]
mutual
noncomputable def Form.data : Form → PyData
  | .mk k l v a c => .tuple [.str k, l.data, .str v, .tuple (a.map Att.data), .tuple (datas c)]
noncomputable def datas : List Form → List PyData
  | [] => []
  | f :: r => f.data :: datas r
end
mutual
noncomputable def Form.ok : Form → Prop
  | .mk k l v a c => l.ok ∧ PyData.strOk k = true ∧ PyData.strOk v = true ∧ attsOk a = true ∧ c.length ≤ 2 ∧ oks c
noncomputable def oks : List Form → Prop
  | [] => True
  | f :: r => f.ok ∧ oks r
end
theorem datas_map : ∀ l : List Form, datas l = l.map Form.data
  | [] => rfl
  | f :: r => by rw [datas, datas_map r]; rfl
theorem oks_get : ∀ {l : List Form} {i : Nat} {f : Form}, oks l → l[i]? = some f → f.ok
  | [], i, f, _, h => by simp at h
  | g :: r, 0, f, o, h => by simp at h; subst h; exact o.1
  | g :: r, i + 1, f, o, h => by simp at h; exact oks_get o.2 h
end
section
open PySem PySem.W PyProof.Rows
noncomputable def tabD (so st : Nat → Nat) (kp : Nat → Nat → Option Nat) : Nat → Nat → Nat
  | 0, 0 => 0
  | 0, q + 1 => tabD so st kp 0 q + st q
  | p + 1, 0 => tabD so st kp p 0 + so p
  | p + 1, q + 1 => match kp p q with
    | none => min (tabD so st kp p (q + 1) + so p) (tabD so st kp (p + 1) q + st q)
    | some k => min (min (tabD so st kp p (q + 1) + so p) (tabD so st kp (p + 1) q + st q)) (tabD so st kp p q + k)
noncomputable def sizeAt (l : List Form) (p : Nat) : Nat := match l[p]? with | some f => f.size | none => 0
noncomputable def pairAt (l r : List Form) (p q : Nat) : Option Nat := match l[p]?, r[q]? with | some f, some g => pairCost f g | _, _ => none
noncomputable def tabF (l r : List Form) : Nat → Nat → Nat := tabD (sizeAt l) (sizeAt r) (pairAt l r)
noncomputable def rowF (l r : List Form) (p n : Nat) : List Int := (List.range n).map fun q => (tabF l r p q : Int)
theorem rowF_succ (l r : List Form) (p n : Nat) : rowF l r p (n + 1) = rowF l r p n ++ [(tabF l r p n : Int)] := by simp [rowF, List.range_succ]
theorem rowF_get {l r : List Form} {p n q : Nat} (h : q < n) : (rowF l r p n)[q]? = some (tabF l r p q : Int) := by
  unfold rowF
  rw [List.getElem?_map, List.getElem?_range h]; rfl
theorem rowF_len {l r : List Form} {p n : Nat} : (rowF l r p n).length = n := by simp [rowF]
theorem tabF_00 {l r : List Form} : tabF l r 0 0 = 0 := by simp [tabF, tabD]
theorem tabF_0s {l r : List Form} {q : Nat} : tabF l r 0 (q + 1) = tabF l r 0 q + sizeAt r q := by simp [tabF, tabD]
theorem tabF_s0 {l r : List Form} {p : Nat} : tabF l r (p + 1) 0 = tabF l r p 0 + sizeAt l p := by simp [tabF, tabD]
theorem tabF_none {l r : List Form} {p q : Nat} (h : pairAt l r p q = none) : tabF l r (p + 1) (q + 1) = min (tabF l r p (q + 1) + sizeAt l p) (tabF l r (p + 1) q + sizeAt r q) := by simp [tabF, tabD, h]
theorem tabF_some {l r : List Form} {p q k : Nat} (h : pairAt l r p q = some k) : tabF l r (p + 1) (q + 1) = min (min (tabF l r p (q + 1) + sizeAt l p) (tabF l r (p + 1) q + sizeAt r q)) (tabF l r p q + k) := by simp [tabF, tabD, h]
inductive Stp where
  | keep (p q : Nat)
  | out (p : Nat)
  | inn (p q : Nat)
noncomputable def run (l r : List Form) : List Stp → Nat → Nat → Nat → Option (Nat × Nat × Nat)
  | [], a, b, t => some (a, b, t)
  | .keep p q :: s, a, b, t => if p = a ∧ q = b then (match pairAt l r a b with | some k => run l r s (a + 1) (b + 1) (t + k) | none => none) else none
  | .out p :: s, a, b, t => if p = a ∧ a < l.length then run l r s (a + 1) b (t + sizeAt l a) else none
  | .inn p q :: s, a, b, t => if (p = a ∧ q = b) ∧ b < r.length then run l r s a (b + 1) (t + sizeAt r b) else none
set_option tactic.hygienic true in
theorem run_keep_inv {l r : List Form} {p q a b t : Nat} {s : List Stp} {res : Nat × Nat × Nat} (h : run l r (.keep p q :: s) a b t = some res) : p = a ∧ q = b ∧ ∃ f g k, l[a]? = some f ∧ r[b]? = some g ∧ pairCost f g = some k ∧ run l r s (a + 1) (b + 1) (t + k) = some res := by
  rw [run] at h
  split at h
  · rename_i e
    obtain ⟨rfl, rfl⟩ := e
    unfold pairAt at h
    cases e1 : l[p]? with
    | none => rw [e1] at h; cases h
    | some f =>
      cases e2 : r[q]? with
      | none => rw [e1, e2] at h; cases h
      | some g =>
        rw [e1, e2] at h
        dsimp only at h
        cases e3 : pairCost f g with
        | none => rw [e3] at h; cases h
        | some k => rw [e3] at h; exact ⟨rfl, rfl, f, g, k, rfl, rfl, e3, h⟩
  · cases h
set_option tactic.hygienic true in
theorem run_out_inv {l r : List Form} {p a b t : Nat} {s : List Stp} {res : Nat × Nat × Nat} (h : run l r (.out p :: s) a b t = some res) : p = a ∧ ∃ f, l[a]? = some f ∧ run l r s (a + 1) b (t + f.size) = some res := by
  rw [run] at h
  split at h
  · rename_i e
    obtain ⟨rfl, e2⟩ := e
    have := List.getElem?_eq_getElem e2
    refine ⟨rfl, _, this, ?_⟩
    unfold sizeAt at h
    rw [this] at h
    exact h
  · cases h
set_option tactic.hygienic true in
theorem run_inn_inv {l r : List Form} {p q a b t : Nat} {s : List Stp} {res : Nat × Nat × Nat} (h : run l r (.inn p q :: s) a b t = some res) : p = a ∧ q = b ∧ ∃ g, r[b]? = some g ∧ run l r s a (b + 1) (t + g.size) = some res := by
  rw [run] at h
  split at h
  · rename_i e
    obtain ⟨⟨rfl, rfl⟩, e2⟩ := e
    have := List.getElem?_eq_getElem e2
    refine ⟨rfl, rfl, _, this, ?_⟩
    unfold sizeAt at h
    rw [this] at h
    exact h
  · cases h
section
variable {l r : List Form} {p q k a b : Nat}
theorem tabI_none (h : pairAt l r p q = none) (e1 : sizeAt l p = a) (e2 : sizeAt r q = b) : (if (tabF l r (p + 1) q : Int) + (b : Int) < (tabF l r p (q + 1) : Int) + (a : Int) then (tabF l r (p + 1) q : Int) + (b : Int) else (tabF l r p (q + 1) : Int) + (a : Int)) = (tabF l r (p + 1) (q + 1) : Int) := by
  rw [tabF_none h, e1, e2]
  split <;> omega
theorem tabI_lt (h : pairAt l r p q = some k) (e1 : sizeAt l p = a) (e2 : sizeAt r q = b) (hlt : (tabF l r p q : Int) + (k : Int) < if (tabF l r (p + 1) q : Int) + (b : Int) < (tabF l r p (q + 1) : Int) + (a : Int) then (tabF l r (p + 1) q : Int) + (b : Int) else (tabF l r p (q + 1) : Int) + (a : Int)) : (tabF l r p q : Int) + (k : Int) = (tabF l r (p + 1) (q + 1) : Int) := by
  rw [tabF_some h, e1, e2]
  split at hlt <;> omega
theorem tabI_ge (h : pairAt l r p q = some k) (e1 : sizeAt l p = a) (e2 : sizeAt r q = b) (hlt : ¬ (tabF l r p q : Int) + (k : Int) < if (tabF l r (p + 1) q : Int) + (b : Int) < (tabF l r p (q + 1) : Int) + (a : Int) then (tabF l r (p + 1) q : Int) + (b : Int) else (tabF l r p (q + 1) : Int) + (a : Int)) : (if (tabF l r (p + 1) q : Int) + (b : Int) < (tabF l r p (q + 1) : Int) + (a : Int) then (tabF l r (p + 1) q : Int) + (b : Int) else (tabF l r p (q + 1) : Int) + (a : Int)) = (tabF l r (p + 1) (q + 1) : Int) := by
  rw [tabF_some h, e1, e2]
  split at hlt <;> split <;> omega
end
noncomputable def Stp.data : Stp → PyData
  | .keep p q => .tuple [.str (Str.ofString "keep"), .int (p : Nat), .int (q : Nat)]
  | .out p => .tuple [.str (Str.ofString "out"), .int (p : Nat)]
  | .inn p q => .tuple [.str (Str.ofString "in"), .int (p : Nat), .int (q : Nat)]
end
section
open PySem PySem.W PyProof.Rows
theorem take_step {α : Type} {l : List α} {i : Nat} {r : α} (h : l[i]? = some r) : l.take (i + 1) = l.take i ++ [r] := by rw [List.take_add_one, h]; rfl
structure Row where
  form : Form
  par : Option Nat
  place : Nat
noncomputable def kidRows (p : Nat) (f : Form) (n : Nat) : List Row := (List.range n).filterMap fun j => (f.kids[j]?).map fun g => ⟨g, some p, j⟩
theorem kidRows_step {p n : Nat} {f g : Form} (h : f.kids[n]? = some g) : kidRows p f (n + 1) = kidRows p f n ++ [⟨g, some p, n⟩] := by
  unfold kidRows
  rw [List.range_succ, List.filterMap_append]
  congr 1
  simp [h]
noncomputable def rsize (l : List Row) : Nat := (l.map fun r => r.form.size).sum
noncomputable def allKids (rows : List Row) (n : Nat) : List Row := (List.range n).flatMap fun p => match rows[p]? with | some r => kidRows p r.form r.form.kids.length | none => []
structure GInv (f : Form) (rows left : List Row) : Prop where
  perm : (rows ++ left).Perm (⟨f, none, 0⟩ :: allKids rows rows.length)
  low : ∀ (i : Nat) (r : Row) (p : Nat), rows[i]? = some r → r.par = some p → p < i
  size : rows.length + rsize left = f.size
theorem kidRows_size (p : Nat) (f : Form) : rsize (kidRows p f f.kids.length) = sizes f.kids := by
  have key : ∀ n, n ≤ f.kids.length → rsize (kidRows p f n) = sizes (f.kids.take n) := by
    intro n
    induction n with
    | zero => intro _; simp [kidRows, rsize, sizes]
    | succ n ih =>
      intro h
      have hg : f.kids[n]? = some f.kids[n] := List.getElem?_eq_getElem (by omega)
      rw [kidRows_step hg, List.take_add_one, hg]
      have a : ∀ l l' : List Form, sizes (l ++ l') = sizes l + sizes l' := by
        intro l l'
        induction l with
        | nil => simp [sizes]
        | cons x l ih => rw [List.cons_append, sizes, sizes, ih]; omega
      rw [a]
      have := ih (by omega)
      unfold rsize at this ⊢
      rw [List.map_append, List.sum_append, this]
      simp [sizes]
  rw [key _ (Nat.le_refl _), List.take_length]
theorem Form.size_kids (f : Form) : f.size = 1 + sizes f.kids := by cases f; rfl
theorem allKids_app {rows : List Row} {r : Row} : allKids (rows ++ [r]) (rows ++ [r]).length = allKids rows rows.length ++ kidRows rows.length r.form r.form.kids.length := by
  unfold allKids
  rw [List.length_append, List.length_singleton, List.range_succ, List.flatMap_append]
  congr 1
  · have : ∀ p ∈ List.range rows.length, (match (rows ++ [r])[p]? with | some r => kidRows p r.form r.form.kids.length | none => []) = (match rows[p]? with | some r => kidRows p r.form r.form.kids.length | none => []) := by
      intro p hp
      rw [List.getElem?_append_left (List.mem_range.mp hp)]
    rw [List.flatMap_def, List.flatMap_def, List.map_congr_left this]
  · simp
theorem GInv.start (f : Form) : GInv f [] [⟨f, none, 0⟩] := ⟨by simp [allKids], fun i r p h => by simp at h, by simp [rsize]⟩
theorem rsize_app (a b : List Row) : rsize (a ++ b) = rsize a + rsize b := by unfold rsize; rw [List.map_append, List.sum_append]
theorem GInv.turn {f : Form} {rows left : List Row} {r : Row} (h : GInv f rows (left ++ [r])) : GInv f (rows ++ [r]) (left ++ kidRows rows.length r.form r.form.kids.length) := by
  refine ⟨?_, ?_, ?_⟩
  · rw [allKids_app, ← List.cons_append]
    have h1 : (rows ++ [r] ++ (left ++ kidRows rows.length r.form r.form.kids.length)).Perm ((rows ++ (left ++ [r])) ++ kidRows rows.length r.form r.form.kids.length) := by
      rw [← List.append_assoc]
      refine List.Perm.append_right _ ?_
      rw [List.append_assoc]
      exact List.Perm.append_left _ List.perm_append_comm
    exact h1.trans (List.Perm.append_right _ h.perm)
  · intro i q p hq hp
    rcases Nat.lt_or_ge i rows.length with hi | hi
    · rw [List.getElem?_append_left hi] at hq
      exact h.low i q p hq hp
    · rw [List.getElem?_append_right hi] at hq
      have h0 : i - rows.length = 0 := by
        rcases Nat.eq_zero_or_pos (i - rows.length) with h | h
        · exact h
        · rw [List.getElem?_eq_none (by simp; omega)] at hq; cases hq
      rw [h0] at hq
      simp at hq
      subst hq
      have hi' : i = rows.length := by omega
      have hm : r ∈ (⟨f, none, 0⟩ :: allKids rows rows.length : List Row) := h.perm.mem_iff.mp (by simp)
      rcases List.mem_cons.mp hm with e | hm
      · rw [e] at hp; cases hp
      · unfold allKids at hm
        obtain ⟨p', hp', hm⟩ := List.mem_flatMap.mp hm
        have hlt := List.mem_range.mp hp'
        split at hm
        · unfold kidRows at hm
          obtain ⟨j, _, e⟩ := List.mem_filterMap.mp hm
          obtain ⟨g, _, e⟩ := Option.map_eq_some_iff.mp e
          rw [← e] at hp
          cases hp
          omega
        · cases hm
  · have := h.size
    rw [rsize_app] at this
    rw [rsize_app, kidRows_size, List.length_append]
    have e : rsize [r] = r.form.size := by simp [rsize]
    have := r.form.size_kids
    simp only [List.length_singleton]
    omega
theorem len_rsize (l : List Row) : l.length ≤ rsize l := by
  induction l with
  | nil => simp [rsize]
  | cons r l ih =>
    unfold rsize at ih ⊢
    rw [List.map_cons, List.sum_cons, List.length_cons]
    have := r.form.size_kids
    omega
noncomputable def parUp (n : Nat) (r : Row) : Option Nat := r.par.map fun p => n - 1 - p
theorem kidRows_len (p : Nat) (f : Form) (n : Nat) : (kidRows p f n).length ≤ n := by
  unfold kidRows
  exact Nat.le_trans (List.length_filterMap_le _ _) (by simp)
set_option tactic.hygienic true in
theorem allKids_mem {R : List Row} {n : Nat} {r : Row} (h : r ∈ allKids R n) : ∃ p q, p < n ∧ R[p]? = some q ∧ r.par = some p ∧ q.form.kids[r.place]? = some r.form := by
  unfold allKids at h
  obtain ⟨p, hp, hm⟩ := List.mem_flatMap.mp h
  split at hm
  · rename_i q hq
    unfold kidRows at hm
    obtain ⟨j, _, e⟩ := List.mem_filterMap.mp hm
    obtain ⟨g, hg, e⟩ := Option.map_eq_some_iff.mp e
    subst e
    exact ⟨p, q, List.mem_range.mp hp, hq, rfl, hg⟩
  · cases hm
theorem mem_allKids {R : List Row} {n p j : Nat} {q : Row} {g : Form} (hp : p < n) (hq : R[p]? = some q) (hg : q.form.kids[j]? = some g) : (⟨g, some p, j⟩ : Row) ∈ allKids R n := by
  unfold allKids
  refine List.mem_flatMap.mpr ⟨p, List.mem_range.mpr hp, ?_⟩
  rw [hq]
  refine List.mem_filterMap.mpr ⟨j, List.mem_range.mpr ?_, by rw [hg]; rfl⟩
  rcases Nat.lt_or_ge j q.form.kids.length with h | h
  · exact h
  · rw [List.getElem?_eq_none h] at hg; cases hg
section
variable {f : Form} {R : List Row} (h : GInv f R [])
include h
theorem GInv.pos : 0 < R.length := by
  have := h.size
  have h2 := f.size_kids
  simp [rsize] at this
  omega
theorem GInv.perm0 : R.Perm (⟨f, none, 0⟩ :: allKids R R.length) := by have := h.perm; rwa [List.append_nil] at this
theorem GInv.root : ∃ R', R = ⟨f, none, 0⟩ :: R' ∧ R'.Perm (allKids R R.length) := by
  cases e : R with
  | nil => have := h.pos; rw [e] at this; simp at this
  | cons a R' =>
    have h0 : R[0]? = some a := by rw [e]; rfl
    have ha : a ∈ (⟨f, none, 0⟩ :: allKids R R.length : List Row) := h.perm0.mem_iff.mp (by rw [e]; exact .head _)
    have : a = ⟨f, none, 0⟩ := by
      rcases List.mem_cons.mp ha with e2 | hk
      · exact e2
      · obtain ⟨p, q, _, _, hp, _⟩ := allKids_mem hk
        have := h.low 0 a p h0 hp
        omega
    subst this
    refine ⟨R', rfl, ?_⟩
    have := h.perm0
    rw [e] at this
    exact List.Perm.cons_inv this
theorem GInv.size0 : R.length = f.size := by have := h.size; simpa [rsize] using this
theorem GInv.top : (R.reverse.map (·.form))[R.length - 1]? = some f := by
  obtain ⟨R', e, _⟩ := h.root
  rw [e]
  simp
theorem rev_get {α : Type} {R : List α} {m : Nat} {r : α} (hm : R.reverse[m]? = some r) : m < R.length ∧ R[R.length - 1 - m]? = some r := by
  have hlt : m < R.length := by
    rcases Nat.lt_or_ge m R.length with h | h
    · exact h
    · rw [List.getElem?_eq_none (by simpa using h)] at hm; cases hm
  rw [List.getElem?_reverse hlt] at hm
  exact ⟨hlt, hm⟩
theorem get_rev {α : Type} {R : List α} {k : Nat} {r : α} (hk : R[k]? = some r) : k < R.length ∧ R.reverse[R.length - 1 - k]? = some r := by
  have hlt : k < R.length := by
    rcases Nat.lt_or_ge k R.length with h | h
    · exact h
    · rw [List.getElem?_eq_none h] at hk; cases hk
  refine ⟨hlt, ?_⟩
  rw [List.getElem?_reverse (by omega)]
  rw [show R.length - 1 - (R.length - 1 - k) = k by omega]
  exact hk
theorem GInv.par {m : Nat} {r : Row} (hm : m < R.length - 1) (hr : R.reverse[m]? = some r) : ∃ p q, r.par = some p ∧ p < R.length ∧ m < R.length - 1 - p ∧ R.reverse[R.length - 1 - p]? = some q ∧ q.form.kids[r.place]? = some r.form := by
  obtain ⟨hlt, hk⟩ := rev_get h hr
  obtain ⟨R', e, hperm⟩ := h.root
  have hmem : r ∈ R' := by
    have hk2 := hk
    rw [e] at hk2
    have : (⟨f, none, 0⟩ :: R' : List Row).length - 1 - m = (R'.length - 1 - m) + 1 := by
      have : R.length = R'.length + 1 := by rw [e]; rfl
      simp only [List.length_cons]
      omega
    rw [this, List.getElem?_cons_succ] at hk2
    exact List.mem_of_getElem? hk2
  obtain ⟨p, q, hp, hq, hpar, hkid⟩ := allKids_mem (hperm.mem_iff.mp hmem)
  have := h.low _ r p hk hpar
  exact ⟨p, q, hpar, hp, by omega, (get_rev h hq).2, hkid⟩
theorem GInv.kid {p j : Nat} {q : Row} {g : Form} (hq : R.reverse[p]? = some q) (hg : q.form.kids[j]? = some g) : ∃ m, m < R.length - 1 ∧ m < p ∧ R.reverse[m]? = some ⟨g, some (R.length - 1 - p), j⟩ := by
  obtain ⟨hlt, hk⟩ := rev_get h hq
  obtain ⟨R', e, hperm⟩ := h.root
  have hmem := hperm.mem_iff.mpr (mem_allKids (n := R.length) (by omega) hk hg)
  obtain ⟨k, hk2⟩ := List.mem_iff_getElem?.mp hmem
  have hk3 : R[k + 1]? = some ⟨g, some (R.length - 1 - p), j⟩ := by rw [e, List.getElem?_cons_succ]; rw [e] at hk2; exact hk2
  obtain ⟨a, b⟩ := get_rev h hk3
  have := h.low _ _ _ hk3 rfl
  exact ⟨R.length - 1 - (k + 1), by omega, by omega, b⟩
noncomputable def szAt (R : List Row) (i q : Nat) : Nat := 1 + rsize ((R.reverse.take i).filter fun r => r.par == some (R.length - 1 - q))
omit h in
theorem szAt_zero (q : Nat) : szAt R 0 q = 1 := by simp [szAt, rsize]
omit h in
theorem szAt_step {i q p : Nat} {r : Row} (hr : R.reverse[i]? = some r) (hp : r.par = some p) (hpl : p < R.length) (hq : q < R.length) : szAt R (i + 1) q = if R.length - 1 - p = q then szAt R i q + r.form.size else szAt R i q := by
  unfold szAt
  rw [take_step hr, List.filter_append, rsize_app]
  by_cases e : R.length - 1 - p = q
  · rw [if_pos e]
    have : (r.par == some (R.length - 1 - q)) = true := by rw [hp]; simp; omega
    simp [List.filter_cons, this, rsize]
    omega
  · rw [if_neg e]
    have : (r.par == some (R.length - 1 - q)) = false := by rw [hp]; simp; omega
    simp [List.filter_cons, this, rsize]
theorem szAt_done {i q : Nat} {r : Row} (hq : R.reverse[q]? = some r) (hi : q ≤ i) : szAt R i q = r.form.size := by
  obtain ⟨hlt, hk⟩ := rev_get h hq
  have e1 : (R.reverse.filter fun r => r.par == some (R.length - 1 - q)) = (R.reverse.take i).filter fun r => r.par == some (R.length - 1 - q) := by
    conv => lhs; rw [← List.take_append_drop i R.reverse]
    rw [List.filter_append]
    have : (R.reverse.drop i).filter (fun r => r.par == some (R.length - 1 - q)) = [] := by
      rw [List.filter_eq_nil_iff]
      intro x hx hx2
      obtain ⟨k, hk⟩ := List.mem_iff_getElem?.mp hx
      rw [List.getElem?_drop] at hk
      have hxp : x.par = some (R.length - 1 - q) := by simpa using hx2
      obtain ⟨hl, hk2⟩ := rev_get h hk
      have := h.low _ _ _ hk2 hxp
      omega
    rw [this, List.append_nil]
  have e2 : rsize (R.reverse.filter fun r => r.par == some (R.length - 1 - q)) = sizes r.form.kids := by
    have p1 : (R.reverse.filter fun r => r.par == some (R.length - 1 - q)).Perm ((⟨f, none, 0⟩ :: allKids R R.length : List Row).filter fun r => r.par == some (R.length - 1 - q)) := ((List.reverse_perm R).trans h.perm0).filter _
    have p2 : rsize (R.reverse.filter fun r => r.par == some (R.length - 1 - q)) = rsize ((⟨f, none, 0⟩ :: allKids R R.length : List Row).filter fun r => r.par == some (R.length - 1 - q)) := by
      unfold rsize
      exact (p1.map _).sum_nat
    rw [p2]
    have e3 : ((⟨f, none, 0⟩ : Row).par == some (R.length - 1 - q)) = false := rfl
    rw [List.filter_cons, e3]
    simp only [Bool.false_eq_true, if_false]
    have key : ∀ n, n ≤ R.length → rsize ((allKids R n).filter fun r => r.par == some (R.length - 1 - q)) = if R.length - 1 - q < n then sizes r.form.kids else 0 := by
      intro n
      induction n with
      | zero => intro _; simp [allKids, rsize]
      | succ n ih =>
        intro hn
        have e4 : allKids R (n + 1) = allKids R n ++ (match R[n]? with | some r => kidRows n r.form r.form.kids.length | none => []) := by
          unfold allKids
          rw [List.range_succ, List.flatMap_append, List.flatMap_cons, List.flatMap_nil, List.append_nil]
          all_goals (cases R[n]? <;> rfl)
        rw [e4, List.filter_append, rsize_app, ih (by omega)]
        have hn2 : R[n]? = some R[n] := List.getElem?_eq_getElem (by omega)
        rw [hn2]
        have par : ∀ x ∈ kidRows n R[n].form R[n].form.kids.length, x.par = some n := by
          intro x hx
          unfold kidRows at hx
          obtain ⟨j, _, e⟩ := List.mem_filterMap.mp hx
          obtain ⟨g, hg, e⟩ := Option.map_eq_some_iff.mp e
          rw [← e]
        by_cases hc : R.length - 1 - q = n
        · have : ((kidRows n R[n].form R[n].form.kids.length).filter fun r => r.par == some (R.length - 1 - q)) = kidRows n R[n].form R[n].form.kids.length := by
            rw [List.filter_eq_self]
            intro x hx
            rw [par x hx, hc]
            simp
          dsimp only
          rw [this, kidRows_size]
          have hr : R[n] = r := by rw [hc] at hk; rw [hn2] at hk; exact Option.some.inj hk
          rw [hr, if_neg (by omega), if_pos (by omega)]
          omega
        · have : ((kidRows n R[n].form R[n].form.kids.length).filter fun r => r.par == some (R.length - 1 - q)) = [] := by
            rw [List.filter_eq_nil_iff]
            intro x hx
            rw [par x hx]
            simp
            omega
          dsimp only
          rw [this]
          have e0 : rsize [] = 0 := rfl
          rw [e0]
          by_cases h5 : R.length - 1 - q < n
          · rw [if_pos h5, if_pos (by omega)]
            omega
          · rw [if_neg h5, if_neg (by omega)]
    rw [key _ (Nat.le_refl _), if_pos (by omega)]
  unfold szAt
  rw [← e1, e2, r.form.size_kids]
end
structure Flat (f : Form) (fs : List Form) (ch : List (List Nat)) : Prop where
  size : fs.length = f.size
  len : ch.length = fs.length
  top : fs[fs.length - 1]? = some f
  kids : ∀ (i : Nat) g c, fs[i]? = some g → ch[i]? = some c → c.length = g.kids.length ∧ ∀ (j k : Nat), c[j]? = some k → k < i ∧ ∃ x, fs[k]? = some x ∧ g.kids[j]? = some x
  par : ∀ (i : Nat) x, i < fs.length - 1 → fs[i]? = some x → ∃ (p j : Nat) (g : Form), i < p ∧ fs[p]? = some g ∧ g.kids[j]? = some x
theorem Flat.heights {f : Form} {fs : List Form} {ch : List (List Nat)} (h : Flat f fs ch) : ∀ (n i : Nat) x, fs.length - i ≤ n → fs[i]? = some x → x.height ≤ f.height
  | 0, i, x, hn, hi => by
    have := (List.getElem?_eq_some_iff.mp hi).1
    omega
  | n + 1, i, x, hn, hi => by
    have hlt := (List.getElem?_eq_some_iff.mp hi).1
    rcases Nat.lt_or_ge i (fs.length - 1) with hc | hc
    · obtain ⟨p, j, g, hp, hg, hk⟩ := h.par i x hc hi
      have := h.heights n p g (by omega) hg
      have h2 := heights_get hk
      have h3 : g.height = 1 + Mine.heights g.kids := by cases g; rfl
      omega
    · have e : i = fs.length - 1 := by omega
      rw [e, h.top] at hi
      rw [Option.some.inj hi]
      exact Nat.le_refl _
theorem oks_len {f : Form} (h : f.ok) : f.kids.length ≤ 2 := by cases f; exact h.2.2.2.2.1
mutual
theorem Form.pow : ∀ (f : Form), f.ok → f.size + 1 ≤ 2 ^ f.height
  | .mk _ _ _ _ kids, h => by
    have hk := h.2.2.2.2.1
    have h := Forms.pow kids h.2.2.2.2.2
    rw [Form.size, Form.height]
    have e : 2 ^ (1 + Mine.heights kids) = 2 * 2 ^ Mine.heights kids := by rw [Nat.pow_add]
    rw [e]
    have p : 1 ≤ 2 ^ Mine.heights kids := Nat.one_le_two_pow
    have h2 : kids.length * 2 ^ Mine.heights kids ≤ 2 * 2 ^ Mine.heights kids := Nat.mul_le_mul_right _ hk
    have h3 : kids.length = 0 ∨ kids.length = 1 ∨ kids.length = 2 := by omega
    rcases h3 with e | e | e
    · have e0 := List.length_eq_zero_iff.mp e
      have e1 : sizes kids = 0 := by rw [e0]; rfl
      omega
    · rw [e] at h; omega
    · rw [e] at h; omega
theorem Forms.pow : ∀ (fs : List Form), oks fs → sizes fs + fs.length ≤ fs.length * 2 ^ Mine.heights fs
  | [], _ => by rw [sizes]; simp
  | d :: ds, h => by
    have h1 := Form.pow d h.1
    have h2 := Forms.pow ds h.2
    rw [sizes, Mine.heights, List.length_cons, Nat.succ_mul]
    have p1 : 2 ^ d.height ≤ 2 ^ max d.height (Mine.heights ds) := Nat.pow_le_pow_right (by omega) (by omega)
    have p2 : 2 ^ Mine.heights ds ≤ 2 ^ max d.height (Mine.heights ds) := Nat.pow_le_pow_right (by omega) (by omega)
    have p3 := Nat.mul_le_mul_left ds.length p2
    omega
end
theorem Form.small {f : Form} (h : f.ok) (hh : f.height ≤ 3) : f.size ≤ 7 := by
  have h1 := Form.pow f h
  have h2 : 2 ^ f.height ≤ 2 ^ 3 := Nat.pow_le_pow_right (by omega) hh
  omega
noncomputable def oN : Option Nat → PyData
  | none => .none
  | some k => .int (k : Nat)
noncomputable def M2V (R : List Row) (i : Nat) (X : List (List (Option Nat))) : Prop :=
  X.length = R.length ∧ ∀ (q : Nat) x r, X[q]? = some x → R.reverse[q]? = some r → x.length = r.form.kids.length ∧ ∀ (j : Nat) v, x[j]? = some v →
    (v = none ∧ ∀ m, m < i → ∀ rm, R.reverse[m]? = some rm → ¬ (rm.par = some (R.length - 1 - q) ∧ rm.place = j)) ∨ ∃ (m : Nat) (rm : Row), v = some m ∧ m < i ∧ R.reverse[m]? = some rm ∧ rm.par = some (R.length - 1 - q) ∧ rm.place = j
noncomputable def szs (R : List Row) (i : Nat) : List Int := (List.range R.length).map fun q => (szAt R i q : Int)
noncomputable def kids0 (R : List Row) : List (List (Option Nat)) := R.reverse.map fun r => List.replicate r.form.kids.length none
theorem szs_zero (R : List Row) : szs R 0 = List.replicate R.length 1 := by
  apply List.ext_getElem
  · simp [szs]
  · intro i h1 h2
    simp [szs, szAt_zero]
theorem M2V.start (R : List Row) : M2V R 0 (kids0 R) := by
  refine ⟨by simp [kids0], fun q x r hx hr => ?_⟩
  rw [kids0, List.getElem?_map, hr] at hx
  have hx := Option.some.inj hx
  subst hx
  refine ⟨by simp, fun j v hv => .inl ⟨?_, fun m hm => absurd hm (Nat.not_lt_zero _)⟩⟩
  exact (List.eq_of_mem_replicate (List.mem_of_getElem? hv))
theorem szs_step {f : Form} {R : List Row} (hG : GInv f R []) {i p : Nat} {r : Row} (hr : R.reverse[i]? = some r) (hp : r.par = some p) (hpl : p < R.length) :
    (szs R i).set (R.length - 1 - p) ((szAt R i (R.length - 1 - p) : Int) + (szAt R i i : Int)) = szs R (i + 1) := by
  apply List.ext_getElem
  · simp [szs]
  · intro q h1 h2
    have h1 : q < R.length := by simpa [szs] using h1
    rw [List.getElem_set]
    simp only [szs, List.getElem_map, List.getElem_range]
    rw [szAt_step hr hp hpl h1]
    by_cases e : R.length - 1 - p = q
    · rw [if_pos e, if_pos e, szAt_done hG hr (Nat.le_refl _), e]
      simp
    · rw [if_neg e, if_neg e]
theorem M2V.step {f : Form} {R : List Row} (hG : GInv f R []) {i p : Nat} {r : Row} {X : List (List (Option Nat))} {xs : List (Option Nat)} (hr : R.reverse[i]? = some r) (hp : r.par = some p) (hpl : p < R.length) (h : M2V R i X) (hx : X[R.length - 1 - p]? = some xs) :
    M2V R (i + 1) (X.set (R.length - 1 - p) (xs.set r.place (some i))) := by
  obtain ⟨h1, h2⟩ := h
  refine ⟨by simpa using h1, fun q x rq hxq hrq => ?_⟩
  by_cases e : R.length - 1 - p = q
  · subst e
    have hl : R.length - 1 - p < X.length := by omega
    rw [List.getElem?_set_self hl] at hxq
    have hxq := Option.some.inj hxq
    subst hxq
    obtain ⟨a, b⟩ := h2 _ _ _ hx hrq
    refine ⟨by simpa using a, fun j v hv => ?_⟩
    by_cases ej : r.place = j
    · subst ej
      rw [List.getElem?_set_self'] at hv
      cases hxs : xs[r.place]? with
      | none => rw [hxs] at hv; cases hv
      | some y =>
        rw [hxs] at hv
        have hv := Option.some.inj hv
        exact .inr ⟨i, r, hv.symm, Nat.lt_succ_self _, hr, by rw [hp]; congr 1; omega, rfl⟩
    · rw [List.getElem?_set_ne ej] at hv
      rcases b j v hv with ⟨c, d⟩ | ⟨m, rm, c, d, e, f, g⟩
      · refine .inl ⟨c, fun m hm rm hrm hh => ?_⟩
        rcases Nat.lt_or_ge m i with hlt | hge
        · exact d m hlt rm hrm hh
        · have : m = i := by omega
          subst this
          rw [hr] at hrm
          cases hrm
          exact ej hh.2
      · exact .inr ⟨m, rm, c, by omega, e, f, g⟩
  · rw [List.getElem?_set_ne e] at hxq
    obtain ⟨a, b⟩ := h2 _ _ _ hxq hrq
    refine ⟨a, fun j v hv => ?_⟩
    obtain ⟨hql, _⟩ := rev_get hG hrq
    rcases b j v hv with ⟨c, d⟩ | ⟨m, rm, c, d, e, f, g⟩
    · refine .inl ⟨c, fun m hm rm hrm hh => ?_⟩
      rcases Nat.lt_or_ge m i with hlt | hge
      · exact d m hlt rm hrm hh
      · have : m = i := by omega
        subst this
        rw [hr] at hrm
        cases hrm
        have h5 := hh.1
        rw [hp] at h5
        have h5 := Option.some.inj h5
        omega
    · exact .inr ⟨m, rm, c, by omega, e, f, g⟩
noncomputable abbrev numsOf (X : List (List (Option Nat))) : List (List Nat) := X.map fun x => x.map fun o => o.getD 0
noncomputable abbrev numD (c : List Nat) : PyData := .list (c.map fun (k : Nat) => .int (k : Int))
theorem M2V.flat {f : Form} {R : List Row} (hG : GInv f R []) {X : List (List (Option Nat))} (h : M2V R (R.length - 1) X) : (X.map fun x => PyData.list (x.map oN)) = (numsOf X).map numD ∧ szs R (R.length - 1) = (R.reverse.map (·.form)).map (fun f => (f.size : Int)) ∧ Flat f (R.reverse.map (·.form)) (numsOf X) := by
  obtain ⟨h1, h2⟩ := h
  have key : ∀ (q : Nat) x r, X[q]? = some x → R.reverse[q]? = some r → ∀ (j : Nat) v, x[j]? = some v → ∃ (m : Nat) (rm : Row), v = some m ∧ m < q ∧ R.reverse[m]? = some rm ∧ r.form.kids[j]? = some rm.form := by
    intro q x r hx hr j v hv
    obtain ⟨a, b⟩ := h2 q x r hx hr
    obtain ⟨hql, _⟩ := rev_get hG hr
    rcases b j v hv with ⟨rfl, d⟩ | ⟨m, rm, rfl, d, e, f1, g⟩
    · have hj : j < r.form.kids.length := by
        rcases Nat.lt_or_ge j x.length with h | h
        · omega
        · rw [List.getElem?_eq_none h] at hv; cases hv
      obtain ⟨m, hm1, hm2, hm3⟩ := hG.kid hr (List.getElem?_eq_getElem hj)
      exact absurd ⟨rfl, rfl⟩ (d m hm1 _ hm3)
    · obtain ⟨p, q', hp, hpl, hmp, hq', hk⟩ := hG.par d e
      rw [f1] at hp
      have hp := Option.some.inj hp
      have e2 : R.length - 1 - p = q := by omega
      rw [e2, hr] at hq'
      have hq' := Option.some.inj hq'
      subst hq'
      rw [g] at hk
      exact ⟨m, rm, rfl, by omega, e, hk⟩
  refine ⟨?_, ?_, ⟨?_, ?_, ?_, ?_, ?_⟩⟩
  · rw [numsOf, List.map_map]
    refine List.map_congr_left fun x hx => ?_
    obtain ⟨q, hq⟩ := List.mem_iff_getElem?.mp hx
    have hql : q < R.length := by
      rcases Nat.lt_or_ge q X.length with h | h
      · omega
      · rw [List.getElem?_eq_none h] at hq; cases hq
    show PyData.list _ = PyData.list _
    rw [List.map_map]
    refine congrArg _ (List.map_congr_left fun v hv => ?_)
    obtain ⟨j, hj⟩ := List.mem_iff_getElem?.mp hv
    obtain ⟨m, rm, e, _⟩ := key q x _ hq (List.getElem?_eq_getElem (by rw [List.length_reverse]; exact hql)) j v hj
    rw [e]
    rfl
  · apply List.ext_getElem
    · simp [szs]
    · intro i h1 h2
      simp only [List.length_map, List.length_reverse] at h2
      simp only [szs, List.getElem_map, List.getElem_range]
      rw [szAt_done hG (List.getElem?_eq_getElem (by rw [List.length_reverse]; exact h2)) (by omega)]
  · simp [hG.size0]
  · simp [h1]
  · have := hG.top
    simpa using this
  · intro i g c hi hc
    rw [List.getElem?_map] at hi hc
    obtain ⟨r, hr, e⟩ := Option.map_eq_some_iff.mp hi
    obtain ⟨x, hx, e'⟩ := Option.map_eq_some_iff.mp hc
    subst e e'
    obtain ⟨a, b⟩ := h2 i x r hx hr
    refine ⟨by simpa using a, fun j k hk => ?_⟩
    rw [List.getElem?_map] at hk
    obtain ⟨v, hv, e⟩ := Option.map_eq_some_iff.mp hk
    subst e
    obtain ⟨m, rm, rfl, hm1, hm2, hm3⟩ := key i x r hx hr j v hv
    exact ⟨hm1, rm.form, by show (R.reverse.map (·.form))[m]? = _; rw [List.getElem?_map, hm2]; rfl, hm3⟩
  · intro i x hi hx
    rw [List.getElem?_map] at hx
    obtain ⟨r, hr, e⟩ := Option.map_eq_some_iff.mp hx
    subst e
    rw [List.length_map, List.length_reverse] at hi
    obtain ⟨p, q, hp, hpl, hmp, hq, hk⟩ := hG.par hi hr
    exact ⟨R.length - 1 - p, r.place, q.form, hmp, by rw [List.getElem?_map, hq]; rfl, hk⟩
end
section
open PySem PySem.W PyProof.Rows
noncomputable def optMin (o : Option Nat) (m : Nat) : Nat := match o with | none => m | some x => min x m
theorem minOf_opt (o : Option Nat) (l : List Nat) (m : Nat) : minOf (o.toList ++ l) m = minOf l (optMin o m) := by cases o <;> rfl
theorem cands1 (rest : List Form → Nat) (pair : Form → Option Nat) (c : Form) : cands rest pair [c] 1 = ((pair c).map fun k => k + rest []).toList ++ [] := by
  unfold cands
  cases e : pair c <;> simp [List.range_succ, e, sizes]
theorem cands2 (rest : List Form → Nat) (pair : Form → Option Nat) (c d : Form) : cands rest pair [c, d] 2 = ((pair c).map fun k => k + rest [d]).toList ++ (((pair d).map fun k => c.size + k + rest []).toList ++ []) := by
  unfold cands
  cases e : pair c <;> cases e2 : pair d <;> simp [List.range_succ, e, e2, sizes]
theorem least_0 (g : List Form) : least [] g = sizes g := rfl
theorem least_x0 (f : Form) (fs : List Form) : least (f :: fs) [] = f.size + least fs [] := rfl
theorem least_x1 (f : Form) (fs : List Form) (c : Form) : least (f :: fs) [c] = optMin ((pairCost f c).map fun k => k + least fs []) (f.size + least fs [c]) := by
  show minOf (cands (least fs) (pairCost f) [c] 1) (f.size + least fs [c]) = _
  rw [cands1, minOf_opt]; rfl
theorem least_x2 (f : Form) (fs : List Form) (c d : Form) : least (f :: fs) [c, d] = optMin ((pairCost f d).map fun k => c.size + k + least fs []) (optMin ((pairCost f c).map fun k => k + least fs [d]) (f.size + least fs [c, d])) := by
  show minOf (cands (least fs) (pairCost f) [c, d] 2) (f.size + least fs [c, d]) = _
  rw [cands2, minOf_opt, minOf_opt]; rfl
theorem tabF_ss {l r : List Form} {p q : Nat} : tabF l r (p + 1) (q + 1) = optMin ((pairAt l r p q).map fun k => tabF l r p q + k) (min (tabF l r p (q + 1) + sizeAt l p) (tabF l r (p + 1) q + sizeAt r q)) := by
  cases e : pairAt l r p q with
  | none => rw [tabF_none e]; rfl
  | some k => rw [tabF_some e]; exact Nat.min_comm _ _
theorem eq_le {x y : Nat} (h : ∀ t, t ≤ x ↔ t ≤ y) : x = y := Nat.le_antisymm ((h x).mp (Nat.le_refl _)) ((h y).mpr (Nat.le_refl _))
section
variable {o : Option Nat} {f : Nat → Nat} {m t x y z : Nat}
theorem le_opt : t ≤ optMin (o.map f) m ↔ (∀ k, o = some k → t ≤ f k) ∧ t ≤ m := by
  cases o with
  | none => exact ⟨fun h => ⟨fun k e => (nomatch e), h⟩, fun h => h.2⟩
  | some k => exact ⟨fun h => ⟨fun _ e => Option.some.inj e ▸ (Nat.le_min.mp h).1, (Nat.le_min.mp h).2⟩, fun h => Nat.le_min.mpr ⟨h.1 k rfl, h.2⟩⟩
theorem le_opt_add : t ≤ optMin (o.map f) m + z ↔ (∀ k, o = some k → t ≤ f k + z) ∧ t ≤ m + z := by
  have h := @le_opt o f m (t - z)
  simp only [Nat.sub_le_iff_le_add] at h
  exact h
theorem le_add_opt : t ≤ z + optMin (o.map f) m ↔ (∀ k, o = some k → t ≤ z + f k) ∧ t ≤ z + m := by
  rw [Nat.add_comm, le_opt_add, Nat.add_comm m]
  simp only [Nat.add_comm z]
theorem le_min_add : t ≤ min x y + z ↔ t ≤ x + z ∧ t ≤ y + z := by rw [← Nat.add_min_add_right, Nat.le_min]
end
section
variable (A B C D : Nat) (ac ad bc bd : Option Nat)
theorem L11 : optMin (ac.map fun k => 0 + k) (min (0 + C + A) (0 + A + C)) = optMin (ac.map fun k => k + 0) (A + C) := by
  refine eq_le fun t => ?_
  simp only [le_opt, Nat.le_min, Nat.zero_add, Nat.add_zero]
  exact ⟨fun h => ⟨h.1, h.2.2⟩, fun h => ⟨h.1, Nat.add_comm A C ▸ h.2, h.2⟩⟩
theorem L12 : optMin (ad.map fun k => 0 + C + k) (min (0 + C + D + A) (optMin (ac.map fun k => 0 + k) (min (0 + C + A) (0 + A + C)) + D)) = optMin (ad.map fun k => C + k + 0) (optMin (ac.map fun k => k + D) (A + (C + D))) := by
  refine eq_le fun t => ?_
  simp only [le_opt, le_opt_add, Nat.le_min, le_min_add, Nat.add_assoc, Nat.zero_add, Nat.add_zero]
  constructor
  · rintro ⟨h1, h2, h3, h4, h5⟩
    exact ⟨h1, h3, h5⟩
  · rintro ⟨h1, h2, h3⟩
    exact ⟨h1, by omega, h2, by omega, h3⟩
theorem L21 : optMin (bc.map fun k => 0 + A + k) (min (optMin (ac.map fun k => 0 + k) (min (0 + C + A) (0 + A + C)) + B) (0 + A + B + C)) = optMin (ac.map fun k => k + (B + 0)) (A + optMin (bc.map fun k => k + 0) (B + C)) := by
  refine eq_le fun t => ?_
  simp only [le_opt, le_opt_add, le_add_opt, Nat.le_min, le_min_add, Nat.add_assoc, Nat.zero_add, Nat.add_zero]
  constructor
  · rintro ⟨h1, ⟨h2, h3, h4⟩, h5⟩
    exact ⟨h2, h1, h5⟩
  · rintro ⟨h1, h2, h3⟩
    exact ⟨h2, ⟨h1, by omega, by omega⟩, h3⟩
theorem L22 : optMin (bd.map fun k => optMin (ac.map fun k => 0 + k) (min (0 + C + A) (0 + A + C)) + k) (min (optMin (ad.map fun k => 0 + C + k) (min (0 + C + D + A) (optMin (ac.map fun k => 0 + k) (min (0 + C + A) (0 + A + C)) + D)) + B) (optMin (bc.map fun k => 0 + A + k) (min (optMin (ac.map fun k => 0 + k) (min (0 + C + A) (0 + A + C)) + B) (0 + A + B + C)) + D)) =
    optMin (ad.map fun k => C + k + (B + 0)) (optMin (ac.map fun k => k + optMin (bd.map fun k => k + 0) (B + D)) (A + optMin (bd.map fun k => C + k + 0) (optMin (bc.map fun k => k + D) (B + (C + D))))) := by
  refine eq_le fun t => ?_
  simp only [le_opt, le_opt_add, le_add_opt, Nat.le_min, le_min_add, Nat.add_assoc, Nat.zero_add, Nat.add_zero]
  constructor
  · rintro ⟨h1, ⟨h2, h3, h4⟩, h5, h6, h7⟩
    exact ⟨h2, fun k hk => ⟨fun k' hk' => (h1 k' hk').1 k hk, h6.1 k hk⟩, fun k hk => (h1 k hk).2.2, h5, h7⟩
  · rintro ⟨h1, h2, h3, h4, h5⟩
    exact ⟨fun k hk => ⟨fun k' hk' => (h2 k' hk').1 k hk, Nat.add_left_comm A C k ▸ h3 k hk, h3 k hk⟩, ⟨h1, by omega, fun k hk => Nat.add_comm B D ▸ (h2 k hk).2, by omega, by omega⟩, h4, ⟨fun k hk => (h2 k hk).2, by omega, by omega⟩, h5⟩
end
theorem tab_least (l r : List Form) (h1 : l.length ≤ 2) (h2 : r.length ≤ 2) : tabF l r l.length r.length = least l r := by
  have s1 : ∀ a, sizes [a] = a.size := fun a => by rw [sizes, sizes]; rfl
  have s2 : ∀ a b, sizes [a, b] = a.size + b.size := fun a b => by rw [sizes, s1]
  rcases l with _ | ⟨a, _ | ⟨b, _ | ⟨_, _⟩⟩⟩ <;> rcases r with _ | ⟨c, _ | ⟨d, _ | ⟨_, _⟩⟩⟩
  · exact tabF_00
  · show tabF [] [c] 0 (0 + 1) = _
    rw [least_0, s1, tabF_0s, tabF_00]; exact Nat.zero_add _
  · show tabF [] [c, d] 0 (0 + 1 + 1) = _
    rw [least_0, s2, tabF_0s, tabF_0s, tabF_00]
    show 0 + c.size + d.size = _
    rw [Nat.zero_add]
  · simp at h2
  · show tabF [a] [] (0 + 1) 0 = _
    rw [least_x0, least_0, tabF_s0, tabF_00]
    show 0 + a.size = a.size + 0
    rw [Nat.zero_add]; rfl
  · show tabF [a] [c] (0 + 1) (0 + 1) = _
    rw [least_x1, least_0, least_0, s1]
    repeat rw [tabF_ss]
    repeat rw [tabF_0s]
    repeat rw [tabF_s0]
    repeat rw [tabF_00]
    exact L11 a.size c.size (pairCost a c)
  · show tabF [a] [c, d] (0 + 1) (0 + 1 + 1) = _
    rw [least_x2, least_0, least_0, least_0, s1, s2]
    repeat rw [tabF_ss]
    repeat rw [tabF_0s]
    repeat rw [tabF_s0]
    repeat rw [tabF_00]
    exact L12 a.size c.size d.size (pairCost a c) (pairCost a d)
  · simp at h2
  · show tabF [a, b] [] (0 + 1 + 1) 0 = _
    rw [least_x0, least_x0, least_0, tabF_s0, tabF_s0, tabF_00]
    show 0 + a.size + b.size = a.size + (b.size + 0)
    rw [Nat.zero_add]; rfl
  · show tabF [a, b] [c] (0 + 1 + 1) (0 + 1) = _
    rw [least_x1, least_x1, least_x0, least_0, least_0, s1]
    repeat rw [tabF_ss]
    repeat rw [tabF_0s]
    repeat rw [tabF_s0]
    repeat rw [tabF_00]
    exact L21 a.size b.size c.size (pairCost a c) (pairCost b c)
  · show tabF [a, b] [c, d] (0 + 1 + 1) (0 + 1 + 1) = _
    rw [least_x2, least_x2, least_x1, least_x0, least_0, least_0, least_0, s1, s2]
    repeat rw [tabF_ss]
    repeat rw [tabF_0s]
    repeat rw [tabF_s0]
    repeat rw [tabF_00]
    exact L22 a.size b.size c.size d.size (pairCost a c) (pairCost a d) (pairCost b c) (pairCost b d)
  · simp at h2
  all_goals simp at h1
noncomputable def valC (fs gs : List Form) (i j : Nat) (x y : Nat) : Option Nat := if x < i ∨ (x = i ∧ y < j) then pairAt fs gs x y else none
theorem valC_step_none {fs gs : List Form} {i j : Nat} (h : pairAt fs gs i j = none) (x y : Nat) : valC fs gs i j x y = valC fs gs i (j + 1) x y := by
  unfold valC
  by_cases e : x = i ∧ y = j
  · obtain ⟨rfl, rfl⟩ := e
    rw [if_neg (by omega), if_pos (by omega), h]
  · by_cases c : x < i ∨ (x = i ∧ y < j)
    · rw [if_pos c, if_pos (by omega)]
    · rw [if_neg c, if_neg (by omega)]
theorem valC_step_some {fs gs : List Form} {i j k : Nat} (h : pairAt fs gs i j = some k) (x y : Nat) : (if x = i ∧ y = j then some k else valC fs gs i j x y) = valC fs gs i (j + 1) x y := by
  unfold valC
  by_cases e : x = i ∧ y = j
  · obtain ⟨rfl, rfl⟩ := e
    rw [if_pos ⟨rfl, rfl⟩, if_pos (by omega), h]
  · rw [if_neg e]
    by_cases c : x < i ∨ (x = i ∧ y < j)
    · rw [if_pos c, if_pos (by omega)]
    · rw [if_neg c, if_neg (by omega)]
theorem pairAt_right {fs gs : List Form} {x y : Nat} (h : gs.length ≤ y) : pairAt fs gs x y = none := by
  unfold pairAt
  rw [List.getElem?_eq_none h]
  cases fs[x]? <;> rfl
theorem pairAt_left {fs gs : List Form} {x y : Nat} (h : fs.length ≤ x) : pairAt fs gs x y = none := by
  unfold pairAt
  rw [List.getElem?_eq_none h]
theorem valC_row {fs gs : List Form} {i : Nat} (x y : Nat) : valC fs gs i gs.length x y = valC fs gs (i + 1) 0 x y := by
  unfold valC
  by_cases e : x = i ∧ gs.length ≤ y
  · obtain ⟨rfl, e⟩ := e
    rw [if_neg (by omega), if_pos (by omega), pairAt_right e]
  · by_cases c : x < i ∨ (x = i ∧ y < gs.length)
    · rw [if_pos c, if_pos (by omega)]
    · rw [if_neg c, if_neg (by omega)]
theorem valC_all {fs gs : List Form} (x y : Nat) : valC fs gs fs.length 0 x y = pairAt fs gs x y := by
  unfold valC
  by_cases e : x < fs.length
  · rw [if_pos (.inl e)]
  · rw [if_neg (by omega), pairAt_left (by omega)]
theorem valC_new {fs gs : List Form} {i j : Nat} : valC fs gs i j i j = none := by
  unfold valC
  rw [if_neg (by omega)]
theorem pairAt_some {fs gs : List Form} {x y : Nat} {f g : Form} (h1 : fs[x]? = some f) (h2 : gs[y]? = some g) : pairAt fs gs x y = pairCost f g := by
  unfold pairAt
  rw [h1, h2]
theorem pairCost_eq (f g : Form) : pairCost f g = if mayMatch f g = true then some (own f g + least f.kids g.kids) else none := by cases f; rfl
noncomputable def CostsTo (l : List (List Int × PyData)) (fs gs : List Form) (i j : Nat) : Prop := ∀ x y : Nat, dval l [(x : Int), (y : Int)] = (valC fs gs i j x y).map fun k => .int (k : Nat)
theorem dval_snoc {K : Type} [DecidableEq K] {l : List (List K × PyData)} {k k' : List K} {x : PyData} (h : dval l k = none) : dval (l ++ [(k, x)]) k' = if k = k' then some x else dval l k' := by
  unfold dval at h ⊢
  rw [List.find?_append]
  by_cases e : k = k'
  · subst e
    rw [Option.map_eq_none_iff] at h
    rw [h, if_pos rfl]
    simp
  · rw [if_neg e]
    have : List.find? (fun y => decide (y.1 = k')) [(k, x)] = none := by simp [e]
    rw [this, Option.or_none]
theorem CostsTo.skip {l : List (List Int × PyData)} {fs gs : List Form} {i j : Nat} (h : CostsTo l fs gs i j) (e : pairAt fs gs i j = none) : CostsTo l fs gs i (j + 1) := fun x y => by rw [h x y, valC_step_none e]
theorem CostsTo.put {l : List (List Int × PyData)} {fs gs : List Form} {i j k : Nat} (h : CostsTo l fs gs i j) (e : pairAt fs gs i j = some k) : dval l [(i : Int), (j : Int)] = none ∧ CostsTo (l ++ [([(i : Int), (j : Int)], .int (k : Nat))]) fs gs i (j + 1) := by
  have h0 : dval l [(i : Int), (j : Int)] = none := by rw [h i j, valC_new]; rfl
  refine ⟨h0, fun x y => ?_⟩
  rw [dval_snoc h0, ← valC_step_some e, h x y]
  by_cases c : x = i ∧ y = j
  · rw [if_pos c, if_pos (by rw [c.1, c.2])]; rfl
  · rw [if_neg c, if_neg]
    intro e
    injection e with e1 e2
    injection e2 with e2
    exact c ⟨by omega, by omega⟩
end
section
open PySem PySem.W PyProof.Rows
section
variable {l r : List Form} {sts : List Stp} {p q k : Nat} {res : Option (Nat × Nat × Nat)}
theorem run_keep (h : run l r sts.reverse (p + 1) (q + 1) (tabF l r (p + 1) (q + 1)) = res) (hk : pairAt l r p q = some k) (e : tabF l r (p + 1) (q + 1) = tabF l r p q + k) : run l r (sts ++ [Stp.keep p q]).reverse p q (tabF l r p q) = res := by
  rw [List.reverse_append, List.reverse_singleton, List.singleton_append, run, if_pos ⟨rfl, rfl⟩, hk]
  dsimp only
  rw [← e]; exact h
theorem run_out (h : run l r sts.reverse (p + 1) q (tabF l r (p + 1) q) = res) (hl : p < l.length) (e : tabF l r (p + 1) q = tabF l r p q + sizeAt l p) : run l r (sts ++ [Stp.out p]).reverse p q (tabF l r p q) = res := by
  rw [List.reverse_append, List.reverse_singleton, List.singleton_append, run, if_pos ⟨rfl, hl⟩, ← e]; exact h
theorem run_inn (h : run l r sts.reverse p (q + 1) (tabF l r p (q + 1)) = res) (hl : q < r.length) (e : tabF l r p (q + 1) = tabF l r p q + sizeAt r q) : run l r (sts ++ [Stp.inn p q]).reverse p q (tabF l r p q) = res := by
  rw [List.reverse_append, List.reverse_singleton, List.singleton_append, run, if_pos ⟨⟨rfl, rfl⟩, hl⟩, ← e]; exact h
theorem tab_inn_none (hk : pairAt l r p q = none) (h : ¬ tabF l r (p + 1) (q + 1) = tabF l r p (q + 1) + sizeAt l p) : tabF l r (p + 1) (q + 1) = tabF l r (p + 1) q + sizeAt r q := by
  rw [tabF_none hk] at h ⊢; omega
theorem tab_inn_some (hk : pairAt l r p q = some k) (h1 : ¬ tabF l r (p + 1) (q + 1) = tabF l r p q + k) (h : ¬ tabF l r (p + 1) (q + 1) = tabF l r p (q + 1) + sizeAt l p) : tabF l r (p + 1) (q + 1) = tabF l r (p + 1) q + sizeAt r q := by
  rw [tabF_some hk] at h h1 ⊢; omega
end
end
section
noncomputable def tb : Tbl where
  gi := [("KIND", 0), ("LABEL", 1), ("VALUE", 2), ("ATTRIBUTES", 3), ("CHILDREN", 4)]
  gf := [("may_match", 28), ("unlike_attributes", 33), ("own_cost", 40), ("_law_size", 176), ("_law_unlike", 181), ("_law_own", 188), ("_law_pair", 195), ("_law_least", 200), ("_law_steps_right", 207), ("_law_take", 152), ("_law_one", 159), ("_law_told", 166), ("_law_form", 171), ("_law_right", 214), ("_law_node", 221), ("_law_pool", 145)]
  gb := [("len", .len), ("range", .range), ("int", .int), ("min", .min), ("max", .max), ("sum", .sum), ("tuple", .tuple), ("list", .list), ("dict", .dict), ("sorted", .sorted)]
  ga := [(134, "forms"), (134, "children"), (134, "sizes"), (134, "parents"), (134, "places"), (85, "one"), (85, "other"), (85, "costs")]
  gs := [(134, "forms"), (134, "children"), (134, "sizes"), (134, "parents"), (134, "places"), (85, "one"), (85, "other"), (85, "costs")]
  gm := [((134, "gather"), 110), ((134, "measure"), 117), ((134, "top"), 124), ((85, "table"), 61), ((85, "steps"), 68), ((85, "cost"), 75), ((85, "whole_cost"), 82)]
theorem tb_ok : TblOk tb where
  gi := by
    iterate 5 (refine List.forall_mem_cons.mpr ⟨⟨_, fun w => by k_is⟩, ?_⟩)
    exact fun _ h => nomatch h
  gf := by
    iterate 16 ((refine List.forall_mem_cons.mpr ⟨fun w => GFn.of (by k_is) (by k_is), ?_⟩))
    exact fun _ h => nomatch h
  gb := by
    iterate 10 ((refine List.forall_mem_cons.mpr ⟨fun w => BFn.of (by k_is) rfl (by decide), ?_⟩))
    exact fun _ h => nomatch h
  ga := by
    iterate 8 (refine List.forall_mem_cons.mpr ⟨fun w => AttrOk.of (attr := none) (by k_is) (by k_is) (by k_is) (by k_is), ?_⟩)
    exact fun _ h => nomatch h
  gs := by
    iterate 8 (refine List.forall_mem_cons.mpr ⟨fun w => SetOk.of (by k_is) (by k_is) (by k_is) (by k_is), ?_⟩)
    exact fun _ h => nomatch h
  gm := by
    iterate 7 (refine List.forall_mem_cons.mpr ⟨fun w => MethOk.of (by k_is) (by k_is) (by k_is) (by k_is), ?_⟩)
    exact fun _ h => nomatch h
end
section
section
variable {sc : Scope} {D U : Nat} {C : Cx sc D U} {fr : Fm} {own : List MO} {P : V → List MO → Prop} {value slice : Expr} {l : List PyData} {i : Int} {x : PyData}
theorem idx_bd {k : Nat} (h : k ≤ 1000) : 0 ≤ (k : Int) ∧ (k : Int) < 100000 := by omega
theorem WSub_lstN (k : Nat) (hx : l[k]? = some x) (hk : k ≤ 1000) (hP : P (.d x) own) (hi : i = (k : Int) := by rfl) (hs : plainIx slice = true := by rfl) : WSub C value slice (.d (.list l)) (.d (.int i)) fr own P := by
  subst hi; exact WSub_lst (idx_bd hk) hx hP hs
end
theorem blL {a b c : Nat} (h : Nat.ble a b = true) : Nat.ble a (c + b) = true := Nat.ble_eq.mpr (Nat.le_trans (Nat.le_of_ble_eq_true h) (Nat.le_add_left _ _))
theorem blC {a b c : Nat} (h : Nat.ble a b = true) : Nat.ble (c + a) (c + b) = true := Nat.ble_eq.mpr (Nat.add_le_add_left (Nat.le_of_ble_eq_true h) _)
theorem mapLen {α β : Type} {g : α → β} {l : List α} {n : Nat} (h : l.length ≤ n) (hn : Nat.ble n 1000 = true := by rfl) : (l.map g).length ≤ 1000 := by rw [List.length_map]; exact Nat.le_trans h (Nat.le_of_ble_eq_true hn)
theorem le_k {a b n : Nat} (h : a ≤ b) (hb : b ≤ n) (hn : Nat.ble n 1000 = true := by rfl) : a ≤ 1000 := Nat.le_trans h (Nat.le_trans hb (Nat.le_of_ble_eq_true hn))
theorem lt_k {a b n : Nat} (h : a < b) (hb : b ≤ n) (hn : Nat.ble n 1000 = true := by rfl) : a ≤ 1000 := le_k (Nat.le_of_lt h) hb hn
theorem blS {a b d : Nat} (k : Nat) (h : Nat.ble a (k + b) = true) : Nat.ble (k * d + a) (k * (d + 1) + b) = true := by rw [Nat.mul_succ, Nat.add_assoc]; exact blC h
end
section
theorem datas_getD {l : List Form} {i : Nat} (h : i < l.length) : (datas l).getD i .none = l[i].data := by rw [datas_map]; simp [List.getD_eq_getElem?_getD, h]
theorem datas_len (l : List Form) : (datas l).length = l.length := by rw [datas_map]; simp
theorem map_getD_int {l : List Int} {n : Nat} (h : n = l.length) : (List.range n).map (fun i => PyData.int (l.getD i 0)) = l.map .int := by
  subst h
  refine List.ext_getElem (by simp) fun i h1 h2 => ?_
  simp at h2
  simp [List.getD_eq_getElem?_getD, h2]
theorem size_step (w : World) (d : Nat) (IH : ∀ w, ∀ f : Form, f.height ≤ d → f.ok → Fn w 176 (d + 1) (3 * d + 3) [.d f.data] [] fun r _ => r = .d (.int f.size)) (f : Form) (hd : f.height ≤ d + 1) (ho : f.ok) :
    Fn w 176 (d + 2) (3 * d + 6) [.d f.data] [] fun r _ => r = .d (.int f.size) := by
  refine Fn.enters (D := d + 1) (U := 3 * d + 3) (xs := ["form"]) (by (exact DefAt.of (by k_is) (by k_is) (bnd1 (by intros; exact BindsTo.of_eq rfl)) (by decide +kernel) (by decide +kernel) rfl rfl rfl (by decide +kernel))) rfl rfl (Nat.le_refl _) (Nat.le_refl _) fun C hw => ?_
  cases f with | mk k l v a c
  rw [Form.data]
  have hlen : c.length ≤ 2 := ho.2.2.2.2.1
  have hoks := ho.2.2.2.2.2
  rw [Form.height] at hd
  refine wpS_ok tb_ok 60 ?_
  refine lk <| WE_map (cap := []) (by (exact Cap.of [] rfl rfl FrIs.nil (by decide +kernel) (by decide +kernel) (by decide +kernel) rfl (by decide +kernel) (by decide +kernel) (by decide +kernel))) (fun i => .int ((c.map fun f => (f.size : Int)).getD i 0)) (wpE_ok tb_ok 20 ?_)
  refine Exists.intro _ (Exists.intro _ (And.intro rfl (And.intro (by rw [datas_len]; exact Nat.le_trans hlen (by decide)) (And.intro ?_ ?_))))
  · intro C' i hi
    rw [datas_len] at hi
    rw [datas_getD hi]
    have hh := heights_get (List.getElem?_eq_getElem hi)
    refine wpE_ok tb_ok 20 ?_
    refine lk <| WCall_read (fun w => IH w c[i] (by omega) (oks_get hoks (List.getElem?_eq_getElem hi))) ?_ (Nat.ble_eq.mpr (Nat.le_refl _)) (Nat.ble_eq.mpr (Nat.le_refl _)) rfl
    rintro _ rfl
    exact And.intro (by simp [List.getD_eq_getElem?_getD, hi]) rfl
  · rw [map_getD_int (by rw [datas_len]; simp)]
    refine lk <| WF_sum ?_
    refine Ex_d ?_
    show V.d (.int (1 + _)) = _
    rw [Form.size, ← sizes_sum, Int.natCast_add]
    rfl
theorem size_fn (w : World) : ∀ (d : Nat) (f : Form), f.height ≤ d → f.ok → Fn w 176 (d + 1) (3 * d + 3) [.d f.data] [] fun r _ => r = .d (.int f.size)
  | 0, f, h, _ => absurd (Nat.le_trans (height_pos f) h) (by omega)
  | d + 1, f, h, ho => size_step w d (fun w => size_fn w d) f h ho
end
section
theorem may_fn (w : World) {f g : Form} (hf : f.ok) (hg : g.ok) : Fn w 28 1 100 [.d f.data, .d g.data] [] fun r _ => r = .d (.bool (mayMatch f g)) := by
  refine Fn.enters (D := 0) (U := 97) (xs := ["one", "other"]) (by (exact DefAt.of (by k_is) (by k_is) (bnd2 (by intros; exact BindsTo.of_eq rfl)) (by decide +kernel) (by decide +kernel) rfl rfl rfl (by decide +kernel))) rfl rfl (Nat.le_refl _) (Nat.le_refl _) fun C hw => ?_
  obtain ⟨k, l, v, a, c⟩ := f
  obtain ⟨k', l', v', a', c'⟩ := g
  rw [Form.data, Form.data]
  refine wpS_ok tb_ok 60 ?_
  by_cases h : k = k'
  · refine bT (beq_iff_eq.mpr h) ?_
    refine pCmp_eq (Lab.shaped hf.1) (Lab.shaped hg.1) ?_
    refine Ex_d ?_
    show V.d (.bool _) = V.d (.bool (decide (k = k') && decide (l = l')))
    rw [Lab.eqv, decide_eq_true h]
    rfl
  · refine bF (beq_eq_false_iff_ne.mpr h) ?_
    refine Ex_d ?_
    show V.d (.bool _) = V.d (.bool (decide (k = k') && decide (l = l')))
    rw [decide_eq_false h, beq_eq_false_iff_ne.mpr h]
    rfl
noncomputable def attD (a : List Att) : List (List Str × PyData) := a.map fun t => (keyW t.key, .tuple [.str t.name, .str t.value])
theorem attD_get (a : List Att) (k : Str) : (dval (attD a) (keyW k)).getD .none = attGet a k := by
  unfold attD dval attGet
  induction a with
  | nil => rfl
  | cons t a ih =>
    rw [List.map_cons]
    by_cases h : t.key = k
    · rw [List.find?_cons_of_pos (by simp [h]), List.find?_cons_of_pos (by simp [h])]; rfl
    · rw [List.find?_cons_of_neg (by simp [keyW, h]), List.find?_cons_of_neg (by simp [h])]; exact ih
theorem attD_nodup {a : List Att} (h : attsOk a = true) : ((attD a).map (·.1)).Nodup := by
  have := attsOk_nodup h
  rw [attD, List.map_map]
  exact this
theorem attD_len (a : List Att) : (attD a).length = a.length := by simp [attD]
theorem pairs_len (a : List Att) : (pairsOf (attD a)).length = a.length := by simp [pairsOf, attD]
theorem pairs_range {a : List Att} {n : Nat} (h : n = a.length) : (List.range n).map (fun i => (pairsOf (attD a)).getD i .none) = pairsOf (attD a) := by
  subst h
  refine List.ext_getElem (by simp [pairs_len]) fun i h1 h2 => ?_
  simp [List.getD_eq_getElem?_getD, h2]
theorem data_getD {a : List Att} {i : Nat} (hi : i < a.length) : (a.map Att.data).getD i .none = .tuple [keyD a[i].key, .str a[i].name, .str a[i].value] := by simp [List.getD_eq_getElem?_getD, hi, Att.data]
theorem pair_getD {a : List Att} {i : Nat} (hi : i < a.length) : (pairsOf (attD a)).getD i .none = .tuple [keyD a[i].key, .tuple [.str a[i].name, .str a[i].value]] := by simp [List.getD_eq_getElem?_getD, hi, pairsOf, attD]; rfl
noncomputable def keyDs : List PyData := [keyD (Str.ofString "k"), keyD (Str.ofString "m")]
section
variable {sc : Scope} {D U : Nat} {C : Cx sc D U} {fr : Fm} {own : List MO} {P : V → List MO → Prop}
theorem att_cases (a : List Att) (k : Str) : attGet a k = .none ∨ ∃ n v, attGet a k = .tuple [.str n, .str v] := by
  unfold attGet
  split
  · exact .inl rfl
  · exact .inr ⟨_, _, rfl⟩
theorem WM_get {a : List Att} {e : Expr} (h : WE C e fr own fun d o => ∃ k, d = .d (keyD k) ∧ P (.d (attGet a k)) o) (he : plainE e = true := by rfl) (hu : Nat.ble 1 U = true := by rfl) : WMeth C "get" (.dS (attD a)) [e] fr own P :=
  WMeth_getS (h.mono fun d o ⟨k, e, hP⟩ => ⟨keyW k, e, by rw [attD_get]; exact hP⟩) he hu
theorem attD_getD (a : List Att) (k : Str) (du : PyData) : (dval (attD a) (keyW k)).getD du = match attGet a k with | .none => du | x => x := by
  have h := attD_get a k
  cases e : dval (attD a) (keyW k) with
  | none => rw [e] at h; rw [← h]; rfl
  | some x =>
    rw [e] at h
    rw [← h]
    unfold dval attD at e
    simp only [Option.map_eq_some_iff, List.find?_map, Option.map_eq_some_iff] at e
    obtain ⟨_, ⟨t, _, rfl⟩, rfl⟩ := e
    rfl
theorem WM_get2 {a : List Att} {e f : Expr} (h : WE C e fr own fun d o => ∃ k, d = .d (keyD k) ∧ WE C f fr o fun u o => ∃ du, u = .d du ∧ P (.d (match attGet a k with | .none => du | x => x)) o) (he : plainE e = true := by rfl) (hf : plainE f = true := by rfl) (hu : Nat.ble 1 U = true := by rfl) : WMeth C "get" (.dS (attD a)) [e, f] fr own P :=
  WMeth_get2S (h.mono fun d o ⟨k, e, hP⟩ => ⟨keyW k, e, hP.mono fun u o ⟨du, e, hP⟩ => ⟨du, e, by rw [attD_getD]; exact hP⟩⟩) he hf hu
end
theorem key_at {i : Nat} (h : i < 2) : ∃ kk, ukeys[i]? = some kk ∧ keyDs.getD i .none = keyD kk := by
  rcases i with _ | _ | i
  · exact ⟨_, rfl, rfl⟩
  · exact ⟨_, rfl, rfl⟩
  · exact absurd h (by omega)
set_option tactic.hygienic true in
theorem law_unlike_fn (w : World) {f g : Form} (hf : f.ok) (hg : g.ok) : Fn w 181 1 100 [.d f.data, .d g.data] [] fun r _ => r = .d (.list (unlike f.atts g.atts)) := by
  refine Fn.enters (D := 0) (U := 97) (xs := ["one", "other"]) (by (exact DefAt.of (by k_is) (by k_is) (bnd2 (by intros; exact BindsTo.of_eq rfl)) (by decide +kernel) (by decide +kernel) rfl rfl rfl (by decide +kernel))) rfl rfl (Nat.le_refl _) (Nat.le_refl _) fun C hw => ?_
  obtain ⟨k, l, v, a, c⟩ := f
  obtain ⟨k', l', v', a', c'⟩ := g
  have ha := hf.2.2.2.1
  have ha' := hg.2.2.2.1
  have hl := attsOk_len ha
  have hl' := attsOk_len ha'
  rw [Form.data, Form.data]
  refine wpS_ok tb_ok 60 ?_
  refine lk <| WE_map (cap := []) (by (exact Cap.of [] rfl rfl FrIs.nil (by decide +kernel) (by decide +kernel) (by decide +kernel) rfl (by decide +kernel) (by decide +kernel) (by decide +kernel))) (fun i => (pairsOf (attD a)).getD i .none) (wpE_ok tb_ok 20 ?_)
  refine Exists.intro _ (Exists.intro _ (And.intro rfl (And.intro (by rw [List.length_map]; omega) (And.intro ?_ ?_))))
  · intro C' i hi
    rw [List.length_map] at hi
    rw [data_getD hi, pair_getD hi]
    refine wpE_ok tb_ok 20 ?_
    refine lk <| pE_from tb_ok 20 ?_
    exact And.intro (by decide) (And.intro (Nat.le_of_ble_eq_true rfl) (And.intro (Nat.le_of_ble_eq_true rfl) (And.intro rfl rfl)))
  rw [pairs_range (List.length_map _)]
  refine lk <| WF_dict (attD_nodup ha) (by rw [attD_len]; omega) ?_
  refine bT rfl ?_
  refine lk <| WE_map (cap := []) (by (exact Cap.of [] rfl rfl FrIs.nil (by decide +kernel) (by decide +kernel) (by decide +kernel) rfl (by decide +kernel) (by decide +kernel) (by decide +kernel))) (fun i => (pairsOf (attD a')).getD i .none) (wpE_ok tb_ok 20 ?_)
  refine Exists.intro _ (Exists.intro _ (And.intro rfl (And.intro (by rw [List.length_map]; omega) (And.intro ?_ ?_))))
  · intro C' i hi
    rw [List.length_map] at hi
    rw [data_getD hi, pair_getD hi]
    refine wpE_ok tb_ok 20 ?_
    refine lk <| pE_from tb_ok 20 ?_
    exact And.intro (by decide) (And.intro (Nat.le_of_ble_eq_true rfl) (And.intro (Nat.le_of_ble_eq_true rfl) (And.intro rfl rfl)))
  rw [pairs_range (List.length_map _)]
  refine lk <| WF_dict (attD_nodup ha') (by rw [attD_len]; omega) ?_
  refine bT rfl ?_
  refine lk <| pE_listS tb_ok 5 ?_
  refine lk <| pS_forS (σ := Unit) tb_ok 60 (fun _ => []) 2 (fun i => .d (keyDs.getD i .none)) (fun i _ own => own = [.lst (unlikeTo a a' i)]) () [("found", .slot 0), ("second", .dS (attD a')), ("first", .dS (attD a))] (lk <| pE_listF tb_ok 9 ?_) (Nat.le_of_ble_eq_true rfl) (by (repeat' (first | exact FrIs.nil | exact FrIs.refl | refine FrIs.cons rfl ?_))) ?_ ?_
  · exact And.intro rfl rfl
  · rintro C' i ⟨⟩ own hi rfl
    have hu := unlikeTo_len a a' i
    obtain ⟨kk, hk, e⟩ := key_at hi
    rw [e]
    have st := unlikeTo_step (a := a) (b := a') hk
    refine lk <| WM_get (wpE_ok tb_ok 20 ?_)
    refine Exists.intro kk (And.intro rfl ?_)
    refine lk <| WM_get (wpE_ok tb_ok 20 ?_)
    refine Exists.intro kk (And.intro rfl ?_)
    refine pCmp_ne (attGet_shaped ha kk) (attGet_shaped ha' kk) ?_
    unfold unlikeAt at st
    split at st
    · rename_i q
      refine bF (by rw [q]; rfl) ?_
      exact Exists.intro () ⟨by (repeat' (first | exact FrIs.nil | exact FrIs.refl | refine FrIs.cons rfl ?_)), by rw [st, List.append_nil]⟩
    · rename_i q
      refine bT (by rw [Bool.eq_false_iff.mpr q]; rfl) ?_
      refine lk <| pM_append tb_ok 20 rfl ?_
      refine lk <| WM_get2 (wpE_ok tb_ok 20 ?_)
      refine Exists.intro kk (And.intro rfl (wpE_ok tb_ok 20 (Exists.intro _ (And.intro rfl ?_))))
      rcases att_cases a' kk with e2 | ⟨n, v, e2⟩ <;> rw [e2] at st ⊢
      · refine lk <| WBin_tup (by simp) (by simp) (by simp) ?_
        refine And.intro (by omega) ?_
        exact Exists.intro () ⟨by (repeat' (first | exact FrIs.nil | exact FrIs.refl | refine FrIs.cons rfl ?_)), by rw [st]; rfl⟩
      · refine lk <| WBin_tup (by simp) (by simp) (by simp) ?_
        refine And.intro (by omega) ?_
        exact Exists.intro () ⟨by (repeat' (first | exact FrIs.nil | exact FrIs.refl | refine FrIs.cons rfl ?_)), by rw [st]; rfl⟩
  · rintro ⟨⟩ own rfl
    have e3 : unlikeTo a a' 2 = unlike a a' := by simp [unlikeTo, ukeys, unlike]
    exact Ex_of (own' := []) rfl rfl rfl (Nat.zero_le _) (congrArg (fun l => V.d (.list l)) e3)
end
section
local macro_rules | `(tactic| k_mem) => `(tactic| assumption)
section
variable {prog : Program} {w : World} {A : Around} {E : Value → Shared → Prop} {s : Shared} {h₀ : Heap} {L l : Addr} {m : Str → Option Value} {news : Ld} {n : Nat} {p q : Addr} {t1 t2 t3 t4 : Tok} {Q : Value → Shared → Prop}
theorem sort_km (X0 : (hd.heap_39 w.params).In h₀) (F : Fr h₀ L s.heap m) (N : News h₀ L s.heap news) (hl : (l, listOf [Value.ref p, .ref q].toArray n) ∈ news) (h1 : (p, tupO [.str (Str.ofString "") t1, .str (Str.ofString "k") t2]) ∈ news) (h2 : (q, tupO [.str (Str.ofString "") t3, .str (Str.ofString "m") t4]) ∈ news)
    (h : ∀ D c h' tk, Fr h₀ L h' m → News h₀ L h' ((D, listOf [Value.ref p, .ref q].toArray c) :: news) → (∀ q ∈ news, q.1 < D) → Q (.ref D) { s with heap := h', toks := tk }) :
    wpAny (model prog w) A (call (.builtin "sorted") [.ref l]) Q E s := by
  refine kat_sorted F N ⟨_, N.get hl, rfl, _, rfl⟩ (Nat.le_of_ble_eq_true rfl) (Nat.le_of_ble_eq_true rfl) fun D e1 h' F' N' l1 => ?_
  kat_kinds
  k_steps
  exact h D _ _ _ (by k_asm) (by k_asm) l1
theorem sort_mk (X0 : (hd.heap_39 w.params).In h₀) (F : Fr h₀ L s.heap m) (N : News h₀ L s.heap news) (hl : (l, listOf [Value.ref q, .ref p].toArray n) ∈ news) (h1 : (p, tupO [.str (Str.ofString "") t1, .str (Str.ofString "k") t2]) ∈ news) (h2 : (q, tupO [.str (Str.ofString "") t3, .str (Str.ofString "m") t4]) ∈ news)
    (h : ∀ D c h' tk, Fr h₀ L h' m → News h₀ L h' ((D, listOf [Value.ref p, .ref q].toArray c) :: news) → (∀ q ∈ news, q.1 < D) → Q (.ref D) { s with heap := h', toks := tk }) :
    wpAny (model prog w) A (call (.builtin "sorted") [.ref l]) Q E s := by
  refine kat_sorted F N ⟨_, N.get hl, rfl, _, rfl⟩ (Nat.le_of_ble_eq_true rfl) (Nat.le_of_ble_eq_true rfl) fun D e1 h' F' N' l1 => ?_
  kat_kinds
  k_steps
  exact h D _ _ _ (by k_asm) (by k_asm) l1
end
section
variable {sc : Scope} {D U : Nat} {C : Cx sc D U} {fr : Fm} {own : List MO} {P : V → List MO → Prop}
theorem WF_sortedK {a b : List Att} (ha : attsOk a = true) (hb : attsOk b = true) (hP : P (.d (.list ((bothK a b).map keyD))) own) : WFun C (.builtin "sorted") [.d (.list ((unionK a b).map keyD))] fr own P := by
  rcases union_five ha hb with ⟨e, h2⟩ | ⟨e, e2⟩
  · rw [e] at h2 ⊢
    exact WF_sorted1 (by rw [List.length_map]; exact h2) hP
  · rw [e] at hP
    unfold WFun
    intro m ro sl s Q vs S hv k
    obtain ⟨v, rfl, l, us, n, rfl, ma, hl⟩ := VIns_one hv
    rcases e2 with e2 | e2 <;> rw [e2] at hl <;> obtain ⟨_, _, rfl, ⟨p, ps, rfl, mp, _, _, rfl, ⟨t1, rfl⟩, _, _, rfl, ⟨t2, rfl⟩, rfl⟩, _, _, rfl, ⟨q, qs, rfl, mq, _, _, rfl, ⟨t3, rfl⟩, _, _, rfl, ⟨t4, rfl⟩, rfl⟩, rfl⟩ := hl
    · refine sort_km C.X S.F S.N (S.news ma) (S.news mp) (S.news mq) fun D' c h' tk F' N' l' => ?_
      exact k _ (.d (.list [keyD (Str.ofString "k"), keyD (Str.ofString "m")])) _ _ _ _ (S.push (tk := tk) F' N' l') .push ⟨_, _, _, rfl, .head _, _, _, rfl, ⟨p, _, rfl, .tail _ mp, _, _, rfl, ⟨t1, rfl⟩, _, _, rfl, ⟨t2, rfl⟩, rfl⟩, _, _, rfl, ⟨q, _, rfl, .tail _ mq, _, _, rfl, ⟨t3, rfl⟩, _, _, rfl, ⟨t4, rfl⟩, rfl⟩, rfl⟩ hP
    · refine sort_mk C.X S.F S.N (S.news ma) (S.news mq) (S.news mp) fun D' c h' tk F' N' l' => ?_
      exact k _ (.d (.list [keyD (Str.ofString "k"), keyD (Str.ofString "m")])) _ _ _ _ (S.push (tk := tk) F' N' l') .push ⟨_, _, _, rfl, .head _, _, _, rfl, ⟨q, _, rfl, .tail _ mq, _, _, rfl, ⟨t3, rfl⟩, _, _, rfl, ⟨t4, rfl⟩, rfl⟩, _, _, rfl, ⟨p, _, rfl, .tail _ mp, _, _, rfl, ⟨t1, rfl⟩, _, _, rfl, ⟨t2, rfl⟩, rfl⟩, rfl⟩ hP
end
end
section
theorem attD_has (a : List Att) (k : Str) : (dval (attD a) (keyW k)).isSome = (a.map (·.key)).contains k := by
  unfold dval attD
  induction a with
  | nil => rfl
  | cons t a ih =>
    rw [List.map_cons, List.map_cons, List.contains_cons]
    by_cases h : k = t.key
    · rw [List.find?_cons_of_pos (by simp [h])]; simp [h]
    · rw [List.find?_cons_of_neg (by simp [keyW, Ne.symm h]), ih]; simp [h]
noncomputable def newK (a b : List Att) (i : Nat) : List PyData := (((b.map (·.key)).take i).filter fun k => !(a.map (·.key)).contains k).map keyD
theorem newK_step {a b : List Att} {i : Nat} {t : Att} (h : b[i]? = some t) : newK a b (i + 1) = newK a b i ++ if (!(a.map (·.key)).contains t.key) = true then [keyD t.key] else [] := by
  unfold newK
  rw [List.take_add_one, List.getElem?_map, h, List.filter_append, List.map_append]
  simp only [Option.map_some, Option.toList_some, List.filter_cons, List.filter_nil]
  split <;> rfl
theorem newK_all (a b : List Att) : ((attD a).map fun x => encS x.1) ++ newK a b b.length = (unionK a b).map keyD := by
  unfold newK unionK attD
  rw [List.take_of_length_le (by simp), List.map_append, List.map_map, List.map_map]
  rfl
theorem pairs_at {a : List Att} {i : Nat} {t : Att} (h : a[i]? = some t) : (pairsOf (attD a)).take (i + 1) = (pairsOf (attD a)).take i ++ [.tuple [keyD t.key, .tuple [.str t.name, .str t.value]]] := by
  unfold pairsOf attD
  rw [List.take_add_one, List.getElem?_map, List.getElem?_map, h]
  rfl
theorem atts_at {a : List Att} {i : Nat} {x y z : PyData} (h : (a.map Att.data)[i]? = some (.tuple [x, y, z])) : ∃ t, a[i]? = some t ∧ x = keyD t.key ∧ y = .str t.name ∧ z = .str t.value := by
  rw [List.getElem?_map] at h
  cases e : a[i]? with
  | none => rw [e] at h; cases h
  | some t => rw [e] at h; cases h; exact ⟨t, rfl, rfl, rfl, rfl⟩
theorem enc_at {a : List Att} {i : Nat} (h : i < (attD a).length) : ∃ t, a[i]? = some t ∧ ((attD a).map fun x => encS x.1).getD i .none = encS (keyW t.key) := by
  rw [attD_len] at h
  refine ⟨a[i], List.getElem?_eq_getElem h, ?_⟩
  rw [List.getD_eq_getElem?_getD, attD, List.getElem?_map, List.getElem?_map, List.getElem?_eq_getElem h]
  rfl
theorem newK_len (a b : List Att) : (newK a b b.length).length ≤ b.length := by
  unfold newK
  rw [List.length_map]
  refine Nat.le_trans (List.length_filter_le _ _) ?_
  rw [List.length_take, List.length_map]
  exact Nat.min_le_left _ _
theorem both_at {a b : List Att} {i : Nat} (h : i < ((bothK a b).map keyD).length) : ∃ k, (bothK a b)[i]? = some k ∧ ((bothK a b).map keyD).getD i .none = keyD k := by
  rw [List.length_map] at h
  refine ⟨(bothK a b)[i], List.getElem?_eq_getElem h, ?_⟩
  rw [List.getD_eq_getElem?_getD, List.getElem?_map, List.getElem?_eq_getElem h]
  rfl
theorem attD_at {b : List Att} {k : Str} (h : (b.map (·.key)).contains k = true) : ∃ n v, dval (attD b) (keyW k) = some (.tuple [.str n, .str v]) ∧ attGet b k = .tuple [.str n, .str v] := by
  obtain ⟨t, ht, rfl⟩ := List.mem_map.mp (List.contains_iff_mem.mp h)
  obtain ⟨n, v, e⟩ := att_some ht
  refine ⟨n, v, ?_, e⟩
  have h1 := attD_has b t.key
  have h2 := attD_get b t.key
  rw [h] at h1
  obtain ⟨x, hx⟩ := Option.isSome_iff_exists.mp h1
  rw [hx, e] at h2
  rw [hx]
  exact congrArg some h2
theorem atts_triple (a : List Att) (i : Nat) (x : PyData) (h : (a.map Att.data)[i]? = some x) : ∃ p q r, x = PyData.tuple [p, q, r] := by
  rw [List.getElem?_map] at h
  cases e : a[i]? with
  | none => rw [e] at h; cases h
  | some t => rw [e] at h; cases h; exact ⟨_, _, _, rfl⟩
theorem pairs_all (a : List Att) : (pairsOf (attD a)).take (a.map Att.data).length = pairsOf (attD a) := List.take_of_length_le (by rw [pairs_len, List.length_map]; exact Nat.le_refl _)
set_option tactic.hygienic true in
theorem unlike_fn (w : World) {f g : Form} (hf : f.ok) (hg : g.ok) : Fn w 33 1 100 [.d f.data, .d g.data] [] fun r _ => r = .d (.list (unlike f.atts g.atts)) := by
  refine FnLe (Fn.enterC1 (D := 0) (U := 97) (x := "first") (xs := ["one", "other"]) (by (exact DefAtC.of (by k_is) (by k_is) (bnd2 (by intros; exact BindsTo.of_eq rfl)) (by decide +kernel) (by decide +kernel) rfl rfl rfl (by decide +kernel))) rfl rfl (fun _ => rfl) rfl (by decide +kernel) fun C hw => ?_) rfl rfl
  obtain ⟨k, l, v, a, c⟩ := f
  obtain ⟨k', l', v', a', c'⟩ := g
  have ha := hf.2.2.2.1
  have ha' := hg.2.2.2.1
  have hl := attsOk_len ha
  have hl' := attsOk_len ha'
  rw [Form.data, Form.data]
  refine wpS_ok tb_ok 60 ?_
  refine lk <| WT_assignC (wpE_ok tb_ok 30 ?_)
  refine lk <| WE_comp3 (by (exact Cap.of [] rfl rfl FrIs.nil (by decide +kernel) (by decide +kernel) (by decide +kernel) rfl (by decide +kernel) (by decide +kernel) (by decide +kernel))) rfl rfl rfl rfl (by decide) (wpE_ok tb_ok 30 ?_)
  refine Exists.intro (a.map Att.data) (Exists.intro (fun i ys o => ys = (pairsOf (attD a)).take i ∧ o = [.cell]) (And.intro rfl (And.intro (by rw [List.length_map]; omega) (And.intro (atts_triple a) (And.intro ⟨rfl, rfl⟩ (And.intro ?_ ?_))))))
  · rintro C' i ys own x y z hi ⟨rfl, rfl⟩
    obtain ⟨t, ht, rfl, rfl, rfl⟩ := atts_at hi
    exact wpE_ok tb_ok 30 ⟨_, rfl, (pairs_at ht).symm, rfl⟩
  rintro ys o ⟨rfl, rfl⟩
  rw [pairs_all]
  refine lk <| WF_dict (attD_nodup ha) (by rw [attD_len]; omega) ?_
  refine And.intro rfl (Exists.intro 0 (And.intro rfl (And.intro rfl ?_)))
  refine lk <| WE_comp3 (by (exact Cap.of [] rfl rfl FrIs.nil (by decide +kernel) (by decide +kernel) (by decide +kernel) rfl (by decide +kernel) (by decide +kernel) (by decide +kernel))) rfl rfl rfl rfl (by decide) (wpE_ok tb_ok 30 ?_)
  refine Exists.intro (a'.map Att.data) (Exists.intro (fun i ys o => ys = (pairsOf (attD a')).take i ∧ o = [.dead]) (And.intro rfl (And.intro (by rw [List.length_map]; omega) (And.intro (atts_triple a') (And.intro ⟨rfl, rfl⟩ (And.intro ?_ ?_))))))
  · rintro C' i ys own x y z hi ⟨rfl, rfl⟩
    obtain ⟨t, ht, rfl, rfl, rfl⟩ := atts_at hi
    exact wpE_ok tb_ok 30 ⟨_, rfl, (pairs_at ht).symm, rfl⟩
  rintro ys o ⟨rfl, rfl⟩
  rw [pairs_all]
  refine lk <| WF_dict (attD_nodup ha') (by rw [attD_len]; omega) ?_
  refine bT rfl ?_
  refine lk <| pE_listS tb_ok 5 ?_
  refine lk <| pS_forS (σ := Unit) tb_ok 60 (fun _ => []) ((bothK a a').map keyD).length (fun i => .d (((bothK a a').map keyD).getD i .none)) (fun i _ own => own = [.dead, .lst (unlikeL a a' ((bothK a a').take i))]) () [("found", .slot 1), ("second", .dS (attD a')), ("first", .dS (attD a))] ?_ (by rw [List.length_map]; exact Nat.le_trans (both_len _ _) (by decide)) (by (repeat' (first | exact FrIs.nil | exact FrIs.refl | refine FrIs.cons rfl ?_))) ?_ ?_
  · refine lk <| WF_listD (by rw [attD_len]; omega) ?_
    refine lk <| WE_compT (cap := [("first", .dS (attD a))]) (Cap.of ["first"] rfl rfl (by (repeat' (first | exact FrIs.nil | exact FrIs.refl | refine FrIs.cons rfl ?_))) (by decide +kernel) (by decide +kernel) (by decide +kernel) rfl (by decide +kernel) (by decide +kernel) (by decide +kernel)) (wpE_ok tb_ok 30 ?_)
    refine Exists.intro (attD a') (Exists.intro (fun i ys o => ys = newK a a' i ∧ o = [.dead, .lst []]) (And.intro rfl (And.intro (by rw [attD_len]; omega) (And.intro ⟨rfl, rfl⟩ (And.intro ?_ ?_)))))
    · rintro C' i ys own hi ⟨rfl, rfl⟩
      obtain ⟨t, ht, e⟩ := enc_at hi
      rw [e]
      refine wpB_ok tb_ok 30 ?_
      refine lk <| WCmp_notinS ?_
      have st := newK_step (a := a) ht
      rw [attD_has]
      cases q : !(a.map (·.key)).contains t.key with
      | true => rw [q, if_pos rfl] at st; exact wpE_ok tb_ok 30 ⟨_, rfl, st.symm, rfl⟩
      | false => rw [q, if_neg Bool.false_ne_true, List.append_nil] at st; exact ⟨st.symm, rfl⟩
    rintro ys o ⟨rfl, rfl⟩
    rw [attD_len]
    refine lk <| WBin_lst (by have := newK_len a a'; rw [List.length_map, attD_len]; omega) ?_
    rw [newK_all]
    refine lk <| WF_sortedK ha ha' ?_
    exact And.intro rfl rfl
  · rintro C' i ⟨⟩ own hi rfl
    obtain ⟨key, hk, e⟩ := both_at hi
    rw [e]
    have hun := both_union hk
    have hln := unlikeL_len a a' (bothK a a') i (both_len a a')
    have st := unlikeL_step (a := a) (b := a') hk
    refine lk <| WCmp_notinS (ks := keyW key) ?_
    rw [attD_has]
    cases q : (a'.map (·.key)).contains key with
    | false =>
      refine bT rfl ?_
      refine lk <| pM_append tb_ok 30 rfl ?_
      refine And.intro (Nat.le_trans hln (by decide)) ?_
      refine Exists.intro () ⟨by (repeat' (first | exact FrIs.nil | exact FrIs.refl | refine FrIs.cons rfl ?_)), ?_⟩
      rw [st, unlikeAt_new hun (fun h => by rw [List.contains_iff_mem.mpr h] at q; cases q)]
      rfl
    | true =>
      obtain ⟨n, v, hd, hg⟩ := attD_at q
      refine bF rfl ?_
      refine lk <| WM_get (wpE_ok tb_ok 30 ?_)
      refine Exists.intro key (And.intro rfl ?_)
      have sh := attGet_shaped ha key
      have sh' := attGet_shaped ha' key
      rw [hg] at sh'
      refine lk <| WSub_dS (ks := keyW key) hd ?_
      rw [unlikeAt, hg] at st
      refine pCmp_ne sh sh' ?_
      split at st
      · rename_i q2
        refine bF (by rw [q2]; rfl) ?_
        exact Exists.intro () ⟨by (repeat' (first | exact FrIs.nil | exact FrIs.refl | refine FrIs.cons rfl ?_)), by rw [st, List.append_nil]⟩
      · rename_i q2
        refine bT (by rw [Bool.eq_false_iff.mpr q2]; rfl) ?_
        refine lk <| pM_append tb_ok 30 rfl ?_
        refine lk <| WSub_dS (ks := keyW key) hd ?_
        refine lk <| WSub_dS (ks := keyW key) hd ?_
        refine And.intro (Nat.le_trans hln (by decide)) ?_
        exact Exists.intro () ⟨by (repeat' (first | exact FrIs.nil | exact FrIs.refl | refine FrIs.cons rfl ?_)), by rw [st]; rfl⟩
  · rintro ⟨⟩ own rfl
    refine Ex_of (own' := []) rfl rfl rfl (Nat.zero_le _) ?_
    rw [List.length_map, List.take_length, unlikeL_both]
    rfl
end
section
theorem own_int {k k' : Str} {l l' : Lab} {v v' : Str} {a a' : List Att} {c c' : List Form} : ((if (v != v') = true then 1 else 0) + ((unlike a a').length : Int)) = (own (.mk k l v a c) (.mk k' l' v' a' c') : Int) := by
  by_cases hv : v = v'
  · subst hv; simp [own, Form.value, Form.atts]
  · simp [own, Form.value, Form.atts, hv]
theorem unlike_1000 (a a' : List Att) : (unlike a a').length ≤ 1000 := Nat.le_trans (unlike_len a a') (by decide)
theorem own_fn (w : World) {f g : Form} (hf : f.ok) (hg : g.ok) : Fn w 40 2 110 [.d f.data, .d g.data] [] fun r _ => r = .d (.int (own f g)) := by
  refine Fn.enters (D := 1) (U := 107) (xs := ["one", "other"]) (by (exact DefAt.of (by k_is) (by k_is) (bnd2 (by intros; exact BindsTo.of_eq rfl)) (by decide +kernel) (by decide +kernel) rfl rfl rfl (by decide +kernel))) rfl rfl (Nat.le_refl _) (Nat.le_refl _) fun C hw => ?_
  have hu := fun w => @unlike_fn w f g hf hg
  obtain ⟨k, l, v, a, c⟩ := f
  obtain ⟨k', l', v', a', c'⟩ := g
  rw [Form.data, Form.data] at hu ⊢
  refine wpS_ok tb_ok 60 ?_
  refine lk <| WCall_read hu ?_ rfl rfl rfl
  rintro _ rfl
  exact And.intro (unlike_1000 a a') (Ex_d (congrArg (fun i => V.d (.int i)) own_int))
theorem law_own_fn (w : World) {f g : Form} (hf : f.ok) (hg : g.ok) : Fn w 188 2 110 [.d f.data, .d g.data] [] fun r _ => r = .d (.int (own f g)) := by
  refine Fn.enters (D := 1) (U := 107) (xs := ["one", "other"]) (by (exact DefAt.of (by k_is) (by k_is) (bnd2 (by intros; exact BindsTo.of_eq rfl)) (by decide +kernel) (by decide +kernel) rfl rfl rfl (by decide +kernel))) rfl rfl (Nat.le_refl _) (Nat.le_refl _) fun C hw => ?_
  have hu := fun w => @law_unlike_fn w f g hf hg
  obtain ⟨k, l, v, a, c⟩ := f
  obtain ⟨k', l', v', a', c'⟩ := g
  rw [Form.data, Form.data] at hu ⊢
  refine wpS_ok tb_ok 60 ?_
  refine lk <| WCall_read hu ?_ rfl rfl rfl
  rintro _ rfl
  exact And.intro (unlike_1000 a a') (Ex_d (congrArg (fun i => V.d (.int i)) own_int))
end
section
noncomputable def oi : Option Nat → PyData
  | none => .none
  | some k => .int k
section
variable {sc : Scope} {D U : Nat} {C : Cx sc D U} {fr : Fm} {own : List MO} {P : V → List MO → Prop} {PB : Bool → List MO → Prop} {pos px p2 p3 p4 : Pos}
theorem WCmp_eqNil {l : List PyData} (hP : PB l.isEmpty own) (hu : Nat.ble 1 U = true := by rfl) : WCmp C .Eq (.d (.tuple l)) (.d (.tuple [])) fr own PB := by
  rintro m ro sl s Q va vb S ⟨a, vs, rfl, ma, ha⟩ ⟨b, us, rfl, mb, hb⟩ k
  obtain rfl : us = [] := hb
  have hu := Nat.le_of_ble_eq_true hu
  refine eq_tup_nil S.N (S.news ma) (S.news mb) (by have := C.units; omega) (k.tk S (.d (.bool _)) rfl ⟨_, rfl, ?_⟩)
  have : vs.isEmpty = l.isEmpty := by have := ha.len; cases vs <;> cases l <;> simp_all
  rw [this]
  exact hP
noncomputable abbrev csc : Scope := { kind := .function, names := [(Str.ofString ".0", .local), (Str.ofString "child", .local), (Str.ofString "_law_size", .globalImplicit)], isGenerator := false, isCoroutine := false }
theorem WE_sizes {it : Expr} (h : WE C it fr own fun d o => ∃ gs, d = .d (.tuple (datas gs)) ∧ heights gs ≤ 3 ∧ oks gs ∧ gs.length ≤ 1000 ∧ P (.d (.list ((gs.map fun f => (f.size : Int)).map .int))) o) (hk : Cap sc csc "child" fr []) (hD : Nat.ble 4 D = true) (hU : Nat.ble 12 U = true)
    (hs : ∀ env x, foldedSetIterable it env x = pure x := by intro _ _; rfl) : WE C (.ListComp (.Call (.Name "_law_size" p2) [.Name "child" p3] [] p4) [⟨.Name "child" px, it, [], 0⟩] csc pos) fr own P := by
  refine WE_comp hk (h.mono fun d o hd => ?_) hs
  obtain ⟨gs, rfl, hh, hoks, hz, hP⟩ := hd
  refine ⟨_, _, fun i ys o' => ys = (List.range i).map (fun i => .int ((gs.map fun f => (f.size : Int)).getD i 0)) ∧ o' = o, rfl, by rw [datas_len]; exact hz, ⟨rfl, rfl⟩, ?_, ?_⟩
  · rintro C' i ys own hi ⟨rfl, rfl⟩
    rw [datas_len] at hi
    rw [datas_getD hi]
    have h2 := heights_get (List.getElem?_eq_getElem hi)
    refine wpE_ok tb_ok 20 ?_
    refine lk <| WCall_read (fun w => size_fn w 3 gs[i] (by omega) (oks_get hoks (List.getElem?_eq_getElem hi))) ?_ hD hU rfl
    rintro _ rfl
    exact Exists.intro _ ⟨rfl, by rw [List.range_succ, List.map_append]; simp [List.getD_eq_getElem?_getD, hi], rfl⟩
  · rintro ys o' ⟨rfl, rfl⟩
    rw [map_getD_int (by rw [datas_len]; simp)]
    exact hP
end
theorem pair_eq {k k' : Str} {l l' : Lab} : PyData.eqv (.tuple [.str k, l.data]) (.tuple [.str k', l'.data]) = (decide (k = k') && decide (l = l')) := by
  rw [PyData.eqv, PyData.eqvAll, PyData.eqvAll, PyData.eqvAll, Lab.eqv, PyData.eqv]
  by_cases h : k = k' <;> simp [h]
theorem pair_shaped {k : Str} {l : Lab} (hk : PyData.strOk k = true) (hl : l.ok) : SeqAt.shaped (.tuple [.str k, l.data]) = true := by
  cases l <;> simp_all [Lab.data, Lab.ok, SeqAt.shaped, PyData.canLay0, PyData.canLayAll0, PyData.depth, PyData.depthAll]
noncomputable def PairF (d : Nat) : Prop := ∀ (w : World) (f g : Form), f.height ≤ d → g.height ≤ 3 → f.ok → g.ok → Fn w 195 (10 * d + 10) (30 * d + 100) [.d f.data, .d g.data] [] fun r _ => r = .d (oi (pairCost f g))
noncomputable def LeastF (d : Nat) (fs : List Form) : Prop := ∀ (w : World) (gs : List Form), heights gs ≤ 3 → gs.length ≤ 2 → oks gs → Fn w 200 (10 * d + fs.length + 12) (30 * d + 3 * fs.length + 110) [.d (.tuple (datas fs)), .d (.tuple (datas gs))] [] fun r _ => r = .d (.int (least fs gs))
theorem least_nil_fn (d : Nat) : LeastF d [] := by
  intro w gs hh hz hoks
  refine Fn.enters (D := 10 * d + 11) (U := 30 * d + 107) (xs := ["ours", "theirs"]) (by (exact DefAt.of (by k_is) (by k_is) (bnd2 (by intros; exact BindsTo.of_eq rfl)) (by decide +kernel) (by decide +kernel) rfl rfl rfl (by decide +kernel))) rfl rfl (Nat.le_refl _) (Nat.le_refl _) fun C hw => ?_
  refine wpS_ok tb_ok 60 ?_
  refine lk <| WCmp_eqNil ?_ (blL rfl)
  refine bT rfl ?_
  refine lk <| WE_sizes (wpE_ok tb_ok 9 ?_) (hk := by (exact Cap.of [] rfl rfl FrIs.nil (by decide +kernel) (by decide +kernel) (by decide +kernel) rfl (by decide +kernel) (by decide +kernel) (by decide +kernel))) (hD := blL rfl) (hU := blL rfl)
  refine Exists.intro gs (And.intro rfl (And.intro hh (And.intro hoks (And.intro (Nat.le_trans hz (by decide)) ?_))))
  refine lk <| WF_sum ?_
  refine Ex_d ?_
  rw [← sizes_sum]
  rfl
theorem datas_take (l : List Form) (n : Nat) : (datas l).take n = datas (l.take n) := by simp [datas_map, List.map_take]
theorem datas_drop (l : List Form) (n : Nat) : (datas l).drop n = datas (l.drop n) := by simp [datas_map, List.map_drop]
theorem oks_take : ∀ {l : List Form} {n : Nat}, oks l → oks (l.take n)
  | [], n, _ => by simp; exact trivial
  | f :: r, 0, _ => trivial
  | f :: r, n + 1, h => ⟨h.1, oks_take h.2⟩
theorem oks_drop : ∀ {l : List Form} {n : Nat}, oks l → oks (l.drop n)
  | [], n, _ => by simp; exact trivial
  | f :: r, 0, h => h
  | f :: r, n + 1, h => oks_drop (l := r) (n := n) h.2
theorem datas_get {gs : List Form} {i : Nat} (hi : i < gs.length) : (datas gs)[(i : Int).toNat]? = some gs[i].data := by rw [datas_map]; simp [hi]
theorem blX {a b x y : Nat} (h : Nat.ble a b = true) : Nat.ble (x + a) (x + y + b) = true := by rw [Nat.add_assoc]; exact blC (blL h)
theorem uL {d n : Nat} : 30 * d + 3 * n + 110 + 3 ≤ 30 * d + 3 * (n + 1) + 110 := by omega
theorem blT {d c : Nat} (h : c ≤ 2) : Nat.ble (10 * d + c + 12) (10 * d + 19) = true ∧ Nat.ble (30 * d + 3 * c + 110) (30 * d + 127) = true := ⟨Nat.ble_eq.mpr (by omega), Nat.ble_eq.mpr (by omega)⟩
theorem least_cons_fn (d : Nat) (f : Form) (fs : List Form) (IP : PairF d) (IL : LeastF d fs) (hf : f.height ≤ d) (hd : d ≤ 3) (hof : f.ok) (hofs : oks fs) (hzf : fs.length ≤ 1) : LeastF d (f :: fs) := by
  intro w gs hh hz hoks
  refine Fn.enters (D := 10 * d + fs.length + 12) (U := 30 * d + 3 * fs.length + 110) (xs := ["ours", "theirs"]) (by (exact DefAt.of (by k_is) (by k_is) (bnd2 (by intros; exact BindsTo.of_eq rfl)) (by decide +kernel) (by decide +kernel) rfl rfl rfl (by decide +kernel))) rfl rfl (Nat.le_refl _) uL fun C hw => ?_
  have hzd : (datas fs).length ≤ 1 := by rw [datas_len]; exact hzf
  have hzf1 : (f.data :: datas fs).length ≤ 1000 := Nat.succ_le_succ (Nat.le_trans hzd (by decide))
  have hdg : (datas gs).length ≤ 1000 := by rw [datas_len]; exact Nat.le_trans hz (by decide)
  rw [datas]
  refine wpS_ok tb_ok 60 ?_
  refine lk <| WCmp_eqNil ?_ (blL rfl)
  refine bF rfl ?_
  refine lk <| pE_listS tb_ok 20 ?_
  refine lk <| WCall_read (fun w => size_fn w 3 f (Nat.le_trans hf hd) hof) ?_ (blL rfl) (blL rfl) rfl
  rintro _ rfl
  refine lk <| pE_from tb_ok 20 ?_
  refine And.intro (by decide) (And.intro (Nat.succ_le_succ (Nat.zero_le _)) (And.intro hzf1 ?_))
  refine lk <| WCall_read (fun w => IL w gs hh hz hoks) ?_ (Nat.ble_eq.mpr (Nat.le_refl _)) (Nat.ble_eq.mpr (Nat.le_refl _)) rfl
  rintro _ rfl
  refine lk <| pS_forS (σ := Unit) tb_ok 60 (fun _ => []) gs.length (fun i => .d (.int i)) (fun i _ own => own = [.lst ((((f.size + least fs gs) :: cands (least fs) (pairCost f) gs i).map fun (x : Nat) => (x : Int)).map .int)]) () [("found", .slot 0), ("theirs", .d (.tuple (datas gs))), ("ours", .d (.tuple (f.data :: datas fs)))] ?_ (Nat.le_trans hz (by decide)) (by (repeat' (first | exact FrIs.nil | exact FrIs.refl | refine FrIs.cons rfl ?_))) ?_ ?_
  · refine And.intro hdg ?_
    refine lk <| WF_range gs.length (by rw [datas_len]) ?_
    exact And.intro rfl rfl
  · rintro C' i ⟨⟩ own hi rfl
    have hgi := List.getElem?_eq_getElem hi
    have hdi := datas_get hi
    have hcl := cands_len (least fs) (pairCost f) gs i
    have hib := idx_bd (lt_k hi hz)
    have hsz : ((((f.size + least fs gs) :: cands (least fs) (pairCost f) gs i).map fun (x : Nat) => (x : Int)).map PyData.int).length ≤ 1000 := mapLen (n := 3) (by rw [List.length_map, List.length_cons]; exact Nat.succ_le_succ (Nat.le_trans hcl (Nat.le_trans (Nat.le_of_lt hi) hz)))
    refine lk <| WSub_tup hib hdi ?_
    refine lk <| WCall_read (fun w => IP w f gs[i] hf (Nat.le_trans (heights_get hgi) hh) hof (oks_get hoks hgi)) ?_ (blX rfl) (blX rfl) rfl
    rintro _ rfl
    have hstep := @cands_step (least fs) (pairCost f) gs i
    rw [hgi] at hstep
    cases e : pairCost f gs[i] with
    | none =>
      rw [Option.bind_some, e] at hstep
      exact Exists.intro () ⟨by (repeat' (first | exact FrIs.nil | exact FrIs.refl | refine FrIs.cons rfl ?_)), by rw [hstep]; simp⟩
    | some kc =>
      rw [Option.bind_some, e] at hstep
      refine lk <| WE_sizes (pE_upto tb_ok 20 ?_) (hk := by (exact Cap.of [] rfl rfl FrIs.nil (by decide +kernel) (by decide +kernel) (by decide +kernel) rfl (by decide +kernel) (by decide +kernel) (by decide +kernel))) (hD := blL rfl) (hU := blL rfl)
      refine And.intro (Int.natCast_nonneg _) (And.intro (by rw [datas_len]; exact hi) (And.intro hdg ?_))
      refine Exists.intro (gs.take i) (And.intro (by rw [datas_take]; rfl) (And.intro (Nat.le_trans heights_take hh) (And.intro (oks_take hoks) (And.intro (Nat.le_trans (List.length_take_le _ _) (lt_k hi hz)) ?_))))
      refine lk <| WF_sum ?_
      refine lk <| pM_append tb_ok 30 rfl ?_
      refine lk <| pE_from tb_ok 20 ?_
      refine And.intro (by decide) (And.intro (Nat.succ_le_succ (Nat.zero_le _)) (And.intro hzf1 ?_))
      refine lk <| pE_from tb_ok 20 ?_
      refine And.intro (Int.le_add_of_nonneg_left hib.1) (And.intro (by rw [datas_len]; exact hi) (And.intro hdg ?_))
      rw [show ((i : Int) + 1).toNat = i + 1 from rfl, datas_drop]
      refine lk <| WCall_read (fun w => IL w (gs.drop (i + 1)) (Nat.le_trans heights_drop hh) (Nat.le_trans (by rw [List.length_drop]; exact Nat.sub_le _ _) hz) (oks_drop hoks)) ?_ (Nat.ble_eq.mpr (Nat.le_refl _)) (Nat.ble_eq.mpr (Nat.le_refl _)) rfl
      rintro _ rfl
      refine And.intro hsz ?_
      rw [← sizes_sum]
      exact Exists.intro () ⟨by (repeat' (first | exact FrIs.nil | exact FrIs.refl | refine FrIs.cons rfl ?_)), by rw [hstep]; simp⟩
  · rintro ⟨⟩ own rfl
    refine lk <| WF_minS rfl (by simp) fun M h1 h2 => ?_
    refine Ex_d ?_
    have e := minOf_int h1 h2
    rw [e]
    rfl
theorem least_of_pair (d : Nat) (hd : d ≤ 3) (IP : PairF d) : ∀ fs : List Form, heights fs ≤ d → oks fs → fs.length ≤ 2 → LeastF d fs
  | [], _, _, _ => least_nil_fn d
  | f :: fs, h, ho, hz => by
    rw [heights] at h
    rw [List.length_cons] at hz
    exact least_cons_fn d f fs IP (least_of_pair d hd IP fs (by omega) ho.2 (by omega)) (by omega) hd ho.1 ho.2 (by omega)
theorem pair_step_fn (d : Nat) (hd : d ≤ 2) (IP : PairF d) : PairF (d + 1) := by
  intro w f g hf hg hof hog
  refine Fn.enters (D := 10 * d + 19) (U := 30 * d + 127) (xs := ["one", "other"]) (by (exact DefAt.of (by k_is) (by k_is) (bnd2 (by intros; exact BindsTo.of_eq rfl)) (by decide +kernel) (by decide +kernel) rfl rfl rfl (by decide +kernel))) rfl rfl (Nat.le_refl _) (Nat.le_refl _) fun C hw => ?_
  have hown := fun w => @law_own_fn w f g hof hog
  obtain ⟨k, l, v, a, c⟩ := f
  obtain ⟨k', l', v', a', c'⟩ := g
  rw [Form.height, Nat.add_comm] at hf hg
  have hh' : heights c' ≤ 3 := Nat.le_of_succ_le hg
  have IL := least_of_pair d (Nat.le_succ_of_le hd) IP c (Nat.le_of_succ_le_succ hf) hof.2.2.2.2.2 hof.2.2.2.2.1
  rw [Form.data, Form.data] at hown ⊢
  refine wpS_ok tb_ok 60 ?_
  refine lk <| pE_upto tb_ok 20 ?_
  refine And.intro (by decide) (And.intro (Nat.le_of_ble_eq_true rfl) (And.intro (Nat.le_of_ble_eq_true rfl) ?_))
  refine lk <| pE_upto tb_ok 20 ?_
  refine And.intro (by decide) (And.intro (Nat.le_of_ble_eq_true rfl) (And.intro (Nat.le_of_ble_eq_true rfl) ?_))
  refine pCmp_ne (pair_shaped hof.2.1 hof.1) (pair_shaped hog.2.1 hog.1) ?_ (blL rfl)
  have e : PyData.eqv (.tuple [.str k, l.data]) (.tuple [.str k', l'.data]) = mayMatch (.mk k l v a c) (.mk k' l' v' a' c') := pair_eq
  have hpc : pairCost (.mk k l v a c) (.mk k' l' v' a' c') = if mayMatch (.mk k l v a c) (.mk k' l' v' a' c') then some (own (.mk k l v a c) (.mk k' l' v' a' c') + least c c') else none := by rw [pairCost]; rfl
  cases hm : mayMatch (.mk k l v a c) (.mk k' l' v' a' c') with
  | false =>
    refine bT (show (!PyData.eqv (.tuple [.str k, l.data]) (.tuple [.str k', l'.data])) = true from by rw [e, hm]; rfl) ?_
    exact Ex_d (by rw [hpc, hm]; rfl)
  | true =>
    refine bF (show (!PyData.eqv (.tuple [.str k, l.data]) (.tuple [.str k', l'.data])) = false from by rw [e, hm]; rfl) ?_
    refine lk <| WCall_read hown ?_ (blL rfl) (blL rfl) rfl
    rintro _ rfl
    have hzc := hof.2.2.2.2.1
    refine lk <| WCall_read (fun w => IL w c' hh' hog.2.2.2.2.1 hog.2.2.2.2.2) ?_ (blT hzc).1 (blT hzc).2 rfl
    rintro _ rfl
    exact Ex_d (by rw [hpc, hm]; simp [oi])
theorem pair_all : ∀ d, d ≤ 3 → PairF d
  | 0, _ => fun w f g h _ _ _ => absurd (Nat.le_trans (height_pos f) h) (by omega)
  | d + 1, h => pair_step_fn d (by omega) (pair_all d (by omega))
end
section
theorem len_sizes : ∀ c : List Form, c.length ≤ sizes c
  | [] => Nat.zero_le _
  | f :: r => by have := len_sizes r; have := f.size_kids; rw [sizes, List.length_cons]; omega
noncomputable abbrev ffs : Fs := .cons "forms" (.slot 1) (.cons "children" (.slot 2) (.cons "sizes" (.slot 3) (.cons "parents" (.slot 4) (.cons "places" (.slot 5) .nil))))
noncomputable def Row.data (r : Row) : PyData := .tuple [r.form.data, oN r.par, .int (r.place : Nat)]
noncomputable abbrev formsD (R : List Row) : List PyData := R.map fun r => r.form.data
noncomputable abbrev parsD (n : Nat) (R : List Row) : List PyData := R.map fun r => oN (parUp n r)
noncomputable abbrev placesD (R : List Row) : List PyData := R.map fun r => .int (r.place : Nat)
theorem row_triple {R : List Row} (i : Nat) (x : PyData) (hx : (R.map Row.data)[i]? = some x) : ∃ a b c, x = PyData.tuple [a, b, c] := by
  rw [List.getElem?_map] at hx
  obtain ⟨r, _, rfl⟩ := Option.map_eq_some_iff.mp hx
  exact ⟨_, _, _, rfl⟩
theorem gather_fn (w : World) {f : Form} (hf : f.ok) (hh : f.height ≤ 3) : Fn w 110 3 30 [.obj 134 0, .d f.data] [.flds ffs, .lst [], .lst [], .lst [], .lst [], .lst []] fun r o => r = .d .none ∧ ∃ R, GInv f R [] ∧ o = [.flds ffs, .lst (formsD R.reverse), .lst [], .lst [], .lst (parsD R.length R.reverse), .lst (placesD R.reverse)] := by
  refine Fn.enters (D := 2) (U := 27) (xs := ["self", "form"]) (by (exact DefAt.of (by k_is) (by k_is) (bnd2 (by intros; exact BindsTo.of_eq rfl)) (by decide +kernel) (by decide +kernel) rfl rfl rfl (by decide +kernel))) rfl rfl (by decide) (by decide) fun C hw => ?_
  have hsm := Form.small hf hh
  refine wpS_ok tb_ok 60 ?_
  refine lk <| pT_swap2 tb_ok 20 ?_
  refine lk <| pE_listS tb_ok 5 ?_
  refine lk <| pE_listS tb_ok 9 ?_
  refine lk <| pS_while (σ := List Row × List Row) tb_ok 60 (fun _ => []) (fun c => rsize c.2) (fun c own => own = [.flds ffs, .lst [], .lst [], .lst [], .lst [], .lst [], .lst (c.1.map Row.data), .lst (c.2.map Row.data)] ∧ GInv f c.1 c.2) ([], [⟨f, none, 0⟩]) [("rows", .slot 6), ("left", .slot 7), ("self", .obj 134 0)] (by (repeat' (first | exact FrIs.nil | exact FrIs.refl | refine FrIs.cons rfl ?_))) ⟨rfl, GInv.start f⟩ ?_
  rintro ⟨rows, left⟩ own ⟨rfl, hG⟩
  dsimp only at hG ⊢
  refine lk <| pE_listF tb_ok 5 ?_
  have hsz := hG.size
  rcases List.eq_nil_or_concat left with rfl | ⟨left, r, rfl⟩
  · simp only [rsize, List.map_nil, List.sum_nil, Nat.add_zero] at hsz
    have hrl : (rows.map Row.data).length ≤ 1000 := by rw [List.length_map]; omega
    refine lk <| WCmp_neNil (l := []) rfl ?_
    refine lk <| WF_lenS rfl hrl ?_
    rw [List.length_map]
    refine lk <| pS_for3 (σ := Unit) tb_ok 60 (fun _ => []) (rows.reverse.map Row.data) (fun i _ own => own = [.flds ffs, .lst (formsD (rows.reverse.take i)), .lst [], .lst [], .lst (parsD rows.length (rows.reverse.take i)), .lst (placesD (rows.reverse.take i)), .lst (rows.map Row.data), .lst []]) () [("many", .d (.int rows.length)), ("self", .obj 134 0)] ?_ (by (repeat' (first | exact FrIs.nil | exact FrIs.refl | refine FrIs.cons rfl ?_))) row_triple ?_ ?_
    · refine WE_rev (wpE_ok tb_ok 9 ?_)
      refine wpE_ok tb_ok 9 ?_
      exact Exists.intro _ (Exists.intro _ (And.intro rfl (And.intro rfl (And.intro rfl (And.intro hrl (And.intro (by rw [List.map_reverse]) rfl))))))
    · rintro C' i ⟨⟩ own a b c hx rfl
      rw [List.getElem?_map] at hx
      obtain ⟨r, hr, e⟩ := Option.map_eq_some_iff.mp hx
      cases e
      have hst := take_step hr
      obtain ⟨hlt, hk⟩ := rev_get hG hr
      have hz1 : (rows.reverse.take i).length ≤ 7 := by rw [List.length_take, List.length_reverse]; omega
      have hz2 : ∀ g : Row → PyData, ((rows.reverse.take i).map g).length ≤ 1000 := fun g => by rw [List.length_map]; exact Nat.le_trans hz1 (by decide)
      refine lk <| pM_append tb_ok 9 rfl ?_
      refine And.intro (hz2 _) ?_
      cases hp : r.par with
      | none =>
        refine lk <| pM_append tb_ok 9 rfl ?_
        refine And.intro (hz2 _) ?_
        refine lk <| pM_append tb_ok 9 rfl ?_
        refine And.intro (hz2 _) ?_
        refine Exists.intro () ⟨by (repeat' (first | exact FrIs.nil | exact FrIs.refl | refine FrIs.cons rfl ?_)), ?_⟩
        rw [hst]
        simp [parUp, hp, oN]
      | some p =>
        have hpl := hG.low _ _ _ hk hp
        refine lk <| pM_append tb_ok 9 rfl ?_
        refine And.intro (hz2 _) ?_
        refine lk <| pM_append tb_ok 9 rfl ?_
        refine And.intro (hz2 _) ?_
        refine Exists.intro () ⟨by (repeat' (first | exact FrIs.nil | exact FrIs.refl | refine FrIs.cons rfl ?_)), ?_⟩
        rw [hst, show ((rows.length : Int) - 1 - (p : Nat)) = ((rows.length - 1 - p : Nat) : Int) from by omega]
        simp [parUp, hp, oN]
    · rintro ⟨⟩ own rfl
      rw [List.length_map, List.take_of_length_le (Nat.le_refl _)]
      exact Ex_of (own' := _) rfl rfl rfl (Nat.le_of_ble_eq_true rfl) ⟨rfl, rows, hG, rfl⟩
  · rw [List.concat_eq_append] at hG hsz ⊢
    have hT := hG.turn
    rw [rsize_app] at hsz
    have hln := len_rsize left
    obtain ⟨⟨k, l, v, a, c⟩, par, place⟩ := r
    have hrs : rsize [Row.mk (.mk k l v a c) par place] = 1 + sizes c := by simp [rsize, Form.size]
    have hcl := len_sizes c
    have h7 : left.length ≤ 7 ∧ rows.length ≤ 7 ∧ c.length ≤ 7 ∧ left.length + c.length ≤ 7 := by clear hT hG; omega
    have hc7 := h7.2.2.1
    have hlz : (left.map Row.data).length < 1000 := by rw [List.length_map]; exact Nat.lt_of_le_of_lt h7.1 (by decide)
    have hrz : (rows.map Row.data).length ≤ 1000 := mapLen h7.2.1
    have hcz : (datas c).length ≤ 1000 := by rw [datas_len]; exact Nat.le_trans hc7 (by decide)
    change GInv f (rows ++ [Row.mk (.mk k l v a c) par place]) (left ++ kidRows rows.length (.mk k l v a c) c.length) at hT
    rw [List.map_append, List.map_cons, List.map_nil, show Row.data (Row.mk (.mk k l v a c) par place) = .tuple [.tuple [.str k, l.data, .str v, .tuple (a.map Att.data), .tuple (datas c)], oN par, .int (place : Nat)] from by rw [Row.data, Form.data]]
    refine lk <| WCmp_neNil (l := left.map Row.data ++ [.tuple [.tuple [.str k, l.data, .str v, .tuple (a.map Att.data), .tuple (datas c)], oN par, .int (place : Nat)]]) rfl ?_
    refine bT (by simp) ?_
    refine lk <| WMeth_pop rfl hlz ?_
    refine lk <| WF_lenS rfl hrz ?_
    rw [List.length_map]
    refine lk <| pM_append tb_ok 9 rfl ?_
    refine And.intro hrz ?_
    refine lk <| pS_forS (σ := Unit) tb_ok 60 (fun _ => []) c.length (fun i => .d (.int i)) (fun i _ own => own = [.flds ffs, .lst [], .lst [], .lst [], .lst [], .lst [], .lst ((rows ++ [Row.mk (.mk k l v a c) par place]).map Row.data), .lst ((left ++ kidRows rows.length (.mk k l v a c) i).map Row.data)]) () [("number", .d (.int rows.length)), ("row", .d (.tuple [.tuple [.str k, l.data, .str v, .tuple (a.map Att.data), .tuple (datas c)], oN par, .int (place : Nat)])), ("rows", .slot 6), ("left", .slot 7), ("self", .obj 134 0)] ?_ (Nat.le_trans hc7 (by decide)) (by (repeat' (first | exact FrIs.nil | exact FrIs.refl | refine FrIs.cons rfl ?_))) ?_ ?_
    · refine And.intro hcz ?_
      refine lk <| WF_range c.length (by rw [datas_len]) ?_
      exact And.intro rfl (by simp [kidRows, Row.data, Form.data])
    · rintro C' i ⟨⟩ own hi rfl
      have hci := List.getElem?_eq_getElem hi
      have hdi : (datas c)[(i : Int).toNat]? = some c[i].data := by rw [datas_map]; simp [hi]
      have hkl := kidRows_len rows.length (.mk k l v a c) i
      have hkz : ((left ++ kidRows rows.length (.mk k l v a c) i).map Row.data).length ≤ 1000 := mapLen (n := 7) (by rw [List.length_append]; exact Nat.le_trans (Nat.add_le_add_left (Nat.le_trans hkl (Nat.le_of_lt hi)) _) h7.2.2.2)
      refine lk <| pM_append tb_ok 20 rfl ?_
      refine lk <| WSub_tup (idx_bd (lt_k hi hc7)) hdi ?_
      refine And.intro hkz ?_
      refine Exists.intro () ⟨by (repeat' (first | exact FrIs.nil | exact FrIs.refl | refine FrIs.cons rfl ?_)), ?_⟩
      rw [kidRows_step (f := .mk k l v a c) hci]
      simp [Row.data, oN]
    · rintro ⟨⟩ own rfl
      refine Exists.intro (rows ++ [Row.mk (.mk k l v a c) par place], left ++ kidRows rows.length (.mk k l v a c) c.length) ⟨by (repeat' (first | exact FrIs.nil | exact FrIs.refl | refine FrIs.cons rfl ?_)), ⟨rfl, hT⟩, ?_⟩
      have hks : rsize (kidRows rows.length (.mk k l v a c) c.length) = sizes c := kidRows_size rows.length (.mk k l v a c)
      rw [rsize_app, rsize_app, hks, hrs]
      omega
end
section
structure RSt where
  a : Nat
  b : Nat
  t : Nat
theorem eqv_self {d : PyData} (h : d.canLay0 = true) : PyData.eqv d d = true := PySem.SeqAt.eqv_refl d h
theorem datas_at {l : List Form} {i : Nat} {f : Form} (h : l[i]? = some f) : (datas l)[(i : Int).toNat]? = some f.data := by rw [datas_map, Int.toNat_natCast, List.getElem?_map, h]; rfl
theorem ints_shaped {a b : Int} : SeqAt.shaped (.tuple [.int a, .int b]) = true := by simp [SeqAt.shaped, PyData.canLay0, PyData.canLayAll0, PyData.depth, PyData.depthAll]
theorem int_shaped {a : Int} : SeqAt.shaped (.tuple [.int a]) = true := by simp [SeqAt.shaped, PyData.canLay0, PyData.canLayAll0, PyData.depth, PyData.depthAll]
theorem inn_shaped {a b : Int} : SeqAt.shaped (.tuple [.str (Str.ofString "in"), .int a, .int b]) = true := by
  have : PyData.strOk (Str.ofString "in") = true := by decide +kernel
  simp [SeqAt.shaped, PyData.canLay0, PyData.canLayAll0, PyData.depth, PyData.depthAll, this]
theorem self_shaped {d : PyData} (h : SeqAt.shaped d = true) : PyData.eqv d d = true := eqv_self (SeqAt.canLay_of_shaped h)
theorem steps_right_fn (w : World) {f g : Form} {sts : List Stp} {due : Nat} (hh1 : f.height ≤ 3) (hh2 : g.height ≤ 3) (hf : f.ok) (hg : g.ok) (hrun : run f.kids g.kids sts 0 0 0 = some (f.kids.length, g.kids.length, due)) (hln : sts.length ≤ 4) :
    Fn w 207 50 300 [.d f.data, .d g.data, .d (.list (sts.map Stp.data)), .d (.int due)] [] fun r _ => r = .d (.bool true) := by
  refine Fn.enters (D := 49) (U := 297) (xs := ["one", "other", "steps", "due"]) (by (exact DefAt.of (by k_is) (by k_is) (bnd4 (by intros; exact BindsTo.of_eq rfl)) (by decide +kernel) (by decide +kernel) rfl rfl rfl (by decide +kernel))) rfl rfl (Nat.le_refl _) (Nat.le_refl _) fun C hw => ?_
  obtain ⟨k, l, v, a, c⟩ := f
  obtain ⟨k', l', v', a', c'⟩ := g
  rw [Form.height] at hh1 hh2
  have hc3 : heights c ≤ 3 := by rw [Nat.add_comm] at hh1; exact Nat.le_of_succ_le hh1
  have hc3' : heights c' ≤ 3 := by rw [Nat.add_comm] at hh2; exact Nat.le_of_succ_le hh2
  have hoc := hf.2.2.2.2.2
  have hoc' := hg.2.2.2.2.2
  have hzc := hf.2.2.2.2.1
  have hzc' := hg.2.2.2.2.1
  change run c c' sts 0 0 0 = some (c.length, c'.length, due) at hrun
  rw [Form.data, Form.data]
  refine wpS_ok tb_ok 60 ?_
  refine lk <| pT_unp3 tb_ok 20 ?_
  refine lk <| pS_forS (σ := RSt) tb_ok 40 (fun c => [("total", .d (.int c.t)), ("far", .d (.int c.b)), ("at", .d (.int c.a))]) (sts.map Stp.data).length _ (fun i x own => own = [] ∧ run c c' (sts.drop i) x.a x.b x.t = some (c.length, c'.length, due)) ⟨0, 0, 0⟩ _ (And.intro rfl (And.intro rfl hrun)) (mapLen hln) FrIs.refl ?_ ?_
  · rintro C' i ⟨p, q, t⟩ own hi ⟨rfl, hP⟩
    simp only [List.length_map] at hi
    have hdrop : sts.drop i = sts[i] :: sts.drop (i + 1) := List.drop_eq_getElem_cons hi
    rw [hdrop] at hP
    have e : (sts.map Stp.data).getD i .none = sts[i].data := by simp [List.getD_eq_getElem?_getD, hi]
    rw [e]
    dsimp only at hP ⊢
    cases hs : sts[i] with
    | keep p' q' =>
      rw [hs] at hP
      obtain ⟨rfl, rfl, f1, g1, kc, hf1, hg1, hpc, hP'⟩ := run_keep_inv hP
      rw [show (Stp.keep p' q').data = .tuple [.str (Str.ofString "keep"), .int (p' : Nat), .int (q' : Nat)] from rfl]
      have hz1 := (List.getElem?_eq_some_iff.mp hf1).1
      have hz2 := (List.getElem?_eq_some_iff.mp hg1).1
      have hy1 : f1.height ≤ 3 := Nat.le_trans (heights_get hf1) hc3
      have hy2 : g1.height ≤ 3 := Nat.le_trans (heights_get hg1) hc3'
      have hp : ∀ w, Fn w 195 _ _ _ [] _ := fun w => pair_all 3 (Nat.le_refl _) w f1 g1 hy1 hy2 (oks_get hoc hf1) (oks_get hoc' hg1)
      rw [hpc] at hp
      refine lk <| pE_from tb_ok 20 ?_
      refine And.intro (by decide) (And.intro (Nat.le_of_ble_eq_true rfl) (And.intro (Nat.le_of_ble_eq_true rfl) ?_))
      refine lk <| WCmp_ne ints_shaped ints_shaped ?_
      refine bF (congrArg Bool.not (self_shaped ints_shaped)) ?_
      refine lk <| WSub_tup (idx_bd (lt_k hz1 hzc)) (datas_at hf1) ?_
      refine lk <| WSub_tup (idx_bd (lt_k hz2 hzc')) (datas_at hg1) ?_
      refine lk <| WCall_read hp ?_ rfl rfl rfl
      rintro _ rfl
      refine lk <| WSub_tup (idx_bd (lt_k hz1 hzc)) (datas_at hf1) ?_
      refine lk <| WSub_tup (idx_bd (lt_k hz2 hzc')) (datas_at hg1) ?_
      refine lk <| WCall_read hp ?_ rfl rfl rfl
      rintro _ rfl
      refine lk <| pT_swap2 tb_ok 20 ?_
      exact Exists.intro ⟨p' + 1, q' + 1, t + kc⟩ ⟨by (repeat' (first | exact FrIs.nil | exact FrIs.refl | refine FrIs.cons rfl ?_)), rfl, hP'⟩
    | out p' =>
      rw [hs] at hP
      obtain ⟨rfl, f1, hf1, hP'⟩ := run_out_inv hP
      rw [show (Stp.out p').data = .tuple [.str (Str.ofString "out"), .int (p' : Nat)] from rfl]
      have hz1 := (List.getElem?_eq_some_iff.mp hf1).1
      have hy1 : f1.height ≤ 3 := Nat.le_trans (heights_get hf1) hc3
      refine lk <| pE_from tb_ok 20 ?_
      refine And.intro (by decide) (And.intro (Nat.le_of_ble_eq_true rfl) (And.intro (Nat.le_of_ble_eq_true rfl) ?_))
      refine lk <| WCmp_ne int_shaped int_shaped ?_
      refine bF (congrArg Bool.not (self_shaped int_shaped)) ?_
      refine lk <| pT_swap2 tb_ok 20 ?_
      refine lk <| WSub_tup (idx_bd (lt_k hz1 hzc)) (datas_at hf1) ?_
      refine lk <| WCall_read (fun w => size_fn w 3 f1 hy1 (oks_get hoc hf1)) ?_ rfl rfl rfl
      rintro _ rfl
      exact Exists.intro ⟨p' + 1, q, t + f1.size⟩ ⟨by (repeat' (first | exact FrIs.nil | exact FrIs.refl | refine FrIs.cons rfl ?_)), rfl, hP'⟩
    | inn p' q' =>
      rw [hs] at hP
      obtain ⟨rfl, rfl, g1, hg1, hP'⟩ := run_inn_inv hP
      rw [show (Stp.inn p' q').data = .tuple [.str (Str.ofString "in"), .int (p' : Nat), .int (q' : Nat)] from rfl]
      have hz2 := (List.getElem?_eq_some_iff.mp hg1).1
      have hy2 : g1.height ≤ 3 := Nat.le_trans (heights_get hg1) hc3'
      refine lk <| WCmp_ne inn_shaped inn_shaped ?_
      refine bF (congrArg Bool.not (self_shaped inn_shaped)) ?_
      refine lk <| pT_swap2 tb_ok 20 ?_
      refine lk <| WSub_tup (idx_bd (lt_k hz2 hzc')) (datas_at hg1) ?_
      refine lk <| WCall_read (fun w => size_fn w 3 g1 hy2 (oks_get hoc' hg1)) ?_ rfl rfl rfl
      rintro _ rfl
      exact Exists.intro ⟨p', q' + 1, t + g1.size⟩ ⟨by (repeat' (first | exact FrIs.nil | exact FrIs.refl | refine FrIs.cons rfl ?_)), rfl, hP'⟩
  · rintro ⟨p, q, t⟩ own ⟨rfl, hP⟩
    rw [List.length_map, List.drop_length, run] at hP
    have hP := Option.some.inj hP
    have e1 : p = c.length := congrArg (fun x => x.1) hP
    have e2 : q = c'.length := congrArg (fun x => x.2.1) hP
    have e3 : t = due := congrArg (fun x => x.2.2) hP
    subst e1 e2 e3
    refine And.intro (by rw [datas_len]; exact le_k hzc (Nat.le_refl _)) ?_
    refine And.intro (by rw [datas_len]; exact le_k hzc' (Nat.le_refl _)) ?_
    rw [datas_len, datas_len]
    refine lk <| WCmp_eq ints_shaped ints_shaped ?_
    refine bT (self_shaped ints_shaped) ?_
    refine Ex_d ?_
    exact congrArg (fun b => V.d (.bool b)) (beq_self_eq_true _)
end
section
theorem GInv.oks {f : Form} {R : List Row} (h : GInv f R []) (hf : f.ok) : ∀ (n i : Nat) (r : Row), i < n → R[i]? = some r → r.form.ok
  | 0, _, _, hi, _ => absurd hi (Nat.not_lt_zero _)
  | n + 1, i, r, hi, hr => by
    have hm : r ∈ (⟨f, none, 0⟩ :: allKids R R.length : List Row) := h.perm0.mem_iff.mp (List.mem_of_getElem? hr)
    rcases List.mem_cons.mp hm with e | hm
    · rw [e]; exact hf
    · obtain ⟨p, q, hp, hq, hpar, hkid⟩ := allKids_mem hm
      have hlow := h.low i r p hr hpar
      have hqo := GInv.oks h hf n p q (by omega) hq
      have : Mine.oks q.form.kids := by
        cases e : q.form with
        | mk k l v a c => rw [e] at hqo; exact hqo.2.2.2.2.2
      exact oks_get this hkid
theorem GInv.okr {f : Form} {R : List Row} (h : GInv f R []) (hf : f.ok) {i : Nat} {r : Row} (hr : R.reverse[i]? = some r) : r.form.ok := by
  obtain ⟨hlt, hk⟩ := rev_get h hr
  exact h.oks hf _ _ _ (Nat.lt_succ_self _) hk
noncomputable abbrev rowO (x : List (Option Nat)) : MO := .lst (x.map oN)
noncomputable abbrev ks6 (i : Nat) : List Nat := (List.range i).map (6 + ·)
noncomputable abbrev sizD (l : List Int) : List PyData := l.map .int
theorem kids0_step {R : List Row} {i : Nat} {r : Row} (h : R.reverse[i]? = some r) : (kids0 R).take (i + 1) = (kids0 R).take i ++ [List.replicate r.form.kids.length none] := by
  rw [List.take_add_one, kids0, List.getElem?_map, h]; rfl
theorem ks6_step (i : Nat) : ks6 (i + 1) = ks6 i ++ [6 + i] := by rw [ks6, ks6, List.range_succ, List.map_append]; rfl
theorem at_map {α β : Type} {g : α → β} {R : List α} {i : Nat} {r : α} (h : R[i]? = some r) : (R.map g)[(i : Int).toNat]? = some (g r) := by rw [Int.toNat_natCast, List.getElem?_map, h]; rfl
theorem row_at {A : List MO} {X : List (List (Option Nat))} {P : Nat} {xs : List (Option Nat)} (h6 : A.length = 6) (hx : X[P]? = some xs) : (A ++ X.map rowO)[6 + P]? = some (rowO xs) := by
  rw [List.getElem?_append_right (by omega), h6, Nat.add_sub_cancel_left, List.getElem?_map, hx]; rfl
theorem row_set {A : List MO} {X : List (List (Option Nat))} {P : Nat} {xs : List (Option Nat)} {j i : Nat} (h6 : A.length = 6) : (A ++ X.map rowO).set (6 + P) (.lst ((xs.map oN).set ((j : Nat) : Int).toNat (.int (i : Nat)))) = A ++ (X.set P (xs.set j (some i))).map rowO := by
  rw [List.set_append_right _ _ (by omega), h6, Nat.add_sub_cancel_left, List.map_set, Int.toNat_natCast]
  congr 2
  rw [rowO, List.map_set]
  rfl
theorem rowsOf_map {n : Nat} {own : List MO} : ∀ {l : List (Nat × List PyData)}, (∀ p ∈ l, ¬ p.1 < n ∧ own[p.1]? = some (.lst p.2)) → rowsOf n own (l.map (·.1)) = some (l.map fun p => .list p.2)
  | [], _ => rfl
  | p :: l, h => by
    rw [List.map_cons, rowsOf, if_neg (h p (.head _)).1, (h p (.head _)).2, rowsOf_map fun q hq => h q (.tail _ hq)]
    rfl
theorem rowsOf_ks {A : List MO} {X : List (List (Option Nat))} (h6 : A.length = 6) : rowsOf 6 (A ++ X.map rowO) (ks6 X.length) = some (X.map fun x => .list (x.map oN)) := by
  have h := rowsOf_map (n := 6) (own := A ++ X.map rowO) (l := (List.range X.length).map fun i => (6 + i, (X[i]?.getD []).map oN)) fun p hp => by
    obtain ⟨i, hi, rfl⟩ := List.mem_map.mp hp
    have hi := List.mem_range.mp hi
    exact ⟨Nat.not_lt.mpr (Nat.le_add_right _ _), by rw [row_at h6 (List.getElem?_eq_getElem hi), List.getElem?_eq_getElem hi]; rfl⟩
  rw [List.map_map, List.map_map] at h
  refine h.trans (congrArg some ?_)
  refine List.ext_getElem (by simp) fun i h1 h2 => ?_
  have h3 : i < X.length := by simpa using h2
  simp [h3]
theorem szs_at {R : List Row} {i P : Nat} (h : P < R.length) : (sizD (szs R i))[((P : Nat) : Int).toNat]? = some (.int (szAt R i P : Nat)) := by
  rw [Int.toNat_natCast, List.getElem?_map, szs, List.getElem?_map, List.getElem?_range h]; rfl
section
variable {sc : Scope} {D U : Nat} {C : Cx sc D U} {fr : Fm} {own : List MO}
theorem WSet_slotE {k : Nat} {l : List PyData} {j : Int} {x : PyData} {PU : List MO → Prop} {own' : List MO} (h0 : own[k]? = some (.lst l)) (hj : 0 ≤ j ∧ j < 100000) (hi : j.toNat < l.length) (he : own.set k (.lst (l.set j.toNat x)) = own') (hP : PU own') : WSet C (.slot k) (.d (.int j)) (.d x) fr own PU := WSet_slot h0 hj hi (by rw [he]; exact hP)
end
theorem kids_take {R : List Row} {i : Nat} (h : i ≤ R.length) : (((kids0 R).take i).map rowO).length = i := by
  rw [List.length_map, List.length_take]; simp [kids0]; omega
theorem cast_pred {n : Nat} (h : 0 < n) : (n : Int) - 1 = ((n - 1 : Nat) : Int) := by omega
theorem sub_lt2 {n p : Nat} (h : 0 < n) : n - 1 - p < n := by omega
theorem measure_fn (w : World) {f : Form} {R : List Row} (hf : f.ok) (hG : GInv f R []) (hR : R.length ≤ 7) : Fn w 117 3 30 [.obj 134 0] [.flds ffs, .lst (formsD R.reverse), .lst [], .lst [], .lst (parsD R.length R.reverse), .lst (placesD R.reverse)] fun r o => r = .d .none ∧ ∃ X, M2V R (R.length - 1) X ∧ o = [.flds ffs, .lst (formsD R.reverse), .lst (X.map fun x => .list (x.map oN)), .lst (sizD (szs R (R.length - 1))), .lst (parsD R.length R.reverse), .lst (placesD R.reverse)] := by
  refine Fn.enters (D := 2) (U := 27) (xs := ["self"]) (by (exact DefAt.of (by k_is) (by k_is) (bnd1 (by intros; exact BindsTo.of_eq rfl)) (by decide +kernel) (by decide +kernel) rfl rfl rfl (by decide +kernel))) rfl rfl (Nat.le_refl _) (Nat.le_refl _) fun C hw => ?_
  have hfl : (formsD R.reverse).length = R.length := by rw [List.length_map, List.length_reverse]
  have hR9 : R.length ≤ 1000 := Nat.le_trans hR (by decide)
  have hfl9 : (formsD R.reverse).length ≤ 1000 := by rw [hfl]; exact hR9
  refine WS_toRefs (k := 2) rfl ?_
  refine wpS_ok tb_ok 60 ?_
  refine lk <| pS_forS (σ := Unit) tb_ok 40 (fun _ => []) R.length (fun i => .d (.int i)) (fun i _ own => own = [.flds ffs, .lst (formsD R.reverse), .refs (ks6 i), .lst (sizD (List.replicate i 1)), .lst (parsD R.length R.reverse), .lst (placesD R.reverse)] ++ ((kids0 R).take i).map rowO) () _ ?_ hR9 FrIs.refl ?_ ?_
  · refine lk <| WF_lenS rfl hfl9 ?_
    rw [hfl]
    refine lk <| WF_range R.length rfl ?_
    exact And.intro rfl rfl
  · rintro C' i _ own hi rfl
    obtain ⟨r, hr⟩ : ∃ r, R.reverse[i]? = some r := ⟨_, List.getElem?_eq_getElem (by rw [List.length_reverse]; exact hi)⟩
    have hkl := kids_take (Nat.le_of_lt hi)
    have hi9 := Nat.le_trans (Nat.le_of_lt hi) hR9
    have hok := hG.okr hf hr
    have hst := kids0_step hr
    have hfd : (formsD R.reverse)[(i : Int).toNat]? = some r.form.data := at_map hr
    obtain ⟨⟨k, l, v, a, c⟩, par, place⟩ := r
    rw [Form.data] at hfd
    have hcl : c.length ≤ 2 := hok.2.2.2.2.1
    have hdc : (datas c).length ≤ 1000 := by rw [datas_len]; exact Nat.le_trans hcl (by decide)
    refine lk <| WMeth_appendR rfl rfl (wpE_ok tb_ok 30 ?_)
    refine lk <| pE_listF tb_ok 5 ?_
    refine lk <| WSub_slot rfl (idx_bd hi9) hfd ?_
    refine And.intro hdc ?_
    rw [datas_len]
    refine lk <| WBin_muln rfl (Nat.lt_of_le_of_lt hcl (by decide)) ?_
    refine Exists.intro _ (Exists.intro _ (Exists.intro _ (And.intro rfl (And.intro rfl (And.intro rfl (And.intro (by rw [List.length_map, List.length_range]; exact hi9) ?_))))))
    refine lk <| pM_append tb_ok 30 rfl ?_
    refine And.intro (by rw [List.length_map, List.length_replicate]; exact hi9) ?_
    refine Exists.intro () ⟨by (repeat' (first | exact FrIs.nil | exact FrIs.refl | refine FrIs.cons rfl ?_)), ?_⟩
    rw [hst, ks6_step, List.replicate_succ', List.map_append]
    have hk0 : (kids0 R).length = R.length := by simp [kids0]
    simp [hk0]
    exact ⟨by rw [Nat.min_eq_left (Nat.le_of_lt hi)]; exact Nat.add_comm i 6, rfl, .inr rfl⟩
  · rintro _ own rfl
    have hcl : (((kids0 R).take R.length).map rowO).length = R.length := kids_take (Nat.le_refl _)
    refine lk <| pS_forS (σ := Unit) tb_ok 40 (fun _ => []) (R.length - 1) (fun i => .d (.int i)) (fun i _ own => ∃ X, M2V R i X ∧ own = [.flds ffs, .lst (formsD R.reverse), .refs (ks6 R.length), .lst (sizD (szs R i)), .lst (parsD R.length R.reverse), .lst (placesD R.reverse)] ++ X.map rowO) () _ ?_ (Nat.le_trans (Nat.sub_le _ _) hR9) FrIs.refl ?_ ?_
    · refine lk <| WF_lenS rfl hfl9 ?_
      rw [hfl]
      have hpos := hG.pos
      refine lk <| WF_range (R.length - 1) (cast_pred hpos) ?_
      refine And.intro rfl (Exists.intro (kids0 R) (And.intro (M2V.start R) ?_))
      rw [szs_zero, List.take_of_length_le (by simp [kids0])]
    · rintro C' i _ own hi ⟨X, hM, rfl⟩
      have hil : i < R.length := Nat.lt_of_lt_of_le hi (Nat.sub_le _ _)
      obtain ⟨r, hr⟩ : ∃ r, R.reverse[i]? = some r := ⟨_, List.getElem?_eq_getElem (by rw [List.length_reverse]; exact hil)⟩
      obtain ⟨p, q, hp, hpl, hip, hq, hkid⟩ := hG.par hi hr
      have hqk := oks_len (hG.okr hf hq)
      have hPl : R.length - 1 - p < R.length := sub_lt2 (Nat.zero_lt_of_lt hil)
      obtain ⟨xs, hx⟩ : ∃ xs, X[R.length - 1 - p]? = some xs := ⟨_, List.getElem?_eq_getElem (by rw [hM.1]; exact hPl)⟩
      have hxl := (hM.2 _ _ _ hx hq).1
      have hplace := (List.getElem?_eq_some_iff.mp hkid).1
      have hpd : (parsD R.length R.reverse)[(i : Int).toNat]? = some (.int ((R.length - 1 - p : Nat) : Int)) := by rw [parsD, at_map hr, parUp, hp]; rfl
      have hqd : (placesD R.reverse)[(i : Int).toNat]? = some (.int (r.place : Nat)) := at_map hr
      have hkd : (ks6 R.length)[((R.length - 1 - p : Nat) : Int).toNat]? = some (6 + (R.length - 1 - p)) := by rw [Int.toNat_natCast, List.getElem?_map, List.getElem?_range hPl]; rfl
      have hst := M2V.step hG hr hp hpl hM hx
      have hsz := szs_step hG hr hp hpl
      have hb : ∀ n : Nat, n < R.length → 0 ≤ (n : Int) ∧ (n : Int) < 100000 := fun n h => idx_bd (Nat.le_trans (Nat.le_of_lt h) hR9)
      refine lk <| WSub_slot rfl (hb i hil) hpd ?_
      refine lk <| WSub_ref rfl (hb _ hPl) hkd ?_
      refine lk <| WSub_slot rfl (hb i hil) hqd ?_
      refine lk <| WSet_slotE (row_at rfl hx) (idx_bd (lt_k hplace hqk)) (by rw [Int.toNat_natCast, List.length_map, hxl]; exact hplace) (row_set rfl) ?_
      refine lk <| WSub_slot rfl (hb _ hPl) (szs_at hPl) ?_
      refine lk <| WSub_slot rfl (hb _ hil) (szs_at hil) ?_
      refine lk <| WSet_slot rfl (hb _ hPl) (by rw [Int.toNat_natCast]; simp [szs]; exact hPl) ?_
      refine Exists.intro () ⟨by (repeat' (first | exact FrIs.nil | exact FrIs.refl | refine FrIs.cons rfl ?_)), _, hst, ?_⟩
      have e : (sizD (szs R i)).set (R.length - 1 - p) (.int ((szAt R i (R.length - 1 - p) : Int) + (szAt R i i : Int))) = sizD (szs R (i + 1)) := by rw [← hsz, sizD, sizD, List.map_set]
      rw [Int.toNat_natCast, e]
      rfl
    · rintro _ own ⟨X, hM, rfl⟩
      have hr := rowsOf_ks (A := [.flds ffs, .lst (formsD R.reverse), .refs (ks6 R.length), .lst (sizD (szs R (R.length - 1))), .lst (parsD R.length R.reverse), .lst (placesD R.reverse)]) (X := X) rfl
      rw [hM.1] at hr
      refine Ex_of (own' := [.flds ffs, .lst (formsD R.reverse), .lst (X.map fun x => .list (x.map oN)), .lst (sizD (szs R (R.length - 1))), .lst (parsD R.length R.reverse), .lst (placesD R.reverse)]) rfl ?_ rfl (by simp) ⟨rfl, X, hM, rfl⟩
      show [_, _, (match rowsOf 6 _ (ks6 R.length) with | some xs => MO.lst xs | none => .refs (ks6 R.length)), _, _, _] = _
      rw [hr]
      rfl
noncomputable def flatV (fs : List Form) (ch : List (List Nat)) (ps qs : List PyData) : Fs := .cons "forms" (.d (.list (datas fs))) (.cons "children" (.d (.list (ch.map numD))) (.cons "sizes" (.d (.list (fs.map fun f => .int (f.size : Int)))) (.cons "parents" (.d (.list ps)) (.cons "places" (.d (.list qs)) .nil))))
theorem flat_fn (w : World) {f : Form} (hf : f.ok) (hh : f.height ≤ 3) : Fn w 103 5 50 [.obj 134 0, .d f.data] [.flds .nil] fun r o => r = .d .none ∧ ∃ fs ch ps qs, Flat f fs ch ∧ (∀ x ∈ fs, x.ok) ∧ o = [.flds (flatV fs ch ps qs)] := by
  refine Fn.enters (D := 4) (U := 47) (xs := ["self", "form"]) (by (exact DefAt.of (by k_is) (by k_is) (bnd2 (by intros; exact BindsTo.of_eq rfl)) (by decide +kernel) (by decide +kernel) rfl rfl rfl (by decide +kernel))) rfl rfl (Nat.le_refl _) (Nat.le_refl _) fun C hw => ?_
  refine wpS_ok tb_ok 60 ?_
  iterate 5
    refine lk <| pT_setattr tb_ok 5 (WE_listS (WEs_nil (Exists.intro [] (And.intro rfl (And.intro (Nat.zero_le _) ?_)))))
    refine Exists.intro _ (Exists.intro _ (Exists.intro _ (And.intro rfl (And.intro rfl (And.intro rfl (And.intro (Nat.le_of_ble_eq_true rfl) ?_))))))
  refine lk <| WCall_of (own1 := [.flds ffs, .lst [], .lst [], .lst [], .lst [], .lst []]) (own2 := []) (fun w => gather_fn w hf hh) ?_ rfl rfl rfl rfl rfl
  rintro _ _ - ⟨rfl, R, hG, rfl⟩
  have hR : R.length ≤ 7 := by rw [hG.size0]; exact Form.small hf hh
  refine lk <| WCall_of (own1 := [.flds ffs, .lst (formsD R.reverse), .lst [], .lst [], .lst (parsD R.length R.reverse), .lst (placesD R.reverse)]) (own2 := []) (fun w => measure_fn w hf hG hR) ?_ rfl rfl rfl rfl rfl
  rintro _ _ - ⟨rfl, X, hM, rfl⟩
  obtain ⟨e1, e2, hF⟩ := M2V.flat hG hM
  refine Ex_of rfl rfl rfl (Nat.le_of_ble_eq_true rfl) ⟨rfl, R.reverse.map (·.form), numsOf X, parsD R.length R.reverse, placesD R.reverse, hF, ?_, ?_⟩
  · intro x hx
    obtain ⟨r, hr, rfl⟩ := List.mem_map.mp hx
    obtain ⟨i, hi⟩ := List.mem_iff_getElem?.mp hr
    exact hG.okr hf hi
  · have e3 : formsD R.reverse = datas (R.reverse.map (·.form)) := by rw [datas_map, List.map_map]; rfl
    have e4 : sizD (szs R (R.length - 1)) = (R.reverse.map (·.form)).map fun f => .int (f.size : Int) := by rw [e2, sizD, List.map_map]; rfl
    rw [flatV, ← e1, ← e3, ← e4]
    rfl
end
section
theorem top_fn (w : World) {fs : List Form} {ch : List (List Nat)} {ps qs : List PyData} (hz : fs.length ≤ 7) : Fn w 124 1 10 [.ins 134 (flatV fs ch ps qs)] [] fun r _ => r = .d (.int ((fs.length : Int) - 1)) := by
  refine Fn.enters (D := 0) (U := 7) (xs := ["self"]) (by (exact DefAt.of (by k_is) (by k_is) (bnd1 (by intros; exact BindsTo.of_eq rfl)) (by decide +kernel) (by decide +kernel) rfl rfl rfl (by decide +kernel))) rfl rfl (by omega) (by omega) fun C hw => ?_
  refine wpS_ok tb_ok 60 ?_
  refine And.intro (by rw [datas_len]; omega) ?_
  rw [datas_len]
  exact Ex_d rfl
noncomputable abbrev mfs (F G : Fs) (v : V) : Fs := .cons "one" (.ins 134 F) (.cons "other" (.ins 134 G) (.cons "costs" v .nil))
theorem cost_fn (w : World) {F G : Fs} {l : List (List Int × PyData)} {i j : Int} : Fn w 75 1 10 [.ins 85 (mfs F G (.dI l)), .d (.int i), .d (.int j)] [] fun r _ => r = .d ((dval l [i, j]).getD .none) := by
  refine Fn.enters (D := 0) (U := 7) (xs := ["self", "i", "j"]) (by (exact DefAt.of (by k_is) (by k_is) (bnd3 (by intros; exact BindsTo.of_eq rfl)) (by decide +kernel) (by decide +kernel) rfl rfl rfl (by decide +kernel))) rfl rfl (by omega) (by omega) fun C hw => ?_
  refine wpS_ok tb_ok 60 ?_
  refine lk <| WMeth_getI (wpE_ok tb_ok 20 ?_)
  refine Exists.intro [i, j] (And.intro rfl ?_)
  exact Ex_d rfl
noncomputable def CostsAt (l : List (List Int × PyData)) (fs gs : List Form) : Prop := ∀ i j : Nat, dval l [(i : Int), (j : Int)] = (pairAt fs gs i j).map fun k => .int (k : Nat)
noncomputable abbrev matV (fs gs : List Form) (ch ch' : List (List Nat)) (ps qs ps' qs' : List PyData) (l : List (List Int × PyData)) : Fs := mfs (flatV fs ch ps qs) (flatV gs ch' ps' qs') (.dI l)
theorem lastI {α : Type} {l : List α} {x : α} (h : l[l.length - 1]? = some x) : ((l.length : Int) - 1) = ((l.length - 1 : Nat) : Int) := by
  have := (List.getElem?_eq_some_iff.mp h).1
  omega
theorem sizes_of {fs : List Form} {i : Nat} {f : Form} (h : fs[i]? = some f) : (fs.map fun f => PyData.int (f.size : Int))[((i : Nat) : Int).toNat]? = some (.int (f.size : Nat)) := at_map h
theorem pairAt_of {l r : List Form} {i j : Nat} {f g : Form} (h1 : l[i]? = some f) (h2 : r[j]? = some g) : pairAt l r i j = pairCost f g := by rw [pairAt, h1, h2]
theorem whole_fn (w : World) {f0 g0 : Form} {fs gs : List Form} {ch ch' : List (List Nat)} {ps qs ps' qs' : List PyData} {l : List (List Int × PyData)} (hz : fs.length ≤ 7) (hz' : gs.length ≤ 7) (hf : fs[fs.length - 1]? = some f0) (hg : gs[gs.length - 1]? = some g0) (hl : CostsAt l fs gs) :
    Fn w 82 5 40 [.ins 85 (matV fs gs ch ch' ps qs ps' qs' l)] [] fun r _ => r = .d (.int ((match pairCost f0 g0 with | none => f0.size + g0.size | some k => k : Nat) : Int)) := by
  refine Fn.enters (D := 4) (U := 37) (xs := ["self"]) (by (exact DefAt.of (by k_is) (by k_is) (bnd1 (by intros; exact BindsTo.of_eq rfl)) (by decide +kernel) (by decide +kernel) rfl rfl rfl (by decide +kernel))) rfl rfl (by omega) (by omega) fun C hw => ?_
  have hb : ∀ n : Nat, n ≤ 7 → 0 ≤ ((n - 1 : Nat) : Int) ∧ ((n - 1 : Nat) : Int) < 100000 := fun n h => ⟨Int.natCast_nonneg _, by omega⟩
  refine wpS_ok tb_ok 60 ?_
  refine lk <| pT_swap2 tb_ok 30 ?_
  refine lk <| WCall_read (fun w => top_fn w hz) ?_ rfl rfl rfl
  rintro _ rfl
  refine lk <| WCall_read (fun w => top_fn w hz') ?_ rfl rfl rfl
  rintro _ rfl
  rw [lastI hf, lastI hg]
  refine lk <| WCall_read (fun w => cost_fn w) ?_ rfl rfl rfl
  intro d hd
  have hv := hl (fs.length - 1) (gs.length - 1)
  rw [pairAt_of hf hg] at hv
  rw [hv] at hd
  cases e : pairCost f0 g0 with
  | none =>
    rw [e] at hd
    subst hd
    refine lk <| WSub_lst (hb _ hz) (sizes_of hf) ?_
    refine lk <| WSub_lst (hb _ hz') (sizes_of hg) ?_
    refine Ex_d ?_
    rfl
  | some k =>
    rw [e] at hd
    subst hd
    refine Ex_d ?_
    rfl
end
section
noncomputable def SelfIs (a : V) (own : List MO) (F G : Fs) (l : List (List Int × PyData)) : Prop := a = .ins 85 (mfs F G (.dI l)) ∨ (a = .obj 85 0 ∧ ∃ t, own = .flds (mfs F G (.slot 1)) :: .dI l :: t)
noncomputable def CostsIs (v : V) (own : List MO) (l : List (List Int × PyData)) : Prop := v = .dI l ∨ (v = .slot 1 ∧ ∃ m t, own = m :: .dI l :: t)
theorem SelfIs.app {a : V} {own t : List MO} {F G : Fs} {l : List (List Int × PyData)} (h : SelfIs a own F G l) : SelfIs a (own ++ t) F G l := by
  rcases h with h | ⟨h, t', rfl⟩
  · exact .inl h
  · exact .inr ⟨h, t' ++ t, rfl⟩
section
variable {sc : Scope} {D U : Nat} {C : Cx sc D U} {fr : Fm} {own : List MO} {P : V → List MO → Prop} {a : V} {F G : Fs} {l : List (List Int × PyData)}
theorem rd_one (hs : SelfIs a own F G l) (h : P (.ins 134 F) own) : pAttr tb C fr "one" a own P := by
  rcases hs with rfl | ⟨rfl, t, rfl⟩ <;> exact h
theorem rd_other (hs : SelfIs a own F G l) (h : P (.ins 134 G) own) : pAttr tb C fr "other" a own P := by
  rcases hs with rfl | ⟨rfl, t, rfl⟩ <;> exact h
theorem rd_costs (hs : SelfIs a own F G l) (h : ∀ v, CostsIs v own l → P v own) : pAttr tb C fr "costs" a own P := by
  rcases hs with rfl | ⟨rfl, t, rfl⟩
  · exact h _ (.inl rfl)
  · exact h _ (.inr ⟨rfl, _, t, rfl⟩)
theorem get_costs {e : Expr} {evs : List MO → (List V → List MO → Prop) → Prop} {v : V} (hU : Nat.ble 1 U = true) (hv : CostsIs v own l) (h : WE C e fr own fun d o => ∃ ks, d = .d (.tuple (ks.map .int)) ∧ o = own ∧ P (.d ((dval l ks).getD .none)) own) (he : plainE e = true := by rfl) : pCallM tb C fr "get" [e] evs v own P := by
  have hp : [e].all plainE = true := by rw [List.all_cons, he]; rfl
  unfold pCallM
  rw [hp]
  rcases hv with rfl | ⟨rfl, m, t, rfl⟩
  · exact lk <| WMeth_getI (h.mono fun d o ⟨ks, e, ho, hP⟩ => ⟨ks, e, by rw [ho]; exact hP⟩) he hU
  · exact lk <| WMeth_getIs rfl (h.mono fun d o ⟨ks, e, ho, hP⟩ => ⟨ks, l, e, by rw [ho]; rfl, by rw [ho]; exact hP⟩) he hU
theorem at_app {k : Nat} {t : List MO} : (own ++ t)[own.length + k]? = t[k]? := by rw [List.getElem?_append_right (Nat.le_add_right _ _), Nat.add_sub_cancel_left]
theorem at_app0 {t : List MO} : (own ++ t)[own.length]? = t[0]? := at_app (k := 0)
theorem set_app {k : Nat} {t : List MO} {x : MO} : (own ++ t).set (own.length + k) x = own ++ t.set k x := by rw [List.set_append_right _ _ (Nat.le_add_right _ _), Nat.add_sub_cancel_left]
theorem set_app0 {t : List MO} {x : MO} : (own ++ t).set own.length x = own ++ t.set 0 x := set_app (k := 0)
theorem WMeth_appendE {k : Nat} {e : Expr} {l0 : List PyData} (h0 : own[k]? = some (.lst l0)) (h : WE C e fr own fun d o => ∃ x l o', d = .d x ∧ o[k]? = some (.lst l) ∧ l.length ≤ 1000 ∧ o.set k (.lst (l ++ [x])) = o' ∧ P (.d .none) o') (he : plainE e = true := by rfl) : WMeth C "append" (.slot k) [e] fr own P :=
  WMeth_append h0 (h.mono fun _ _ ⟨x, l, _, a, b, c, e, p⟩ => ⟨x, l, a, b, c, by rw [e]; exact p⟩) he
end
noncomputable abbrev rowL (l r : List Form) (p n : Nat) : List PyData := (rowF l r p n).map .int
theorem rowL_len {l r : List Form} {p n : Nat} : (rowL l r p n).length = n := by rw [List.length_map, rowF_len]
theorem rowL_succ (l r : List Form) (p n : Nat) : rowL l r p (n + 1) = rowL l r p n ++ [.int (tabF l r p n : Nat)] := by rw [rowL, rowF_succ, List.map_append]; rfl
theorem rowL_get {l r : List Form} {p n q : Nat} (h : q < n) : (rowL l r p n)[q]? = some (.int (tabF l r p q : Nat)) := by rw [List.getElem?_map, rowF_get h]; rfl
theorem rowL_zero (l r : List Form) : rowL l r 0 1 = [.int 0] := by simp [rowL, rowF, tabF_00]
noncomputable def slotOf (m : Nat) : Nat → Nat
  | 0 => m
  | p + 1 => m + (2 + p)
noncomputable abbrev ksT (m p : Nat) : List Nat := (List.range (p + 1)).map (slotOf m)
noncomputable def tabT (m : Nat) (l r : List Form) (p : Nat) : List MO := [.lst (rowL l r 0 (r.length + 1)), .refs (ksT m p)] ++ (List.range p).map fun q => .lst (rowL l r (q + 1) (r.length + 1))
theorem ksT_get {m p q : Nat} (h : q ≤ p) : (ksT m p)[((q : Nat) : Int).toNat]? = some (slotOf m q) := by rw [Int.toNat_natCast, List.getElem?_map, List.getElem?_range (by omega)]; rfl
theorem tabT_get {own e : List MO} {l r : List Form} {p q : Nat} (h : q ≤ p) : (own ++ (tabT own.length l r p ++ e))[slotOf own.length q]? = some (.lst (rowL l r q (r.length + 1))) := by
  cases q with
  | zero => rw [slotOf, at_app0]; rfl
  | succ q =>
    rw [slotOf, at_app, List.getElem?_append_left (by simp [tabT]; omega), tabT, List.getElem?_append_right (by simp)]
    simp only [List.length_cons, List.length_nil]
    rw [Nat.add_sub_cancel_left, List.getElem?_map, List.getElem?_range (by omega)]
    rfl
theorem tabT_get0 {own : List MO} {l r : List Form} {p q : Nat} (h : q ≤ p) : (own ++ tabT own.length l r p)[slotOf own.length q]? = some (.lst (rowL l r q (r.length + 1))) := by
  have := tabT_get (own := own) (e := []) (l := l) (r := r) h
  rwa [List.append_nil] at this
theorem tabT_len {m p : Nat} {l r : List Form} : (tabT m l r p).length = 2 + p := by simp [tabT]; omega
theorem tabT_row {own : List MO} {l r : List Form} {p : Nat} {x : MO} : (own ++ (tabT own.length l r p ++ [x]))[own.length + (2 + p)]? = some x := by
  rw [at_app, List.getElem?_append_right (by rw [tabT_len]; omega), tabT_len, Nat.sub_self]; rfl
theorem tabT_set {own : List MO} {l r : List Form} {p : Nat} {x y : MO} : (own ++ (tabT own.length l r p ++ [x])).set (own.length + (2 + p)) y = own ++ (tabT own.length l r p ++ [y]) := by
  rw [set_app, List.set_append_right _ _ (by rw [tabT_len]; omega), tabT_len, Nat.sub_self]; rfl
theorem tabT_next {own : List MO} {l r : List Form} {p : Nat} : (own ++ (tabT own.length l r p ++ [MO.lst (rowL l r (p + 1) (r.length + 1))])).set (own.length + 1) (MO.refs (ksT own.length p ++ [own.length + (2 + p)])) = own ++ tabT own.length l r (p + 1) := by
  have e : ksT own.length p ++ [own.length + (2 + p)] = ksT own.length (p + 1) := by rw [ksT, ksT, List.range_succ (n := p + 1), List.map_append]; rfl
  rw [set_app, e, tabT, tabT, List.range_succ (n := p), List.map_append, List.map_cons, List.map_nil, List.append_assoc]
  rfl
theorem tabT_frz {own : List MO} {l r : List Form} {p : Nat} : V.frz own.length (own ++ tabT own.length l r p) (.slot (own.length + 1)) = .d (.list ((List.range (p + 1)).map fun q => .list (rowL l r q (r.length + 1)))) := by
  have h := rowsOf_map (n := own.length) (own := own ++ tabT own.length l r p) (l := (List.range (p + 1)).map fun q => (slotOf own.length q, rowL l r q (r.length + 1))) fun x hx => by
    obtain ⟨q, hq, rfl⟩ := List.mem_map.mp hx
    have hq := List.mem_range.mp hq
    exact ⟨by cases q <;> simp [slotOf], tabT_get0 (by omega)⟩
  rw [List.map_map, List.map_map] at h
  show V.frz0 _ _ (.slot (own.length + 1)) = _
  rw [V.frz0, if_neg (by omega), at_app (k := 1)]
  show (match rowsOf own.length _ (ksT own.length p) with | some xs => V.d (.list xs) | none => _) = _
  rw [show rowsOf own.length (own ++ tabT own.length l r p) (ksT own.length p) = _ from h]
  rfl
theorem numD_at {ch : List (List Nat)} {i : Nat} {c : List Nat} (h : ch[i]? = some c) : (ch.map numD)[((i : Nat) : Int).toNat]? = some (.list (c.map fun (k : Nat) => .int (k : Int))) := at_map h
theorem rowL_le {l r : List Form} {p n : Nat} (h : n ≤ 3) : (rowL l r p n).length ≤ 1000 := by rw [rowL_len]; exact Nat.le_trans h (by decide)
theorem lt7 {a b n : Nat} (h : a < b) (hb : b ≤ n) (hn : Nat.ble n 7 = true := by rfl) : a < 7 := Nat.lt_of_lt_of_le h (Nat.le_trans hb (Nat.le_of_ble_eq_true hn))
theorem table_fn (w : World) {a : V} {own0 : List MO} {f0 g0 f g : Form} {fs gs : List Form} {ch ch' : List (List Nat)} {ps qs ps' qs' : List PyData} {l : List (List Int × PyData)} {i j : Nat} {ci cj : List Nat} (hF : Flat f0 fs ch) (hG : Flat g0 gs ch') (hz : fs.length ≤ 7) (hz' : gs.length ≤ 7)
    (hs : SelfIs a own0 (flatV fs ch ps qs) (flatV gs ch' ps' qs') l) (hi : fs[i]? = some f) (hj : gs[j]? = some g) (hc : ch[i]? = some ci) (hc' : ch'[j]? = some cj) (hval : ∀ (p q x y : Nat), ci[p]? = some x → cj[q]? = some y → dval l [(x : Int), (y : Int)] = (pairAt f.kids g.kids p q).map fun k => .int (k : Nat)) (hk1 : f.kids.length ≤ 2) (hk2 : g.kids.length ≤ 2) (hex : ∀ t, exitO own0.length (own0 ++ t) = own0) (hbd : own0.all (MO.bd own0.length) = true) :
    Fn w 61 5 60 [a, .d (.int (i : Nat)), .d (.int (j : Nat))] own0 fun r o => r = .d (.list ((List.range (f.kids.length + 1)).map fun p => .list (rowL f.kids g.kids p (g.kids.length + 1)))) ∧ o = own0 := by
  refine Fn.enters (D := 4) (U := 57) (xs := ["self", "i", "j"]) (by (exact DefAt.of (by k_is) (by k_is) (bnd3 (by intros; exact BindsTo.of_eq rfl)) (by decide +kernel) (by decide +kernel) rfl rfl rfl (by decide +kernel))) rfl ?_ (Nat.le_refl _) (Nat.le_refl _) fun C hw => ?_
  · rcases hs with rfl | ⟨rfl, _⟩ <;> rfl
  have hb : ∀ n : Nat, n < 7 → 0 ≤ (n : Int) ∧ (n : Int) < 100000 := fun n h => ⟨Int.natCast_nonneg _, by omega⟩
  have hil := (List.getElem?_eq_some_iff.mp hi).1
  have hjl := (List.getElem?_eq_some_iff.mp hj).1
  obtain ⟨hl1, hkid1⟩ := hF.kids i f ci hi hc
  obtain ⟨hl2, hkid2⟩ := hG.kids j g cj hj hc'
  have hcl : ci.length ≤ 2 := by rw [hl1]; exact hk1
  have hcl' : cj.length ≤ 2 := by rw [hl2]; exact hk2
  have hi7 := lt7 hil hz
  have hj7 := lt7 hjl hz'
  have h07 : 0 < 7 := by decide
  clear hi hj
  have hca : a.isCel = false := by rcases hs with rfl | ⟨rfl, _⟩ <;> rfl
  refine wpS_ok tb_ok 60 ?_
  have hcb : (!a.isCel && !dbg (Str.ofString "self")) = true := by rw [hca]; rfl
  refine lk <| pT_swap2 tb_ok 30 ?_
  refine bT hcb ?_
  refine rd_one hs ?_
  refine lk <| WSub_lst (hb i hi7) (numD_at hc) ?_
  refine bT hcb ?_
  refine rd_other hs ?_
  refine lk <| WSub_lst (hb j hj7) (numD_at hc') ?_
  refine lk <| WE_listR (wpEs_ok tb_ok 5 ?_)
  refine lk <| pE_listS tb_ok 5 ?_
  refine Exists.intro [own0.length] (And.intro rfl (And.intro (Nat.le_of_ble_eq_true rfl) ?_))
  rw [List.length_append, List.append_assoc]
  refine lk <| pS_forS (σ := Unit) tb_ok 40 (fun _ => []) cj.length (fun y => .d ((cj.map fun (k : Nat) => PyData.int (k : Int)).getD y .none)) (fun n _ own => own = own0 ++ [.lst (rowL f.kids g.kids 0 (n + 1)), .refs [own0.length]]) () [("rows", .slot (own0.length + 1)), ("theirs", .d (.list (cj.map fun (k : Nat) => .int (k : Int)))), ("ours", .d (.list (ci.map fun (k : Nat) => .int (k : Int)))), ("self", a)] ?_ (Nat.le_trans hcl' (by decide)) (by (repeat' (first | exact FrIs.nil | exact FrIs.refl | refine FrIs.cons rfl ?_))) ?_ ?_
  · refine And.intro (by rw [iterD, List.length_map]) ?_
    rw [rowL_zero]
    rfl
  · rintro C' n _ own hn rfl
    obtain ⟨y, hy⟩ : ∃ y, cj[n]? = some y := ⟨_, List.getElem?_eq_getElem hn⟩
    obtain ⟨hyj, gy, hgy, hky⟩ := hkid2 n y hy
    have hyl := (List.getElem?_eq_some_iff.mp hgy).1
    have hd : (cj.map fun (k : Nat) => PyData.int (k : Int)).getD n .none = .int (y : Nat) := by rw [List.getD_eq_getElem?_getD, List.getElem?_map, hy]; rfl
    rw [hd]
    refine lk <| WSub_ref (at_app (k := 1)) (hb 0 h07) rfl ?_
    refine lk <| WMeth_appendE at_app0 (wpE_ok tb_ok 30 ?_)
    refine lk <| WSub_ref (at_app (k := 1)) (hb 0 h07) rfl ?_
    refine lk <| WSub_slotLast at_app0 (x := .int (tabF f.kids g.kids 0 n : Nat)) ?_ ?_ ?_
    · rw [rowL_len]; exact rowL_get (Nat.lt_succ_self _)
    · exact Nat.lt_of_le_of_lt (rowL_le (Nat.succ_le_succ (Nat.le_trans (Nat.le_of_lt hn) hcl'))) (by decide)
    refine bT hcb ?_
    refine rd_other hs.app ?_
    refine lk <| WSub_lst (hb y (lt7 hyl hz')) (sizes_of hgy) ?_
    refine Exists.intro _ (Exists.intro _ (Exists.intro _ (And.intro rfl (And.intro at_app0 (And.intro ?_ (And.intro set_app0 ?_))))))
    · exact rowL_le (Nat.succ_le_succ (Nat.le_trans (Nat.le_of_lt hn) hcl'))
    refine Exists.intro () ⟨by (repeat' (first | exact FrIs.nil | exact FrIs.refl | refine FrIs.cons rfl ?_)), ?_⟩
    rw [rowL_succ _ _ _ (n + 1), tabF_0s, sizeAt, hky]
    rfl
  · rintro _ own rfl
    rw [hl2]
    refine lk <| pS_forS (σ := Unit) tb_ok 40 (fun _ => []) ci.length (fun p => .d (.int p)) (fun p _ own => own = own0 ++ tabT own0.length f.kids g.kids p) () [("rows", .slot (own0.length + 1)), ("theirs", .d (.list (cj.map fun (k : Nat) => .int (k : Int)))), ("ours", .d (.list (ci.map fun (k : Nat) => .int (k : Int)))), ("self", a)] ?_ (Nat.le_trans hcl (by decide)) (by (repeat' (first | exact FrIs.nil | exact FrIs.refl | refine FrIs.cons rfl ?_))) ?_ ?_
    · refine And.intro (mapLen hcl) ?_
      rw [List.length_map]
      refine lk <| WF_range ci.length rfl ?_
      exact And.intro rfl rfl
    · rintro C' p _ own hp rfl
      obtain ⟨x, hx⟩ : ∃ x, ci[p]? = some x := ⟨_, List.getElem?_eq_getElem hp⟩
      obtain ⟨hxi, fx, hfx, hkx⟩ := hkid1 p x hx
      have hxl := (List.getElem?_eq_some_iff.mp hfx).1
      have hp7 := lt7 hp hcl
      have hxd : (ci.map fun (k : Nat) => PyData.int (k : Int))[((p : Nat) : Int).toNat]? = some (.int (x : Nat)) := at_map hx
      refine bT hcb ?_
      refine rd_one hs.app ?_
      refine lk <| WSub_lst (hb p hp7) hxd ?_
      refine lk <| WSub_lst (hb x (lt7 hxl hz)) (sizes_of hfx) ?_
      refine lk <| WE_listS (wpEs_ok tb_ok 20 ?_)
      refine lk <| WSub_ref (at_app (k := 1)) (hb p hp7) (ksT_get (Nat.le_refl p)) ?_
      refine lk <| WSub_slot (x := .int (tabF f.kids g.kids p 0 : Nat)) (tabT_get0 (Nat.le_refl p)) (hb 0 h07) (rowL_get (q := 0) (Nat.succ_pos _)) ?_
      refine Exists.intro _ (And.intro rfl (And.intro (Nat.le_of_ble_eq_true rfl) ?_))
      rw [List.length_append, tabT_len, List.append_assoc]
      refine lk <| pS_forS (σ := Unit) tb_ok 40 (fun _ => []) cj.length (fun q => .d (.int q)) (fun q _ own => own = own0 ++ (tabT own0.length f.kids g.kids p ++ [.lst (rowL f.kids g.kids (p + 1) (q + 1))])) () [("row", .slot (own0.length + (2 + p))), ("size", .d (.int (fx.size : Nat))), ("p", .d (.int (p : Nat))), ("rows", .slot (own0.length + 1)), ("theirs", .d (.list (cj.map fun (k : Nat) => .int (k : Int)))), ("ours", .d (.list (ci.map fun (k : Nat) => .int (k : Int)))), ("self", a)] ?_ (Nat.le_trans hcl' (by decide)) (by (repeat' (first | exact FrIs.nil | exact FrIs.refl | refine FrIs.cons rfl ?_))) ?_ ?_
      · refine And.intro (mapLen hcl') ?_
        rw [List.length_map]
        refine lk <| WF_range cj.length rfl ?_
        refine And.intro rfl ?_
        rw [rowL_succ, tabF_s0, sizeAt, hkx]
        rfl
      · rintro C'' q _ own hq rfl
        obtain ⟨y, hy⟩ : ∃ y, cj[q]? = some y := ⟨_, List.getElem?_eq_getElem hq⟩
        obtain ⟨hyj, gy, hgy, hky⟩ := hkid2 q y hy
        have hyl := (List.getElem?_eq_some_iff.mp hgy).1
        have hq7 := lt7 hq hcl'
        have hq' : q < g.kids.length := by rw [← hl2]; exact hq
        have hrl : (rowL f.kids g.kids (p + 1) (q + 1)).length ≤ 1000 := rowL_le (Nat.succ_le_succ (Nat.le_trans (Nat.le_of_lt hq) hcl'))
        have hyd : (cj.map fun (k : Nat) => PyData.int (k : Int))[((q : Nat) : Int).toNat]? = some (.int (y : Nat)) := at_map hy
        have hq1 : (rowL f.kids g.kids p (g.kids.length + 1))[((q : Nat) + 1 : Int).toNat]? = some (.int (tabF f.kids g.kids p (q + 1) : Nat)) := rowL_get (q := q + 1) (Nat.succ_lt_succ hq')
        have hb1 : 0 ≤ (q : Int) + 1 ∧ (q : Int) + 1 < 100000 := hb (q + 1) (lt7 (Nat.succ_lt_succ hq') (Nat.succ_le_succ hk2))
        have e1 : sizeAt f.kids p = fx.size := by rw [sizeAt, hkx]
        have e2 : sizeAt g.kids q = gy.size := by rw [sizeAt, hky]
        refine lk <| WSub_ref (at_app (k := 1)) (hb p hp7) (ksT_get (Nat.le_refl p)) ?_
        refine lk <| WSub_slot (tabT_get (Nat.le_refl p)) hb1 hq1 ?_
        refine lk <| WSub_slot tabT_row (hb q hq7) (rowL_get (q := q) (Nat.lt_succ_self q)) ?_
        refine bT hcb ?_
        refine rd_other hs.app ?_
        refine lk <| WSub_lst (hb q hq7) hyd ?_
        refine lk <| WSub_lst (hb y (lt7 hyl hz')) (sizes_of hgy) ?_
        refine bT hcb ?_
        refine rd_costs hs.app fun v hv => ?_
        refine get_costs rfl hv (wpE_ok tb_ok 20 ?_)
        refine lk <| WSub_lst (hb p hp7) hxd ?_
        refine lk <| WSub_lst (hb q hq7) hyd ?_
        refine Exists.intro [(x : Int), (y : Int)] (And.intro rfl (And.intro rfl ?_))
        rw [hval p q x y hx hy]
        cases e : pairAt f.kids g.kids p q with
        | none =>
          refine lk <| WMeth_appendE tabT_row (wpE_ok tb_ok 30 ?_)
          refine Exists.intro _ (Exists.intro _ (Exists.intro _ (And.intro rfl (And.intro tabT_row (And.intro hrl (And.intro tabT_set ?_))))))
          refine Exists.intro () ⟨by (repeat' (first | exact FrIs.nil | exact FrIs.refl | refine FrIs.cons rfl ?_)), ?_⟩
          rw [rowL_succ _ _ _ (q + 1), ← tabI_none e e1 e2]
        | some k =>
          refine lk <| WSub_ref (at_app (k := 1)) (hb p hp7) (ksT_get (Nat.le_refl p)) ?_
          refine lk <| WSub_slot (tabT_get (Nat.le_refl p)) (hb q hq7) (rowL_get (q := q) (Nat.lt_succ_of_lt hq')) ?_
          by_cases hlt : (tabF f.kids g.kids p q : Int) + (k : Int) < if (tabF f.kids g.kids (p + 1) q : Int) + (gy.size : Int) < (tabF f.kids g.kids p (q + 1) : Int) + (fx.size : Int) then (tabF f.kids g.kids (p + 1) q : Int) + (gy.size : Int) else (tabF f.kids g.kids p (q + 1) : Int) + (fx.size : Int)
          · refine bT (decide_eq_true hlt) ?_
            refine lk <| WSub_ref (at_app (k := 1)) (hb p hp7) (ksT_get (Nat.le_refl p)) ?_
            refine lk <| WSub_slot (tabT_get (Nat.le_refl p)) (hb q hq7) (rowL_get (q := q) (Nat.lt_succ_of_lt hq')) ?_
            refine lk <| WMeth_appendE tabT_row (wpE_ok tb_ok 30 ?_)
            refine Exists.intro _ (Exists.intro _ (Exists.intro _ (And.intro rfl (And.intro tabT_row (And.intro hrl (And.intro tabT_set ?_))))))
            refine Exists.intro () ⟨by (repeat' (first | exact FrIs.nil | exact FrIs.refl | refine FrIs.cons rfl ?_)), ?_⟩
            rw [rowL_succ _ _ _ (q + 1), ← tabI_lt e e1 e2 hlt]
          · refine bF (decide_eq_false hlt) ?_
            refine lk <| WMeth_appendE tabT_row (wpE_ok tb_ok 30 ?_)
            refine Exists.intro _ (Exists.intro _ (Exists.intro _ (And.intro rfl (And.intro tabT_row (And.intro hrl (And.intro tabT_set ?_))))))
            refine Exists.intro () ⟨by (repeat' (first | exact FrIs.nil | exact FrIs.refl | refine FrIs.cons rfl ?_)), ?_⟩
            rw [rowL_succ _ _ _ (q + 1), ← tabI_ge e e1 e2 hlt]
      · rintro _ own rfl
        rw [hl2]
        refine lk <| WMeth_appendR (at_app (k := 1)) rfl (wpE_ok tb_ok 30 ?_)
        refine Exists.intro _ (Exists.intro _ (Exists.intro _ (And.intro rfl (And.intro (at_app (k := 1)) (And.intro rfl (And.intro ?_ ?_))))))
        · rw [List.length_map, List.length_range]; exact Nat.le_trans (Nat.succ_le_of_lt hp) (Nat.le_trans hcl (by decide))
        rw [tabT_next]
        exact Exists.intro () ⟨by (repeat' (first | exact FrIs.nil | exact FrIs.refl | refine FrIs.cons rfl ?_)), rfl⟩
    · rintro _ own rfl
      refine Ex_of (own' := own0) (by rw [tabT_frz]; rfl) (hex _) hbd (by simp) ?_
      rw [tabT_frz, hl1]
      exact ⟨rfl, rfl⟩
end
section
theorem forms_at {fs : List Form} {i : Nat} {f : Form} (h : fs[i]? = some f) : (datas fs)[((i : Nat) : Int).toNat]? = some f.data := by rw [datas_map]; exact at_map h
theorem valC_no {x y : Nat} : ¬ (x < 0 ∨ (x = 0 ∧ y < 0)) := by omega
theorem tab_lt {n : Nat} {g : Nat → PyData} (h : n ≤ 2) : ((List.range (n + 1)).map g).length < 100000 := by rw [List.length_map, List.length_range]; omega
theorem len_ij {n i j a b : Nat} (h : n ≤ i * 7 + j) (hi : i < a) (hj : j < b) (ha : a ≤ 7) (hb : b ≤ 7) : n ≤ 900 := by omega
theorem len_row {n i b : Nat} (h : n ≤ i * 7 + b) (hb : b ≤ 7) : n ≤ (i + 1) * 7 := by omega
theorem match_fn (w : World) {f0 g0 : Form} {fs gs : List Form} {ch ch' : List (List Nat)} {ps qs ps' qs' : List PyData} (hF : Flat f0 fs ch) (hG : Flat g0 gs ch') (hz : fs.length ≤ 7) (hz' : gs.length ≤ 7) (hof : ∀ x ∈ fs, x.ok) (hog : ∀ x ∈ gs, x.ok) :
    Fn w 54 8 150 [.obj 85 0, .ins 134 (flatV fs ch ps qs), .ins 134 (flatV gs ch' ps' qs')] [.flds .nil] fun r o => r = .d .none ∧ ∃ l, CostsAt l fs gs ∧ o = [.flds (mfs (flatV fs ch ps qs) (flatV gs ch' ps' qs') (.dI l))] := by
  refine Fn.enters (D := 7) (U := 147) (xs := ["self", "one", "other"]) (by (exact DefAt.of (by k_is) (by k_is) (bnd3 (by intros; exact BindsTo.of_eq rfl)) (by decide +kernel) (by decide +kernel) rfl rfl rfl (by decide +kernel))) rfl rfl (Nat.le_refl _) (Nat.le_refl _) fun C hw => ?_
  have hz9 := Nat.le_trans hz (by decide : 7 ≤ 1000)
  have hz9' := Nat.le_trans hz' (by decide : 7 ≤ 1000)
  refine wpS_ok tb_ok 60 ?_
  refine lk <| pT_setattr tb_ok 5 (wpE_ok tb_ok 5 ?_)
  refine Exists.intro _ (Exists.intro _ (Exists.intro _ (And.intro rfl (And.intro rfl (And.intro rfl (And.intro (Nat.le_of_ble_eq_true rfl) ?_))))))
  refine lk <| pT_setattr tb_ok 5 (wpE_ok tb_ok 5 ?_)
  refine Exists.intro _ (Exists.intro _ (Exists.intro _ (And.intro rfl (And.intro rfl (And.intro rfl (And.intro (Nat.le_of_ble_eq_true rfl) ?_))))))
  refine lk <| pT_setattr tb_ok 5 (WE_dict0 ?_)
  refine Exists.intro _ (Exists.intro _ (Exists.intro _ (And.intro rfl (And.intro rfl (And.intro rfl (And.intro (Nat.le_of_ble_eq_true rfl) ?_))))))
  refine lk <| pS_forS (σ := Unit) tb_ok 60 (fun _ => []) fs.length (fun i => .d (.int i)) (fun i _ own => ∃ l, CostsTo l fs gs i 0 ∧ l.length ≤ i * 7 ∧ own = [.flds (mfs (flatV fs ch ps qs) (flatV gs ch' ps' qs') (.slot 1)), .dI l]) () _ ?_ hz9 FrIs.refl ?_ ?_
  · refine And.intro (by rw [datas_len]; exact hz9) ?_
    rw [datas_len]
    refine lk <| WF_range fs.length rfl ?_
    refine And.intro rfl (Exists.intro [] ⟨fun x y => ?_, Nat.zero_le _, rfl⟩)
    rw [valC, if_neg valC_no]
    rfl
  · rintro C' i _ own hi ⟨l, hl, hln, rfl⟩
    obtain ⟨f, hf⟩ : ∃ f, fs[i]? = some f := ⟨_, List.getElem?_eq_getElem hi⟩
    obtain ⟨ci, hc⟩ : ∃ c, ch[i]? = some c := ⟨_, List.getElem?_eq_getElem (by rw [hF.len]; exact hi)⟩
    obtain ⟨hl1, hkid1⟩ := hF.kids i f ci hf hc
    have hfo := hof f (List.mem_of_getElem? hf)
    refine lk <| pS_forS (σ := Unit) tb_ok 60 (fun _ => []) gs.length (fun j => .d (.int j)) (fun j _ own => ∃ l, CostsTo l fs gs i j ∧ l.length ≤ i * 7 + j ∧ own = [.flds (mfs (flatV fs ch ps qs) (flatV gs ch' ps' qs') (.slot 1)), .dI l]) () _ ?_ hz9' FrIs.refl ?_ ?_
    · refine And.intro (by rw [datas_len]; exact hz9') ?_
      rw [datas_len]
      refine lk <| WF_range gs.length rfl ?_
      exact And.intro rfl (Exists.intro l ⟨hl, hln, rfl⟩)
    · rintro C'' j _ own hj ⟨l, hl, hln, rfl⟩
      obtain ⟨g, hg⟩ : ∃ g, gs[j]? = some g := ⟨_, List.getElem?_eq_getElem hj⟩
      obtain ⟨cj, hc'⟩ : ∃ c, ch'[j]? = some c := ⟨_, List.getElem?_eq_getElem (by rw [hG.len]; exact hj)⟩
      obtain ⟨hl2, hkid2⟩ := hG.kids j g cj hg hc'
      have hgo := hog g (List.mem_of_getElem? hg)
      have hpc := pairCost_eq f g
      rw [← pairAt_some hf hg] at hpc
      refine lk <| WSub_lstN i (forms_at hf) (lt_k hi hz) ?_
      refine lk <| WSub_lstN j (forms_at hg) (lt_k hj hz') ?_
      refine lk <| WCall_read (fun w => may_fn w hfo hgo) ?_ rfl rfl rfl
      rintro _ rfl
      cases hm : mayMatch f g with
      | false =>
        rw [hm] at hpc
        exact Exists.intro () ⟨by (repeat' (first | exact FrIs.nil | exact FrIs.refl | refine FrIs.cons rfl ?_)), l, hl.skip hpc, Nat.le_succ_of_le hln, rfl⟩
      | true =>
        rw [hm] at hpc
        refine lk <| WSub_lstN i (forms_at hf) (lt_k hi hz) ?_
        refine lk <| WSub_lstN j (forms_at hg) (lt_k hj hz') ?_
        refine lk <| WCall_read (fun w => own_fn w hfo hgo) ?_ rfl rfl rfl
        rintro _ rfl
        have hval : ∀ (p q x y : Nat), ci[p]? = some x → cj[q]? = some y → dval l [(x : Int), (y : Int)] = (pairAt f.kids g.kids p q).map fun k => .int (k : Nat) := fun p q x y hx hy => by
          obtain ⟨hxi, fx, hfx, hkx⟩ := hkid1 p x hx
          obtain ⟨_, gy, hgy, hky⟩ := hkid2 q y hy
          rw [hl x y, valC, if_pos (.inl hxi), pairAt_some hfx hgy, pairAt_some hkx hky]
        refine lk <| WCall_of (own1 := [.flds (mfs (flatV fs ch ps qs) (flatV gs ch' ps' qs') (.slot 1)), .dI l]) (own2 := []) (fun w => table_fn w hF hG hz hz' (.inr ⟨rfl, [], rfl⟩) hf hg hc hc' hval (oks_len hfo) (oks_len hgo) (fun _ => rfl) rfl) ?_ rfl rfl rfl rfl rfl
        rintro _ _ - ⟨rfl, rfl⟩
        refine lk <| WSub_last (x := .list (rowL f.kids g.kids f.kids.length (g.kids.length + 1))) (by simp) (tab_lt (oks_len hfo)) ?_
        refine lk <| WSub_last (x := .int (least f.kids g.kids : Nat)) ?_ (Nat.lt_of_le_of_lt (rowL_le (Nat.succ_le_succ (oks_len hgo))) (by decide)) ?_
        · rw [rowL_len, ← tab_least f.kids g.kids (oks_len hfo) (oks_len hgo)]
          exact rowL_get (Nat.lt_succ_self _)
        obtain ⟨h0, hput⟩ := hl.put (hpc.trans (if_pos rfl))
        refine lk <| WSet_dict (ks := [(i : Int), (j : Int)]) rfl h0 (len_ij hln hi hj hz hz') ?_
        exact Exists.intro () ⟨by (repeat' (first | exact FrIs.nil | exact FrIs.refl | refine FrIs.cons rfl ?_)), _, hput, by rw [List.length_append]; exact Nat.succ_le_succ hln, rfl⟩
    · rintro _ own ⟨l, hl, hln, rfl⟩
      refine Exists.intro () ⟨by (repeat' (first | exact FrIs.nil | exact FrIs.refl | refine FrIs.cons rfl ?_)), l, fun x y => by rw [hl x y, valC_row], len_row hln hz', rfl⟩
  · rintro _ own ⟨l, hl, hln, rfl⟩
    refine Ex_of rfl rfl rfl (Nat.le_of_ble_eq_true rfl) ⟨rfl, l, fun x y => by rw [hl x y, valC_all], rfl⟩
end
section
theorem pred_cast (p : Nat) : (((p + 1 : Nat) : Int) - 1) = (p : Int) := by omega
structure SSt where
  p : Nat
  q : Nat
  sts : List Stp
noncomputable def stepJ (l r : List Form) (c : SSt) (own : List MO) : Prop := own = [.lst (c.sts.map Stp.data)] ∧ run l r c.sts.reverse c.p c.q (tabF l r c.p c.q) = some (l.length, r.length, tabF l r l.length r.length) ∧ c.p ≤ l.length ∧ c.q ≤ r.length ∧ c.sts.length + c.p + c.q ≤ 4
noncomputable abbrev tabD' (l r : List Form) : List PyData := (List.range (l.length + 1)).map fun p => .list (rowL l r p (r.length + 1))
noncomputable def keptAt (l r : List Form) : Nat → Nat → Option Nat
  | p + 1, q + 1 => pairAt l r p q
  | _, _ => none
theorem keptAt_some {l r : List Form} : ∀ {p q k : Nat}, keptAt l r p q = some k → ∃ p' q', p = p' + 1 ∧ q = q' + 1 ∧ pairAt l r p' q' = some k
  | p + 1, q + 1, _, h => ⟨p, q, rfl, rfl, h⟩
theorem tab_inn {l r : List Form} {p q : Nat} (h1 : ∀ k, pairAt l r p q = some k → tabF l r (p + 1) (q + 1) ≠ tabF l r p q + k) (h : ¬ tabF l r (p + 1) (q + 1) = tabF l r p (q + 1) + sizeAt l p) : tabF l r (p + 1) (q + 1) = tabF l r (p + 1) q + sizeAt r q := by
  cases e : pairAt l r p q with
  | none => exact tab_inn_none e h
  | some k => exact tab_inn_some e (h1 k e) h
theorem bO {x y : Bool} {A B : Prop} (h : (x || y) = true) (a : A) : bC x A (bC y A B) := by
  cases x with
  | true => exact a
  | false =>
    cases y with
    | true => exact a
    | false => cases h
theorem bON {x y : Bool} {A B : Prop} (h : (x || y) = false) (b : B) : bC x A (bC y A B) := by
  cases x with
  | true => cases h
  | false =>
    cases y with
    | true => cases h
    | false => exact b
theorem or_decN {p q : Nat} (h : p = 0 ∧ q = 0) : (decide ((0 : Int) < (p : Int)) || decide ((0 : Int) < (q : Int))) = false := by
  obtain ⟨rfl, rfl⟩ := h; rfl
theorem or_dec {p q : Nat} (h : ¬ (p = 0 ∧ q = 0)) : (decide ((0 : Int) < (p : Int)) || decide ((0 : Int) < (q : Int))) = true := by
  rw [Bool.or_eq_true, decide_eq_true_eq, decide_eq_true_eq]; omega
theorem pos_dec (q : Nat) : decide ((0 : Int) < ((q + 1 : Nat) : Int)) = true := decide_eq_true (Int.ofNat_lt.mpr (Nat.succ_pos q))
theorem nat_beq {a b : Nat} (h : a = b) : ((a : Int) == (b : Int)) = true := by rw [h]; exact beq_self_eq_true _
theorem nat_bne {a b : Nat} (h : ¬ a = b) : ((a : Int) == (b : Int)) = false := beq_eq_false_iff_ne.mpr fun e => h (Int.ofNat.inj e)
theorem lenP {α : Type} {l : List α} {x : α} {p q m : Nat} (h : l.length + (p + 1) + q ≤ m) : (l ++ [x]).length + p + q ≤ m := by rw [List.length_append, List.length_singleton]; omega
theorem lenQ {α : Type} {l : List α} {x : α} {p q m : Nat} (h : l.length + p + (q + 1) ≤ m) : (l ++ [x]).length + p + q ≤ m := by rw [List.length_append, List.length_singleton]; omega
theorem lenPQ {α : Type} {l : List α} {x : α} {p q m : Nat} (h : l.length + (p + 1) + (q + 1) ≤ m) : (l ++ [x]).length + p + q ≤ m := by rw [List.length_append, List.length_singleton]; omega
theorem len4 {n p q : Nat} (h : n + p + q ≤ 4) : n ≤ 4 := Nat.le_trans (Nat.le_add_right _ _) (Nat.le_trans (Nat.le_add_right _ _) h)
theorem steps_fn (w : World) {f0 g0 f g : Form} {fs gs : List Form} {ch ch' : List (List Nat)} {ps qs ps' qs' : List PyData} {l : List (List Int × PyData)} {i j : Nat} (hF : Flat f0 fs ch) (hG : Flat g0 gs ch') (hz : fs.length ≤ 7) (hz' : gs.length ≤ 7) (hl : CostsAt l fs gs)
    (hi : fs[i]? = some f) (hj : gs[j]? = some g) (hk1 : f.kids.length ≤ 2) (hk2 : g.kids.length ≤ 2) :
    Fn w 68 8 100 [.ins 85 (matV fs gs ch ch' ps qs ps' qs' l), .d (.int (i : Nat)), .d (.int (j : Nat))] [] fun r _ => ∃ sts, r = .d (.list (sts.map Stp.data)) ∧ run f.kids g.kids sts 0 0 0 = some (f.kids.length, g.kids.length, tabF f.kids g.kids f.kids.length g.kids.length) ∧ sts.length ≤ 4 := by
  refine Fn.enters (D := 7) (U := 97) (xs := ["self", "i", "j"]) (by (exact DefAt.of (by k_is) (by k_is) (bnd3 (by intros; exact BindsTo.of_eq rfl)) (by decide +kernel) (by decide +kernel) rfl rfl rfl (by decide +kernel))) rfl rfl (Nat.le_refl _) (Nat.le_refl _) fun C hw => ?_
  have hil := (List.getElem?_eq_some_iff.mp hi).1
  have hjl := (List.getElem?_eq_some_iff.mp hj).1
  obtain ⟨ci, hc⟩ : ∃ c, ch[i]? = some c := ⟨_, List.getElem?_eq_getElem (by rw [hF.len]; exact hil)⟩
  obtain ⟨cj, hc'⟩ : ∃ c, ch'[j]? = some c := ⟨_, List.getElem?_eq_getElem (by rw [hG.len]; exact hjl)⟩
  obtain ⟨hl1, hkid1⟩ := hF.kids i f ci hi hc
  obtain ⟨hl2, hkid2⟩ := hG.kids j g cj hj hc'
  have hval : ∀ (p q x y : Nat), ci[p]? = some x → cj[q]? = some y → dval l [(x : Int), (y : Int)] = (pairAt f.kids g.kids p q).map fun k => .int (k : Nat) := fun p q x y hx hy => by
    obtain ⟨_, fx, hfx, hkx⟩ := hkid1 p x hx
    obtain ⟨_, gy, hgy, hky⟩ := hkid2 q y hy
    rw [hl x y, pairAt_some hfx hgy, pairAt_some hkx hky]
  have hx9 : ∀ {p x : Nat}, ci[p]? = some x → x ≤ 1000 := fun h => lt_k (hkid1 _ _ h).1 (Nat.le_trans (Nat.le_of_lt hil) hz)
  have hy9 : ∀ {p x : Nat}, cj[p]? = some x → x ≤ 1000 := fun h => lt_k (hkid2 _ _ h).1 (Nat.le_trans (Nat.le_of_lt hjl) hz')
  refine wpS_ok tb_ok 60 ?_
  refine lk <| pT_swap2 tb_ok 30 ?_
  refine lk <| WSub_lstN i (numD_at hc) (lt_k hil hz) ?_
  refine lk <| WSub_lstN j (numD_at hc') (lt_k hjl hz') ?_
  refine lk <| pT_swap2 tb_ok 30 ?_
  refine lk <| WCall_read (fun w => table_fn w hF hG hz hz' (.inl rfl) hi hj hc hc' hval hk1 hk2 (fun _ => rfl) rfl) ?_ rfl rfl rfl
  rintro _ ⟨rfl, -⟩
  refine lk <| pE_listS tb_ok 5 ?_
  refine lk <| pT_swap2 tb_ok 30 ?_
  refine And.intro (mapLen (by rw [hl1]; exact hk1)) ?_
  refine And.intro (mapLen (by rw [hl2]; exact hk2)) ?_
  rw [List.length_map, List.length_map, hl1, hl2]
  have hci : ∀ {p : Nat}, p < f.kids.length → ∃ x, ci[p]? = some x := fun h => ⟨_, List.getElem?_eq_getElem (by rw [hl1]; exact h)⟩
  have hcj : ∀ {p : Nat}, p < g.kids.length → ∃ x, cj[p]? = some x := fun h => ⟨_, List.getElem?_eq_getElem (by rw [hl2]; exact h)⟩
  have rows_at : ∀ {p}, p ≤ f.kids.length → (tabD' f.kids g.kids)[p]? = some (.list (rowL f.kids g.kids p (g.kids.length + 1))) := fun h => by rw [List.getElem?_map, List.getElem?_range (Nat.lt_succ_of_le h)]; rfl
  refine lk <| pS_whileW (σ := SSt) tb_ok 60 (fun c => [("p", .d (.int (c.p : Nat))), ("q", .d (.int (c.q : Nat)))]) (fun c => c.p + c.q) (stepJ f.kids g.kids) ⟨f.kids.length, g.kids.length, []⟩ [("rows", .d (.list (tabD' f.kids g.kids))), ("found", .slot 0), ("theirs", .d (.list (cj.map fun (k : Nat) => .int (k : Int)))), ("ours", .d (.list (ci.map fun (k : Nat) => .int (k : Int)))), ("self", .ins 85 (matV fs gs ch ch' ps qs ps' qs' l))] (by (repeat' (first | exact FrIs.nil | exact FrIs.refl | refine FrIs.cons rfl ?_ | refine FrIs.cons (congrArg (fun z => some (V.d (.int z))) (pred_cast _)) ?_))) ⟨rfl, rfl, Nat.le_refl _, Nat.le_refl _, by rw [List.length_nil, Nat.zero_add]; exact Nat.add_le_add hk1 hk2⟩ ?_
  clear hi hj hc hc' hval
  rintro ⟨p, q, sts⟩ own ⟨rfl, hrun, hp, hq, hn⟩
  dsimp only at hrun hp hq hn ⊢
  have hsz : (sts.map Stp.data).length ≤ 1000 := mapLen (len4 hn)
  have hp9 := le_k hp hk1
  have hq9 := le_k hq hk2
  by_cases h00 : p = 0 ∧ q = 0
  · refine bON (x := decide ((0 : Int) < (p : Int))) (y := decide ((0 : Int) < (q : Int))) (or_decN h00) ?_
    obtain ⟨rfl, rfl⟩ := h00
    refine wpS_ok tb_ok 30 ?_
    refine lk <| WE_rev (WE_name rfl (wpE_ok tb_ok 5 ?_) rfl rfl)
    refine Exists.intro _ (Exists.intro _ (And.intro rfl (And.intro rfl (And.intro rfl (And.intro hsz ?_)))))
    refine Ex_of (own' := []) rfl rfl rfl (Nat.zero_le _) ⟨sts.reverse, ?_, ?_, ?_⟩
    · rw [List.map_reverse]; rfl
    · rw [tabF_00] at hrun; exact hrun
    · rw [List.length_reverse]; exact len4 hn
  refine bO (x := decide ((0 : Int) < (p : Int))) (y := decide ((0 : Int) < (q : Int))) (or_dec h00) ?_
  refine pS_cut tb_ok 40 (fun v o => v = .d (oi (keptAt f.kids g.kids p q)) ∧ o = [.lst (sts.map Stp.data)]) ?_ ?_
  · cases p with
    | zero => exact And.intro rfl rfl
    | succ p =>
      refine bT (pos_dec p) ?_
      cases q with
      | zero => exact And.intro rfl rfl
      | succ q =>
        refine bT (pos_dec q) ?_
        obtain ⟨x, hx⟩ := hci hp
        obtain ⟨y, hy⟩ := hcj hq
        obtain ⟨_, fx, hfx, hkx⟩ := hkid1 p x hx
        obtain ⟨_, gy, hgy, hky⟩ := hkid2 q y hy
        refine lk <| WMeth_getI (wpE_ok tb_ok 20 ?_)
        refine lk <| WSub_lstN p (at_map hx) (Nat.le_of_succ_le hp9) ?_ (pred_cast p)
        refine lk <| WSub_lstN q (at_map hy) (Nat.le_of_succ_le hq9) ?_ (pred_cast q)
        refine Exists.intro [(x : Int), (y : Int)] (And.intro rfl ?_)
        rw [hl x y, pairAt_some hfx hgy, show keptAt f.kids g.kids (p + 1) (q + 1) = _ from pairAt_some hkx hky]
        exact And.intro (by cases pairCost fx gy <;> rfl) rfl
  rintro _ _ ⟨rfl, rfl⟩
  refine And.intro rfl ?_
  refine pS_if tb_ok 40 (fun b o => o = [.lst (sts.map Stp.data)] ∧ match b with | true => ∃ p' q' k, p = p' + 1 ∧ q = q' + 1 ∧ pairAt f.kids g.kids p' q' = some k ∧ tabF f.kids g.kids p q = tabF f.kids g.kids p' q' + k | false => ∀ p' q' k, p = p' + 1 → q = q' + 1 → pairAt f.kids g.kids p' q' = some k → ¬ tabF f.kids g.kids p q = tabF f.kids g.kids p' q' + k) ?_ ?_ ?_
  · cases e : keptAt f.kids g.kids p q with
    | none =>
      refine And.intro rfl ?_
      rintro p q k rfl rfl e2
      rw [show keptAt f.kids g.kids (p + 1) (q + 1) = pairAt f.kids g.kids p q from rfl, e2] at e
      cases e
    | some k =>
      obtain ⟨p, q, rfl, rfl, e3⟩ := keptAt_some e
      refine lk <| WSub_lstN (p + 1) (rows_at hp) hp9 ?_
      refine lk <| WSub_lstN (q + 1) (rowL_get (q := q + 1) (Nat.lt_succ_of_le hq)) hq9 ?_
      refine lk <| WSub_lstN p (rows_at (Nat.le_of_succ_le hp)) (Nat.le_of_succ_le hp9) ?_ (pred_cast p)
      refine lk <| WSub_lstN q (rowL_get (q := q) (Nat.lt_succ_of_le (Nat.le_of_succ_le hq))) (Nat.le_of_succ_le hq9) ?_ (pred_cast q)
      by_cases hk : tabF f.kids g.kids (p + 1) (q + 1) = tabF f.kids g.kids p q + k
      · refine bT (nat_beq hk) ?_
        exact And.intro rfl ⟨p, q, k, rfl, rfl, e3, hk⟩
      · refine bF (nat_bne hk) ?_
        refine And.intro rfl ?_
        rintro p' q' k' ep eq e2
        obtain rfl := Nat.succ.inj ep
        obtain rfl := Nat.succ.inj eq
        rw [e2] at e3
        cases e3
        exact hk
  · rintro _ ⟨rfl, p, q, k, rfl, rfl, e, hk⟩
    refine wpS_ok tb_ok 40 ?_
    refine lk <| pM_append tb_ok 30 rfl ?_
    refine And.intro hsz ?_
    refine lk <| pT_swap2 tb_ok 20 ?_
    refine Exists.intro ⟨p, q, sts ++ [.keep p q]⟩ ⟨by (repeat' (first | exact FrIs.nil | exact FrIs.refl | refine FrIs.cons rfl ?_ | refine FrIs.cons (congrArg (fun z => some (V.d (.int z))) (pred_cast _)) ?_)), ⟨?_, run_keep hrun e hk, Nat.le_of_succ_le hp, Nat.le_of_succ_le hq, lenPQ hn⟩, Nat.add_lt_add (Nat.lt_succ_self _) (Nat.lt_succ_self _)⟩
    rw [pred_cast, pred_cast, List.map_append]; rfl
  rintro _ ⟨rfl, hno⟩
  refine pS_if tb_ok 40 (fun b o => o = [.lst (sts.map Stp.data)] ∧ match b with | true => ∃ p', p = p' + 1 ∧ tabF f.kids g.kids p q = tabF f.kids g.kids p' q + sizeAt f.kids p' | false => ∃ q', q = q' + 1 ∧ tabF f.kids g.kids p q = tabF f.kids g.kids p q' + sizeAt g.kids q') ?_ ?_ ?_
  · cases p with
    | zero =>
      refine And.intro rfl ?_
      cases q with
      | zero => exact absurd ⟨rfl, rfl⟩ h00
      | succ q => exact ⟨q, rfl, tabF_0s⟩
    | succ p =>
      refine bT (pos_dec p) ?_
      obtain ⟨x, hx⟩ := hci hp
      obtain ⟨_, fx, hfx, hkx⟩ := hkid1 p x hx
      refine lk <| WSub_lstN (p + 1) (rows_at hp) hp9 ?_
      refine lk <| WSub_lstN q (rowL_get (q := q) (Nat.lt_succ_of_le hq)) hq9 ?_
      refine lk <| WSub_lstN p (rows_at (Nat.le_of_succ_le hp)) (Nat.le_of_succ_le hp9) ?_ (pred_cast p)
      refine lk <| WSub_lstN q (rowL_get (q := q) (Nat.lt_succ_of_le hq)) hq9 ?_
      refine lk <| WSub_lstN p (at_map hx) (Nat.le_of_succ_le hp9) ?_ (pred_cast p)
      refine lk <| WSub_lstN x (sizes_of hfx) (hx9 hx) ?_
      rw [show (fx.size : Int) = ((sizeAt f.kids p : Nat) : Int) from by rw [sizeAt, hkx]]
      by_cases ho : tabF f.kids g.kids (p + 1) q = tabF f.kids g.kids p q + sizeAt f.kids p
      · refine bT (nat_beq ho) ?_
        exact And.intro rfl ⟨p, rfl, ho⟩
      · refine bF (nat_bne ho) ?_
        refine And.intro rfl ?_
        cases q with
        | zero => exact absurd tabF_s0 ho
        | succ q => exact ⟨q, rfl, tab_inn (fun k e => hno p q k rfl rfl e) ho⟩
  · rintro _ ⟨rfl, p, rfl, ho⟩
    refine wpS_ok tb_ok 40 ?_
    refine lk <| pM_append tb_ok 30 rfl ?_
    refine And.intro hsz ?_
    refine Exists.intro ⟨p, q, sts ++ [.out p]⟩ ⟨by (repeat' (first | exact FrIs.nil | exact FrIs.refl | refine FrIs.cons rfl ?_ | refine FrIs.cons (congrArg (fun z => some (V.d (.int z))) (pred_cast _)) ?_)), ⟨?_, run_out hrun hp ho, Nat.le_of_succ_le hp, hq, lenP hn⟩, Nat.add_lt_add_right (Nat.lt_succ_self _) _⟩
    rw [pred_cast, List.map_append]; rfl
  · rintro _ ⟨rfl, q, rfl, ho⟩
    refine wpS_ok tb_ok 40 ?_
    refine lk <| pM_append tb_ok 30 rfl ?_
    refine And.intro hsz ?_
    refine Exists.intro ⟨p, q, sts ++ [.inn p q]⟩ ⟨by (repeat' (first | exact FrIs.nil | exact FrIs.refl | refine FrIs.cons rfl ?_ | refine FrIs.cons (congrArg (fun z => some (V.d (.int z))) (pred_cast _)) ?_)), ⟨?_, run_inn hrun hq ho, hp, Nat.le_of_succ_le hq, lenQ hn⟩, Nat.lt_succ_self _⟩
    rw [pred_cast, List.map_append]; rfl
end
section
theorem atts_ok {f : Form} (h : f.ok) : attsOk f.atts = true := by cases f; exact h.2.2.2.1
theorem attGet_is (l : List Att) (k : Str) : attGet l k = .none ∨ ∃ a ∈ l, attGet l k = .tuple [.str a.name, .str a.value] := by
  unfold attGet
  cases e : l.find? fun a => a.key == k with
  | none => exact .inl rfl
  | some a => exact .inr ⟨a, List.mem_of_find?_eq_some e, rfl⟩
theorem unlikeAt_shaped {a b : List Att} (hb : attsOk b = true) {k : Str} (hk : PyData.strOk k = true) : ∀ x ∈ unlikeAt a b k, PyData.canLay0 x = true ∧ PyData.depth x ≤ 3 := by
  intro x hx
  unfold unlikeAt at hx
  split at hx
  · cases hx
  · obtain rfl := List.mem_singleton.mp hx
    rcases attGet_is b k with e | ⟨t, ht, e⟩
    · rw [e]; simp [keyD, PyData.canLay0, PyData.canLayAll0, PyData.depth, PyData.depthAll, hk]; decide +kernel
    · have hok : t.ok = true := by
        unfold attsOk at hb
        simp only [Bool.and_eq_true, List.all_eq_true] at hb
        exact hb.1 t ht
      unfold Att.ok at hok
      simp only [Bool.and_eq_true] at hok
      rw [e]
      simp_all [keyD, PyData.canLay0, PyData.canLayAll0, PyData.depth, PyData.depthAll]
      decide +kernel
theorem list_shaped {l : List PyData} (h : ∀ x ∈ l, PyData.canLay0 x = true ∧ PyData.depth x ≤ 3) : SeqAt.shaped (.list l) = true := by
  have key : ∀ l : List PyData, (∀ x ∈ l, PyData.canLay0 x = true ∧ PyData.depth x ≤ 3) → PyData.canLayAll0 l = true ∧ PyData.depthAll l ≤ 3 := by
    intro l
    induction l with
    | nil => intro _; exact ⟨rfl, Nat.zero_le _⟩
    | cons x l ih =>
      intro h
      have h1 := h x (.head _)
      have h2 := ih fun y hy => h y (.tail _ hy)
      exact ⟨by rw [PyData.canLayAll0, h1.1, h2.1]; rfl, by rw [PyData.depthAll]; exact Nat.max_le.mpr ⟨h1.2, h2.2⟩⟩
  have k := key l h
  rw [SeqAt.shaped, PyData.canLay0, PyData.depth, k.1, Bool.true_and]
  exact decide_eq_true (by omega)
theorem unlike_shaped {a b : List Att} (hb : attsOk b = true) : SeqAt.shaped (.list (unlike a b)) = true := list_shaped fun x hx => by
  rcases List.mem_append.mp hx with h | h
  · exact unlikeAt_shaped hb (by decide +kernel) x h
  · exact unlikeAt_shaped hb (by decide +kernel) x h
theorem c_flat (w : World) : ClsOk w "FlatForm" 134 103 := ClsOk.of (by k_is) (by k_is) (by k_is) (by k_is) (by k_is)
theorem c_match (w : World) : ClsOk w "Matching" 85 54 := ClsOk.of (by k_is) (by k_is) (by k_is) (by k_is) (by k_is)
theorem right_fn (w : World) {f g : Form} (hh1 : f.height ≤ 3) (hh2 : g.height ≤ 3) (hf : f.ok) (hg : g.ok) : Fn w 214 60 400 [.d f.data, .d g.data] [] fun r _ => r = .d (.bool true) := by
  refine Fn.enters (D := 59) (U := 397) (xs := ["first", "second"]) (by (exact DefAt.of (by k_is) (by k_is) (bnd2 (by intros; exact BindsTo.of_eq rfl)) (by decide +kernel) (by decide +kernel) rfl rfl rfl (by decide +kernel))) rfl rfl (by omega) (by omega) fun C hw => ?_
  have hzf := Form.small hf hh1
  have hzg := Form.small hg hh2
  refine wpS_ok tb_ok 60 ?_
  refine lk <| pT_swap2 tb_ok 30 ?_
  refine lk <| WE_new (D' := 5) (U' := 50) (P' := fun _ r o => r = .d .none ∧ ∃ fs ch ps qs, Flat f fs ch ∧ (∀ x ∈ fs, x.ok) ∧ o = [.flds (flatV fs ch ps qs)]) c_flat (wpEs_ok tb_ok 5 (And.intro rfl (And.intro (fun w => flat_fn w hf hh1) ?_))) rfl rfl
  rintro _ _ ⟨rfl, fs, ch, ps, qs, hF, hof, rfl⟩
  refine ⟨rfl, _, rfl, rfl, ?_⟩
  refine lk <| WE_new (D' := 5) (U' := 50) (P' := fun _ r o => r = .d .none ∧ ∃ fs ch ps qs, Flat g fs ch ∧ (∀ x ∈ fs, x.ok) ∧ o = [.flds (flatV fs ch ps qs)]) c_flat (wpEs_ok tb_ok 5 (And.intro rfl (And.intro (fun w => flat_fn w hg hh2) ?_))) rfl rfl
  rintro _ _ ⟨rfl, gs, ch', ps', qs', hG, hog, rfl⟩
  refine ⟨rfl, _, rfl, rfl, ?_⟩
  have hz : fs.length ≤ 7 := by rw [hF.size]; exact hzf
  have hz' : gs.length ≤ 7 := by rw [hG.size]; exact hzg
  refine lk <| pE_listF tb_ok 20 ?_
  refine And.intro (by rw [datas_len]; omega) ?_
  refine And.intro (by rw [datas_len]; omega) ?_
  rw [datas_len, datas_len, hF.size, hG.size]
  refine lk <| pE_listF tb_ok 20 ?_
  refine lk <| WCall_read (fun w => size_fn w 3 f hh1 hf) ?_ rfl rfl rfl
  rintro _ rfl
  refine lk <| WCall_read (fun w => size_fn w 3 g hh2 hg) ?_ rfl rfl rfl
  rintro _ rfl
  refine lk <| WCmp_ne (by simp [SeqAt.shaped, PyData.canLay0, PyData.canLayAll0, PyData.depth, PyData.depthAll]) (by simp [SeqAt.shaped, PyData.canLay0, PyData.canLayAll0, PyData.depth, PyData.depthAll]) ?_
  refine bF (congrArg Bool.not (self_shaped (by simp [SeqAt.shaped, PyData.canLay0, PyData.canLayAll0, PyData.depth, PyData.depthAll]))) ?_
  refine lk <| WE_new (D' := 8) (U' := 150) (P' := fun _ r o => r = .d .none ∧ ∃ l, CostsAt l fs gs ∧ o = [.flds (mfs (flatV fs ch ps qs) (flatV gs ch' ps' qs') (.dI l))]) c_match (wpEs_ok tb_ok 5 (And.intro rfl (And.intro (fun w => match_fn w hF hG hz hz' hof hog) ?_))) rfl rfl
  rintro _ _ ⟨rfl, l, hl, rfl⟩
  refine ⟨rfl, _, rfl, rfl, ?_⟩
  have hb : ∀ n : Nat, n < 7 → 0 ≤ (n : Int) ∧ (n : Int) < 100000 := fun n h => ⟨Int.natCast_nonneg _, by omega⟩
  refine lk <| pS_forS (σ := Unit) tb_ok 60 (fun _ => []) fs.length (fun i => .d (.int i)) (fun _ _ own => own = []) () [("told", .ins 85 (matV fs gs ch ch' ps qs ps' qs' l)), ("one", .ins 134 (flatV fs ch ps qs)), ("other", .ins 134 (flatV gs ch' ps' qs')), ("first", .d f.data), ("second", .d g.data)] ?_ (by omega) (by (repeat' (first | exact FrIs.nil | exact FrIs.refl | refine FrIs.cons rfl ?_ | refine FrIs.cons (congrArg (fun z => some (V.d (.int z))) (pred_cast _)) ?_))) ?_ ?_
  · refine And.intro (by rw [datas_len]; omega) ?_
    rw [datas_len]
    refine lk <| WF_range fs.length rfl ?_
    exact And.intro rfl rfl
  · rintro C' i _ own hi rfl
    refine lk <| pS_forS (σ := Unit) tb_ok 60 (fun _ => []) gs.length (fun i => .d (.int i)) (fun _ _ own => own = []) () _ ?_ (by omega) FrIs.refl ?_ ?_
    · refine And.intro (by rw [datas_len]; omega) ?_
      rw [datas_len]
      refine lk <| WF_range gs.length rfl ?_
      exact And.intro rfl rfl
    · rintro C'' j _ own hj rfl
      obtain ⟨x, hx⟩ : ∃ f, fs[i]? = some f := ⟨_, List.getElem?_eq_getElem hi⟩
      obtain ⟨y, hy⟩ : ∃ g, gs[j]? = some g := ⟨_, List.getElem?_eq_getElem hj⟩
      have hxo := hof x (List.mem_of_getElem? hx)
      have hyo := hog y (List.mem_of_getElem? hy)
      have hxh : x.height ≤ 3 := Nat.le_trans (hF.heights _ i x (Nat.le_refl _) hx) hh1
      have hyh : y.height ≤ 3 := Nat.le_trans (hG.heights _ j y (Nat.le_refl _) hy) hh2
      refine lk <| pT_swap2 tb_ok 30 ?_
      refine lk <| WSub_lst (hb i (by omega)) (forms_at hx) ?_
      refine lk <| WSub_lst (hb j (by omega)) (forms_at hy) ?_
      refine lk <| WCall_read (fun w => pair_all 3 (by omega) w x y hxh hyh hxo hyo) ?_ rfl rfl rfl
      rintro _ rfl
      have hv := hl i j
      rw [pairAt_some hx hy] at hv
      refine lk <| WCall_read (fun w => cost_fn w) ?_ rfl rfl rfl
      intro d hd
      rw [hv] at hd
      cases e : pairCost x y with
      | none =>
        rw [e] at hd
        subst hd
        refine lk <| WCmp_ne rfl rfl ?_
        refine bF (by decide) ?_
        refine lk <| WCall_read (fun w => may_fn w hxo hyo) ?_ rfl rfl rfl
        rintro _ rfl
        have hm : mayMatch x y = false := by
          rw [pairCost_eq] at e
          cases h : mayMatch x y with
          | true => rw [h] at e; cases e
          | false => rfl
        rw [hm]
        refine lk <| WCmp_ne rfl rfl ?_
        refine bF (by decide) ?_
        refine lk <| WCall_read (fun w => unlike_fn w hxo hyo) ?_ rfl rfl rfl
        rintro _ rfl
        refine lk <| WCall_read (fun w => law_unlike_fn w hxo hyo) ?_ rfl rfl rfl
        rintro _ rfl
        refine lk <| WCmp_ne (unlike_shaped (atts_ok hyo)) (unlike_shaped (atts_ok hyo)) ?_
        refine bF (congrArg Bool.not (self_shaped (unlike_shaped (atts_ok hyo)))) ?_
        exact Exists.intro () ⟨by (repeat' (first | exact FrIs.nil | exact FrIs.refl | refine FrIs.cons rfl ?_ | refine FrIs.cons (congrArg (fun z => some (V.d (.int z))) (pred_cast _)) ?_)), rfl⟩
      | some k =>
        rw [e] at hd
        subst hd
        have hm : mayMatch x y = true ∧ k = own x y + least x.kids y.kids := by
          rw [pairCost_eq] at e
          cases h : mayMatch x y with
          | true => rw [h] at e; exact ⟨rfl, (Option.some.inj e).symm⟩
          | false => rw [h] at e; cases e
        refine lk <| WCmp_ne rfl rfl ?_
        refine bF (congrArg Bool.not (eqv_self rfl)) ?_
        refine lk <| WCall_read (fun w => may_fn w hxo hyo) ?_ rfl rfl rfl
        rintro _ rfl
        rw [hm.1]
        refine lk <| WCmp_ne rfl rfl ?_
        refine bF (by decide) ?_
        refine lk <| WCall_read (fun w => unlike_fn w hxo hyo) ?_ rfl rfl rfl
        rintro _ rfl
        refine lk <| WCall_read (fun w => law_unlike_fn w hxo hyo) ?_ rfl rfl rfl
        rintro _ rfl
        refine lk <| WCmp_ne (unlike_shaped (atts_ok hyo)) (unlike_shaped (atts_ok hyo)) ?_
        refine bF (congrArg Bool.not (self_shaped (unlike_shaped (atts_ok hyo)))) ?_
        refine lk <| WCall_read (fun w => steps_fn w hF hG hz hz' hl hx hy (oks_len hxo) (oks_len hyo)) ?_ rfl rfl rfl
        rintro _ ⟨sts, rfl, hrun, hln⟩
        refine lk <| WCall_read (fun w => law_own_fn w hxo hyo) ?_ rfl rfl rfl
        rintro _ rfl
        have e3 : (k : Int) - (own x y : Int) = ((tabF x.kids y.kids x.kids.length y.kids.length : Nat) : Int) := by rw [tab_least _ _ (oks_len hxo) (oks_len hyo), hm.2]; omega
        refine lk <| WCall_read (P' := fun r _ => r = .d (.bool true)) (D' := 50) (U' := 300) (fun w => by rw [e3]; exact steps_right_fn w hxh hyh hxo hyo hrun hln) ?_ rfl rfl rfl
        rintro _ rfl
        exact Exists.intro () ⟨by (repeat' (first | exact FrIs.nil | exact FrIs.refl | refine FrIs.cons rfl ?_ | refine FrIs.cons (congrArg (fun z => some (V.d (.int z))) (pred_cast _)) ?_)), rfl⟩
    · rintro _ own rfl
      exact Exists.intro () ⟨by (repeat' (first | exact FrIs.nil | exact FrIs.refl | refine FrIs.cons rfl ?_ | refine FrIs.cons (congrArg (fun z => some (V.d (.int z))) (pred_cast _)) ?_)), rfl⟩
  · rintro _ own rfl
    refine lk <| WCall_read (fun w => pair_all 3 (by omega) w f g hh1 hh2 hf hg) ?_ rfl rfl rfl
    rintro _ rfl
    refine lk <| WCall_read (fun w => whole_fn w hz hz' hF.top hG.top hl) ?_ rfl rfl rfl
    rintro _ rfl
    cases e : pairCost f g with
    | none =>
      refine lk <| WCall_read (fun w => size_fn w 3 f hh1 hf) ?_ rfl rfl rfl
      rintro _ rfl
      refine lk <| WCall_read (fun w => size_fn w 3 g hh2 hg) ?_ rfl rfl rfl
      rintro _ rfl
      refine Ex_d ?_
      exact congrArg (fun b => V.d (.bool b)) (beq_self_eq_true _)
    | some k =>
      refine Ex_d ?_
      exact congrArg (fun b => V.d (.bool b)) (beq_self_eq_true _)
end
section
noncomputable def SrcOk (a b : Int) : Prop := 0 ≤ a ∧ 0 ≤ b ∧ b < 2147483647
noncomputable def srcO (a b : Int) : List MO := [.lst [.int a, .int b]]
theorem mulok_b {x y : Int} (h0 : 0 ≤ x) (h1 : x < 2147483647) : IntMulOk x y := IntMulOk.of_left (intBits_le_64 (by omega) (by omega))
theorem fmod_to (x : Int) {top : Nat} (h : 1 ≤ top) : ∃ i : Nat, x.fmod (top : Int) = (i : Int) ∧ i < top := by
  have h1 := Int.fmod_nonneg_of_pos x (b := (top : Int)) (by omega)
  have h2 := Int.fmod_lt_of_pos x (b := (top : Int)) (by omega)
  exact ⟨(x.fmod (top : Int)).toNat, (Int.toNat_of_nonneg h1).symm, by omega⟩
theorem nopy {x : Int} {top : Nat} (h1 : 1 ≤ top) (h2 : top ≤ 6) : Builtin.divisionGoesByPylong x (top : Int) = false := by
  have h : top = 1 ∨ top = 2 ∨ top = 3 ∨ top = 4 ∨ top = 5 ∨ top = 6 := by omega
  rcases h with rfl | rfl | rfl | rfl | rfl | rfl <;> rfl
theorem take_fn (w : World) {top : Nat} {a b : Int} (h1 : 1 ≤ top) (h2 : top ≤ 6) (hs : SrcOk a b) : Fn w 152 2 20 [.slot 0, .d (.int (top : Nat))] (srcO a b) fun r o => ∃ (i : Nat) (a' b' : Int), i < top ∧ r = .d (.int (i : Nat)) ∧ SrcOk a' b' ∧ o = srcO a' b' := by
  refine Fn.enters (D := 1) (U := 17) (xs := ["source", "top"]) (by (exact DefAt.of (by k_is) (by k_is) (bnd2 (by intros; exact BindsTo.of_eq rfl)) (by decide +kernel) (by decide +kernel) rfl rfl rfl (by decide +kernel))) rfl rfl (by omega) (by omega) fun C hw => ?_
  have hb0 : (0 : Int) ≤ 0 ∧ (0 : Int) < 100000 := by decide
  have hb1 : (0 : Int) ≤ 1 ∧ (1 : Int) < 100000 := by decide
  have ht : (top : Int) ≠ 0 := by omega
  refine wpS_ok tb_ok 60 ?_
  refine lk <| WSub_slot (x := .int a) (l := [.int a, .int b]) rfl hb0 rfl ?_
  by_cases ha : 0 < a
  · refine bT (decide_eq_true ha) ?_
    refine lk <| WSub_slot (x := .int a) (l := [.int a, .int b]) rfl hb0 rfl ?_
    refine lk <| WBin_mod ht ?_
    refine lk <| WSub_slot (x := .int a) (l := [.int a, .int b]) rfl hb0 rfl ?_
    refine lk <| WBin_div ht (nopy h1 h2) ?_
    refine lk <| WSet_slot (l := [.int a, .int b]) rfl hb0 (Nat.le_of_ble_eq_true rfl) ?_
    obtain ⟨i, e, hi⟩ := fmod_to a h1
    refine Ex_of (own' := srcO (a.fdiv top) b) rfl rfl rfl (Nat.le_refl _) ⟨i, a.fdiv top, b, hi, by rw [e]; rfl, ⟨Int.fdiv_nonneg hs.1 (by omega), hs.2⟩, rfl⟩
  · refine bF (decide_eq_false ha) ?_
    refine lk <| WSub_slot (x := .int b) (l := [.int a, .int b]) rfl hb1 rfl ?_
    refine lk <| WBin_mul (mulok_b hs.2.1 hs.2.2) ?_
    refine lk <| WBin_mod (by decide) ?_
    refine lk <| WSet_slot (l := [.int a, .int b]) rfl hb1 (Nat.le_of_ble_eq_true rfl) ?_
    have hn0 := Int.fmod_nonneg_of_pos (b * 39373 + 7) (b := 2147483647) (by decide)
    have hn1 := Int.fmod_lt_of_pos (b * 39373 + 7) (b := 2147483647) (by decide)
    generalize (b * 39373 + 7).fmod 2147483647 = c at hn0 hn1
    refine lk <| WSub_slot (x := .int c) (l := [.int a, .int c]) rfl hb1 rfl ?_
    refine lk <| WSub_slot (x := .int c) (l := [.int a, .int c]) rfl hb1 rfl ?_
    refine lk <| WBin_mul (mulok_b hn0 hn1) ?_
    refine lk <| WBin_mod (by decide) ?_
    refine lk <| WBin_div (by decide) rfl ?_
    refine lk <| WBin_mod ht ?_
    obtain ⟨i, e, hi⟩ := fmod_to (((c * c).fmod 2147483629).fdiv 32) h1
    refine Ex_of (own' := srcO a c) rfl rfl rfl (Nat.le_refl _) ⟨i, a, c, hi, by rw [e]; rfl, ⟨hs.1, hn0, hn1⟩, rfl⟩
end
section
theorem len_bd {α : Type} {l : List α} {i n : Nat} {x : α} (h : l[i]? = some x) (hn : l.length ≤ n) (hz : n ≤ 1000) : 0 ≤ (i : Int) ∧ (i : Int) < 100000 := by
  have := (List.getElem?_eq_some_iff.mp h).1
  omega
theorem one_fn (w : World) {xs : List PyData} {a b : Int} (h1 : 1 ≤ xs.length) (h2 : xs.length ≤ 6) (hs : SrcOk a b) : Fn w 159 4 40 [.slot 0, .d (.list xs)] (srcO a b) fun r o => ∃ (x : PyData) (a' b' : Int), x ∈ xs ∧ r = .d x ∧ SrcOk a' b' ∧ o = srcO a' b' := by
  refine Fn.enters (D := 3) (U := 37) (xs := ["source", "things"]) (by (exact DefAt.of (by k_is) (by k_is) (bnd2 (by intros; exact BindsTo.of_eq rfl)) (by decide +kernel) (by decide +kernel) rfl rfl rfl (by decide +kernel))) rfl rfl (by omega) (by omega) fun C hw => ?_
  refine wpS_ok tb_ok 60 ?_
  refine And.intro (by omega) ?_
  refine lk <| WCall_of (own2 := []) (fun w => take_fn w h1 h2 hs) ?_ rfl rfl rfl rfl rfl
  rintro _ _ hl ⟨i, a', b', hi, rfl, hs', rfl⟩
  have hx : xs[i]? = some xs[i] := List.getElem?_eq_getElem hi
  refine lk <| WSub_lst (len_bd hx h2 (by decide)) hx ?_
  refine Ex_of (own' := srcO a' b') rfl rfl rfl (Nat.le_refl _) ⟨xs[i], a', b', List.getElem_mem hi, rfl, hs', rfl⟩
noncomputable def keysAt : Nat → List (List Str)
  | 0 => [[]]
  | 1 => [[], [Str.ofString "k"]]
  | _ => [[], [Str.ofString "k"], [Str.ofString "m"], [Str.ofString "k", Str.ofString "m"]]
theorem keys_skip {i : Nat} {l : List Str} (h : (keysAt i).contains l = true) : (keysAt (i + 1)).contains l = true := by
  rcases i with _ | _ | i <;> simp [keysAt] at h ⊢
  · exact .inl h
  · rcases h with h | h <;> simp [h]
  · exact h
theorem keys_k {l : List Str} (h : (keysAt 0).contains l = true) : (keysAt (0 + 1)).contains (l ++ [Str.ofString "k"]) = true := by
  simp [keysAt] at h ⊢
  exact h
theorem keys_m {l : List Str} (h : (keysAt 1).contains l = true) : (keysAt (1 + 1)).contains (l ++ [Str.ofString "m"]) = true := by
  simp [keysAt] at h ⊢
  rcases h with rfl | rfl <;> simp
noncomputable def keyOf : Nat → Str
  | 0 => Str.ofString "k"
  | _ => Str.ofString "m"
theorem key_facts {i : Nat} (hi : i < 2) : [PyData.str (Str.ofString "k"), .str (Str.ofString "m")].getD i .none = .str (keyOf i) ∧ (∀ l, (keysAt i).contains l = true → (keysAt (i + 1)).contains (l ++ [keyOf i]) = true) ∧ PyData.strOk (keyOf i) = true ∧ PyData.strOk (Str.ofString "q:" ++ keyOf i) = true ∧ (keyOf i).length ≤ 1000 := by
  rcases i with _ | _ | i
  · exact ⟨rfl, fun _ => keys_k, by decide +kernel, by decide +kernel, Nat.le_of_ble_eq_true rfl⟩
  · exact ⟨rfl, fun _ => keys_m, by decide +kernel, by decide +kernel, Nat.le_of_ble_eq_true rfl⟩
  · omega
theorem strs_mem {P : Str → Prop} : ∀ {l : List Str} {x : PyData}, x ∈ l.map PyData.str → (∀ z ∈ l, P z) → ∃ z, x = .str z ∧ P z := fun h k => let ⟨z, hz, e⟩ := List.mem_map.mp h; ⟨z, e.symm, k z hz⟩
noncomputable def toldJ (i : Nat) (_ : Unit) (own : List MO) : Prop := ∃ (a b : Int) (atts : List Att), own = srcO a b ++ [.lst (atts.map Att.data)] ∧ SrcOk a b ∧ atts.all Att.ok = true ∧ (keysAt i).contains (atts.map (·.key)) = true ∧ atts.length ≤ i
theorem told_fn (w : World) {a b : Int} (hs : SrcOk a b) : Fn w 166 6 60 [.slot 0] (srcO a b) fun r o => ∃ (atts : List Att) (a' b' : Int), r = .d (.tuple (atts.map Att.data)) ∧ attsOk atts = true ∧ SrcOk a' b' ∧ o = srcO a' b' := by
  refine Fn.enters (D := 5) (U := 57) (xs := ["source"]) (by (exact DefAt.of (by k_is) (by k_is) (bnd1 (by intros; exact BindsTo.of_eq rfl)) (by decide +kernel) (by decide +kernel) rfl rfl rfl (by decide +kernel))) rfl rfl (by omega) (by omega) fun C hw => ?_
  refine wpS_ok tb_ok 60 ?_
  refine lk <| pE_listS tb_ok 5 ?_
  refine lk <| pS_forS (σ := Unit) tb_ok 60 (fun _ => []) 2 (fun i => .d ([PyData.str (Str.ofString "k"), .str (Str.ofString "m")].getD i .none)) toldJ () [("found", .slot 1), ("source", .slot 0)] (lk <| pE_listF tb_ok 5 ?_) (Nat.le_of_ble_eq_true rfl) (by (repeat' (first | exact FrIs.nil | exact FrIs.refl | refine FrIs.cons rfl ?_ | refine FrIs.cons (congrArg (fun z => some (V.d (.int z))) (pred_cast _)) ?_))) ?_ ?_
  · exact And.intro rfl ⟨a, b, [], rfl, hs, rfl, rfl, Nat.le_refl _⟩
  · rintro C' i ⟨⟩ own hi ⟨a, b, atts, rfl, hs, ha1, ha2, ha3⟩
    obtain ⟨e, hk1, hk2, hk3, hk4⟩ := key_facts hi
    rw [e]
    generalize keyOf i = key at hk1 hk2 hk3 hk4
    clear e
    refine lk <| pE_listF tb_ok 9 ?_
    refine lk <| WCall_of (own1 := srcO a b) (own2 := [.lst (atts.map Att.data)]) (fun w => one_fn w (Nat.le_of_ble_eq_true rfl) (Nat.le_of_ble_eq_true rfl) hs) ?_ rfl rfl rfl rfl rfl
    rintro _ _ hl ⟨x, a', b', hx, rfl, hs', rfl⟩
    obtain ⟨z, rfl, hz⟩ := strs_mem (l := [Str.ofString "", Str.ofString "", Str.ofString "v", Str.ofString "w"]) (P := fun z => PyData.strOk z = true) hx (by decide +kernel)
    refine bT rfl ?_
    by_cases he : z = Str.ofString ""
    · refine bF (by rw [he]; rfl) ?_
      exact Exists.intro () ⟨by (repeat' (first | exact FrIs.nil | exact FrIs.refl | refine FrIs.cons rfl ?_ | refine FrIs.cons (congrArg (fun z => some (V.d (.int z))) (pred_cast _)) ?_)), a', b', atts, rfl, hs', ha1, keys_skip ha2, Nat.le_succ_of_le ha3⟩
    · refine bT (bne_iff_ne.mpr he) ?_
      refine lk <| pM_append tb_ok 60 rfl ?_
      refine lk <| pE_listF tb_ok 9 ?_
      refine lk <| WBin_str (Nat.le_of_ble_eq_true rfl) hk4 ?_
      refine lk <| WCall_of (own1 := srcO a' b') (own2 := [.lst (atts.map Att.data)]) (fun w => one_fn w (Nat.le_of_ble_eq_true rfl) (Nat.le_of_ble_eq_true rfl) hs') ?_ rfl rfl rfl rfl rfl
      rintro _ _ hl ⟨x, a2, b2, hx, rfl, hs2, rfl⟩
      obtain ⟨n, rfl, hn⟩ := strs_mem (l := [key, key, Str.ofString "q:" ++ key]) (P := fun z => PyData.strOk z = true) hx (List.forall_mem_cons.mpr ⟨hk2, List.forall_mem_cons.mpr ⟨hk2, List.forall_mem_singleton.mpr hk3⟩⟩)
      refine And.intro (by rw [List.length_map]; omega) ?_
      refine Exists.intro () ⟨by (repeat' (first | exact FrIs.nil | exact FrIs.refl | refine FrIs.cons rfl ?_ | refine FrIs.cons (congrArg (fun z => some (V.d (.int z))) (pred_cast _)) ?_)), a2, b2, atts ++ [⟨key, n, z⟩], by rw [List.map_append]; rfl, hs2, ?_, ?_, ?_⟩
      · rw [List.all_append, ha1]; simp [Att.ok, hn, hz]
      · rw [List.map_append]; exact hk1 _ ha2
      · rw [List.length_append]; exact Nat.succ_le_succ ha3
  · rintro ⟨⟩ own ⟨a, b, atts, rfl, hs, ha1, ha2, ha3⟩
    refine lk <| WF_tupleS (l := atts.map Att.data) rfl (by rw [List.length_map]; omega) ?_
    refine Ex_of (own' := srcO a b) rfl rfl rfl (Nat.le_of_ble_eq_true rfl) ⟨atts, a, b, rfl, ?_, hs, rfl⟩
    rw [attsOk, ha1]; exact ha2
end
section
noncomputable def FormP (d : Nat) (r : V) (o : List MO) : Prop := ∃ (f : Form) (a b : Int), r = .d f.data ∧ f.ok ∧ f.height ≤ d + 1 ∧ SrcOk a b ∧ o = srcO a b
noncomputable def FormOk (d : Nat) : Prop := ∀ (w : World) (a b : Int), SrcOk a b → Fn w 171 (2 * d + 8) (10 * d + 80) [.slot 0, .d (.int (d : Nat))] (srcO a b) (FormP d)
theorem leaf_ok {k x v : Str} (hk : PyData.strOk k = true) (hx : PyData.strOk x = true) (hv : PyData.strOk v = true) {d : Nat} : (Form.mk k (.s x) v [] []).ok ∧ (Form.mk k (.s x) v [] []).height ≤ d + 1 :=
  ⟨⟨hx, hk, hv, by decide +kernel, Nat.zero_le _, trivial⟩, by rw [Form.height, heights]; omega⟩
noncomputable def labs : List Lab := [.t (Str.ofString "a") (Str.ofString "") (Str.ofString "a"), .t (Str.ofString "a") (Str.ofString "") (Str.ofString "a"), .t (Str.ofString "b") (Str.ofString "") (Str.ofString "b"), .t (Str.ofString "q:a") (Str.ofString "u") (Str.ofString "a")]
theorem labs_ok : ∀ l ∈ labs, l.ok := by
  refine List.forall_mem_cons.mpr ⟨⟨?_, ?_, ?_⟩, List.forall_mem_cons.mpr ⟨⟨?_, ?_, ?_⟩, List.forall_mem_cons.mpr ⟨⟨?_, ?_, ?_⟩, List.forall_mem_cons.mpr ⟨⟨?_, ?_, ?_⟩, List.forall_mem_nil _⟩⟩⟩⟩ <;> decide +kernel
theorem lab_of {x : PyData} (h : x ∈ labs.map Lab.data) : ∃ l : Lab, x = l.data ∧ l.ok := let ⟨l, hl, e⟩ := List.mem_map.mp h; ⟨l, e.symm, labs_ok l hl⟩
theorem datas_snoc {fs : List Form} {f : Form} : datas fs ++ [f.data] = datas (fs ++ [f]) := by rw [datas_map, datas_map, List.map_append]; rfl
theorem oks_snoc {f : Form} : ∀ {fs : List Form}, oks fs → f.ok → oks (fs ++ [f])
  | [], _, h => ⟨h, trivial⟩
  | _ :: _, h1, h => ⟨h1.1, oks_snoc h1.2 h⟩
theorem heights_snoc {f : Form} {d : Nat} : ∀ {fs : List Form}, heights fs ≤ d → f.height ≤ d → heights (fs ++ [f]) ≤ d
  | [], _, h => Nat.max_le.mpr ⟨h, Nat.zero_le _⟩
  | _ :: _, h1, h => Nat.max_le.mpr ⟨Nat.le_trans (Nat.le_max_left _ _) h1, heights_snoc (Nat.le_trans (Nat.le_max_right _ _) h1) h⟩
theorem pred_cast0 (p : Nat) : (((p + 1 : Nat) : Int) - 1) = (p : Int) := by omega
theorem form_step (w : World) {d : Nat} (hd : d ≤ 2) (IH : ∀ d', d' + 1 = d → FormOk d') {a b : Int} (hs : SrcOk a b) : Fn w 171 (2 * d + 8) (10 * d + 80) [.slot 0, .d (.int (d : Nat))] (srcO a b) (FormP d) := by
  refine @Fn.enterC2 _ (2 * d + 7) (10 * d + 77) (srcO a b) (FormP d) w 171 "source" "deep" _ _ _ (by (exact DefAtC.of (by k_is) (by k_is) (bnd2 (by intros; exact BindsTo.of_eq rfl)) (by decide +kernel) (by decide +kernel) rfl rfl rfl (by decide +kernel))) (fun _ => rfl) rfl rfl rfl rfl fun C hw => ?_
  refine pS_cut tb_ok 60 (fun v o => ∃ (i : Nat) (a b : Int), v = .d (.int (i : Nat)) ∧ SrcOk a b ∧ o = srcO a b) ?_ ?_
  · by_cases h2 : d < 2
    · refine bT (decide_eq_true (Int.ofNat_lt.mpr h2)) ?_
      refine lk <| WCall_of (own2 := []) (fun w => take_fn w (top := 5) (by decide) (by decide) hs) ?_ rfl (blL rfl) (blL rfl) rfl rfl
      rintro _ _ hl ⟨i, a', b', hi, rfl, hs', rfl⟩
      exact ⟨i, a', b', rfl, hs', rfl⟩
    · refine bF (decide_eq_false fun h => h2 (Int.ofNat_lt.mp h)) ?_
      exact ⟨0, a, b, rfl, hs, rfl⟩
  · rintro _ _ ⟨i, a, b, rfl, hs, rfl⟩
    refine And.intro rfl (wpS_split tb_ok 3 60 rfl rfl ?_)
    by_cases h3 : i = 3
    · refine bT (beq_iff_eq.mpr (by rw [h3]; rfl)) ?_
      refine lk <| pE_listF tb_ok 9 ?_
      refine lk <| WCall_of (own2 := []) (fun w => one_fn w (Nat.le_of_ble_eq_true rfl) (Nat.le_of_ble_eq_true rfl) hs) ?_ rfl (blL rfl) (blL rfl) rfl rfl
      rintro _ _ hl ⟨x, a, b, hx, rfl, hs, rfl⟩
      obtain ⟨k, rfl, hk⟩ := strs_mem (l := [Str.ofString "comment", Str.ofString "text"]) (P := fun z => PyData.strOk z = true) hx (by decide +kernel)
      refine lk <| pE_listF tb_ok 9 ?_
      refine lk <| WCall_of (own2 := []) (fun w => one_fn w (Nat.le_of_ble_eq_true rfl) (Nat.le_of_ble_eq_true rfl) hs) ?_ rfl (blL rfl) (blL rfl) rfl rfl
      rintro _ _ hl ⟨x, a, b, hx, rfl, hs, rfl⟩
      obtain ⟨v, rfl, hv⟩ := strs_mem (l := [Str.ofString "x", Str.ofString "y"]) (P := fun z => PyData.strOk z = true) hx (by decide +kernel)
      have ho := leaf_ok (x := Str.ofString "") hk (by decide +kernel) hv (d := d)
      exact Ex_of (own' := srcO a b) rfl rfl rfl (Nat.le_refl _) ⟨_, a, b, rfl, ho.1, ho.2, hs, rfl⟩
    refine bF (beq_eq_false_iff_ne.mpr fun e => h3 (Int.ofNat.inj e)) ?_
    by_cases h4 : i = 4
    · refine bT (beq_iff_eq.mpr (by rw [h4]; rfl)) ?_
      refine lk <| pE_listF tb_ok 9 ?_
      refine lk <| WCall_of (own2 := []) (fun w => one_fn w (Nat.le_of_ble_eq_true rfl) (Nat.le_of_ble_eq_true rfl) hs) ?_ rfl (blL rfl) (blL rfl) rfl rfl
      rintro _ _ hl ⟨x, a, b, hx, rfl, hs, rfl⟩
      obtain ⟨k, rfl, hk⟩ := strs_mem (l := [Str.ofString "t", Str.ofString "u"]) (P := fun z => PyData.strOk z = true) hx (by decide +kernel)
      refine lk <| pE_listF tb_ok 9 ?_
      refine lk <| WCall_of (own2 := []) (fun w => one_fn w (Nat.le_of_ble_eq_true rfl) (Nat.le_of_ble_eq_true rfl) hs) ?_ rfl (blL rfl) (blL rfl) rfl rfl
      rintro _ _ hl ⟨x, a, b, hx, rfl, hs, rfl⟩
      obtain ⟨v, rfl, hv⟩ := strs_mem (l := [Str.ofString "", Str.ofString "z"]) (P := fun z => PyData.strOk z = true) hx (by decide +kernel)
      have ho := leaf_ok (k := Str.ofString "instruction") (by decide +kernel) hk hv (d := d)
      exact Ex_of (own' := srcO a b) rfl rfl rfl (Nat.le_refl _) ⟨_, a, b, rfl, ho.1, ho.2, hs, rfl⟩
    refine bF (beq_eq_false_iff_ne.mpr fun e => h4 (Int.ofNat.inj e)) ?_
    refine lk <| pE_listF tb_ok 9 ?_
    refine lk <| WCall_of (own2 := []) (fun w => one_fn w (Nat.le_of_ble_eq_true rfl) (Nat.le_of_ble_eq_true rfl) hs) ?_ rfl (blL rfl) (blL rfl) rfl rfl
    rintro _ _ hl ⟨x, a, b, hx, rfl, hs, rfl⟩
    obtain ⟨lab, rfl, hlab⟩ := lab_of hx
    refine bT rfl ?_
    refine pS_cut tb_ok 60 (fun v o => ∃ (n : Nat) (a b : Int), v = .d (.int (n : Nat)) ∧ SrcOk a b ∧ o = srcO a b ∧ n ≤ 2 ∧ (d = 0 → n = 0)) ?_ ?_
    · by_cases h2 : d < 2
      · refine bT (decide_eq_true (Int.ofNat_lt.mpr h2)) ?_
        refine lk <| WCall_of (own2 := []) (fun w => take_fn w (top := d + 1) (Nat.succ_le_succ (Nat.zero_le _)) (Nat.le_trans (Nat.succ_le_succ hd) (by decide)) hs) ?_ rfl (blL rfl) (blL rfl) rfl rfl
        rintro _ _ hl ⟨i, a', b', hi, rfl, hs', rfl⟩
        exact ⟨i, a', b', rfl, hs', rfl, Nat.le_trans (Nat.le_of_lt_succ hi) hd, fun e => by subst e; exact Nat.le_zero.mp (Nat.le_of_lt_succ hi)⟩
      · refine bF (decide_eq_false fun h => h2 (Int.ofNat_lt.mp h)) ?_
        refine lk <| WCall_of (own2 := []) (fun w => take_fn w (top := 2) (by decide) (by decide) hs) ?_ rfl (blL rfl) (blL rfl) rfl rfl
        rintro _ _ hl ⟨i, a', b', hi, rfl, hs', rfl⟩
        exact ⟨1 + i, a', b', rfl, hs', rfl, Nat.add_le_add_left (Nat.le_of_lt_succ hi) 1, fun e => (h2 (by rw [e]; decide)).elim⟩
    · rintro _ _ ⟨n, a, b, rfl, hs, rfl, hn, h0⟩
      refine And.intro rfl (wpS_ok tb_ok 60 ?_)
      refine lk <| WE_comp (cap := [("source", .slot 0), ("deep", .d (.int (d : Nat)))]) (Cap.of ["source", "deep"] rfl rfl (by (repeat' (first | exact FrIs.nil | exact FrIs.refl | refine FrIs.cons rfl ?_ | refine FrIs.cons (congrArg (fun z => some (V.d (.int z))) (pred_cast _)) ?_))) (by decide +kernel) (by decide +kernel) (by decide +kernel) rfl (by decide +kernel) (by decide +kernel) (by decide +kernel)) (wpE_ok tb_ok 20 ?_)
      refine lk <| WF_range n rfl ?_
      refine Exists.intro n (Exists.intro _ (Exists.intro (fun i ys o => ∃ (fs : List Form) (a b : Int), o = srcO a b ∧ SrcOk a b ∧ ys = datas fs ∧ oks fs ∧ heights fs ≤ d ∧ fs.length = i) (And.intro rfl (And.intro (Nat.le_trans hn (by decide)) (And.intro ⟨[], a, b, rfl, hs, rfl, trivial, Nat.zero_le _, rfl⟩ (And.intro ?_ ?_))))))
      · rintro C' i ys own hi ⟨fs, a, b, rfl, hs, rfl, h1, h2, h3⟩
        obtain ⟨d', rfl⟩ := Nat.exists_eq_succ_of_ne_zero (n := d) fun e => by rw [h0 e] at hi; exact Nat.not_lt_zero _ hi
        have ih := IH d' rfl
        unfold FormOk at ih
        rw [← pred_cast0] at ih
        refine wpE_ok tb_ok 20 ?_
        refine lk <| WCall_of (own2 := []) (fun w => ih w a b hs) ?_ rfl (blS 2 rfl) (blS 10 rfl) rfl rfl
        rintro _ _ hl ⟨f, a, b, rfl, hf, hh, hs, rfl⟩
        exact ⟨f.data, rfl, fs ++ [f], a, b, rfl, hs, datas_snoc, oks_snoc h1 hf, heights_snoc h2 hh, by rw [List.length_append, h3]; rfl⟩
      · rintro ys o ⟨fs, a, b, rfl, hs, rfl, h1, h2, h3⟩
        have hlen : (datas fs).length ≤ 1000 := by rw [datas_map, List.length_map, h3]; exact Nat.le_trans hn (by decide)
        refine lk <| WF_tupleL hlen ?_
        refine bT rfl ?_
        refine lk <| WCall_of (own2 := []) (fun w => told_fn w hs) ?_ rfl (blL rfl) (blL rfl) rfl rfl
        rintro _ _ hl ⟨atts, a, b, rfl, hat, hs, rfl⟩
        refine Ex_of (own' := srcO a b) rfl rfl rfl (Nat.le_refl _) ⟨.mk (Str.ofString "element") lab (Str.ofString "") atts fs, a, b, rfl, ⟨hlab, by decide +kernel, by decide +kernel, hat, by rw [h3]; exact hn, h1⟩, ?_, hs, rfl⟩
        rw [Form.height, Nat.add_comm]; exact Nat.succ_le_succ h2
theorem form_all (d : Nat) (hd : d ≤ 2) : FormOk d := by
  induction d with
  | zero => exact fun w a b hs => form_step w hd (fun _ e => nomatch e) hs
  | succ d ih => exact fun w a b hs => form_step w hd (fun d' e => by obtain rfl := Nat.succ.inj e; exact ih (Nat.le_of_succ_le hd)) hs
theorem form_fn (w : World) {a b : Int} (hs : SrcOk a b) : Fn w 171 12 100 [.slot 0, .d (.int 2)] (srcO a b) (FormP 2) := form_all 2 (Nat.le_refl _) w a b hs
end
section
theorem pool_nn {c : Int} {b : Bool} : 0 ≤ (if -1 - c > c then -1 - c else c) * (if b = true then 1 else 0) := by
  refine Int.mul_nonneg ?_ ?_
  · split <;> omega
  · cases b <;> decide
theorem bits_b {b : Bool} : Builtin.Int.intBits (if b = true then 1 else 0) ≤ 64 := by cases b <;> decide
theorem pool_fn (w : World) {a : Addr} {ns : List Int} (hz : ns.length ≤ 1000) : FnG (Scr a ns) 1 w 145 3 40 [.raw a, .d (.int 0)] [] fun r o => r = .slot 0 ∧ ∃ x y, SrcOk x y ∧ o = srcO x y := by
  refine FnG.enter (D := 2) (U := 37) (xs := ["script", "k"]) (by (exact DefAt.of (by k_is) (by k_is) (bnd2 (by intros; exact BindsTo.of_eq rfl)) (by decide +kernel) (by decide +kernel) rfl rfl rfl (by decide +kernel))) rfl rfl (Nat.zero_le _) (fun _ _ h k => h.keep k) fun C hw H => ?_
  refine pS_mid tb_ok 2 60 (fun fr' o => ∃ c : Int, FrIs fr' [("cell", .d (.int c)), ("k", .d (.int 0))] ∧ o = []) rfl rfl ?_ ?_
  · refine lk <| WF_lenRaw H hz ?_
    by_cases h0 : (0 : Int) < (ns.length : Int)
    · refine bT (decide_eq_true h0) ?_
      have hx : ns[0]? = some ns[0] := List.getElem?_eq_getElem (Int.ofNat_lt.mp h0)
      refine lk <| WSub_raw H (by decide) hx ?_
      exact ⟨ns[0], by (repeat' (first | exact FrIs.nil | exact FrIs.refl | refine FrIs.cons rfl ?_ | refine FrIs.cons (congrArg (fun z => some (V.d (.int z))) (pred_cast _)) ?_)), rfl⟩
    · refine bF (decide_eq_false h0) ?_
      exact ⟨0, by (repeat' (first | exact FrIs.nil | exact FrIs.refl | refine FrIs.cons rfl ?_ | refine FrIs.cons (congrArg (fun z => some (V.d (.int z))) (pred_cast _)) ?_)), rfl⟩
  · rintro fr' _ ⟨c, hf, rfl⟩
    refine WS.less (wpS_ok tb_ok 60 ?_) hf
    refine lk <| WBin_mod (by decide) ?_
    refine lk <| WBin_mul (mulok_b (by decide) (by decide)) ?_
    refine lk <| WBin_mul (mulok_b (by decide) (by decide)) ?_
    refine lk <| WBin_mul (mulok_b (by decide) (by decide)) ?_
    refine lk <| WBin_mul (.of_right (by decide)) ?_
    refine lk <| WBin_mod (by decide) ?_
    refine lk <| pE_listS tb_ok 30 ?_
    refine lk <| WBin_pow (by decide) (by decide) (by decide) ?_
    refine lk <| WBin_mul (.of_right bits_b) ?_
    exact Ex_of (own' := _) rfl rfl rfl (Nat.le_of_ble_eq_true rfl) ⟨rfl, _, _, ⟨pool_nn, Int.fmod_nonneg_of_pos _ (by decide), Int.fmod_lt_of_pos _ (by decide)⟩, rfl⟩
theorem node_fn (w : World) {n : Str} {fs : List Form} (hz : fs.length ≤ 2) : Fn w 221 3 40 [.d (.str n), .d (.list (datas fs))] [] fun r _ => r = .d (Form.mk (Str.ofString "element") (.t n (Str.ofString "") n) (Str.ofString "") [] fs).data := by
  refine Fn.enters (D := 2) (U := 37) (xs := ["name", "children"]) (by (exact DefAt.of (by k_is) (by k_is) (bnd2 (by intros; exact BindsTo.of_eq rfl)) (by decide +kernel) (by decide +kernel) rfl rfl rfl (by decide +kernel))) rfl rfl (by omega) (by omega) fun C hw => ?_
  refine wpS_ok tb_ok 60 ?_
  refine lk <| WF_tupleL (by rw [datas_map, List.length_map]; omega) ?_
  exact Ex_d rfl
end
section
noncomputable abbrev lawCx {w : World} {s₁ : Shared} {mean : ExcName → Option Value} {mg mb : Str → Option Value} (name : Str) (scope : Scope) (fa : Addr) (cd : Value) (T : Top hd.view_39 (looseW hd.view_39 []) mean mg mb s₁.heap) (KX : (KF w).In s₁.heap) (hk : scope.kind = .function) : Cx scope 70 500 where
  w := w
  A := callerA.deeper (envOf name scope s₁.heap.objs.size fa cd)
  env := envOf name scope s₁.heap.objs.size fa cd
  fenv := envOf name scope s₁.heap.objs.size fa cd
  outer := []
  A₀ := callerA
  base := s₁.heap
  h₀ := s₁.heap
  L := s₁.heap.objs.size
  mean := mean
  mg := mg
  mb := mb
  fx := []
  mx := []
  hmx := fun _ h => h
  cm := none
  gens := s₁.gens
  drawn := s₁.drawn
  os := s₁.os
  hh := rfl
  hA := rfl
  hf := rfl
  hfk := hk
  hsc := rfl
  hk := hk
  B := below_caller _
  X := KX
  T := T
  room := by show callerA.depth + 1 + 70 < recursionLimit; decide +kernel
  units := by show callerA.units + 3 + 500 < cLine; decide +kernel
  glob := rfl
  bui := rfl
  loc := rfl
theorem law_run {w : World} {s₁ : Shared} {h₁ : Heap} {tk : Nat} {mean : ExcName → Option Value} {mg mb : Str → Option Value} {name : Str} {scope : Scope} {body : List Stmt} {fa : Addr} {cd : Value} {x : Str} {a : Addr} {vs : List Value} {ns : List Int} {Q : Flow → Shared → Prop} {E : Value → Shared → Prop}
    (T : Top hd.view_39 (looseW hd.view_39 []) mean mg mb s₁.heap) (KX : (KF w).In s₁.heap) (F : Fr s₁.heap s₁.heap.objs.size h₁ fun y => List.lookup y [(x, Value.ref a)].reverse) (hl : s₁.heap.IsList a vs.toArray) (hi : IntsAre vs ns)
    (hQ : ∀ s', (∀ b o, s₁.heap.get? b = some o → s'.heap.get? b = some o) → s'.os = s₁.os → s'.gens = s₁.gens → Q (.ret (.bool true)) s') (hk : scope.kind = .function) (hx : scope.names.lookup x = some .local)
    (hW : ∀ C : Cx scope 70 500, Scr a ns C.h₀ → WS C body [(x, .raw a)] [] (fun _ _ => False) fun r _ => r = .d (.bool true)) :
    wpAny (model Pg w) (callerA.deeper (envOf name scope s₁.heap.objs.size fa cd)) (execs body (envOf name scope s₁.heap.objs.size fa cd)) Q E { s₁ with heap := h₁, toks := tk } := by
  have S : St (lawCx (s₁ := s₁) name scope fa cd T KX hk) _ [] [] [(x, .raw a)] [] { s₁ with heap := h₁, toks := tk } :=
    ⟨F, fun _ h => (nomatch h), .nil, fun _ _ _ h => by simp at h, fun _ h => (nomatch h), fun _ h => (nomatch h), rfl, fun y d e => by
      rw [List.lookup_cons] at e
      cases q : y == x with
      | false => rw [q] at e; cases e
      | true =>
        rw [q] at e
        cases e
        obtain rfl := eq_of_beq q
        exact ⟨.ref a, .inl ⟨hx, by show List.lookup y [(y, Value.ref a)] = _; rw [List.lookup_cons, beq_self_eq_true]⟩, rfl⟩, rfl, rfl, rfl⟩
  refine wpAny_mono (hW (lawCx (s₁ := s₁) name scope fa cd T KX hk) ⟨vs, hl, hi⟩ rfl _ [] [] _ Q S (fun _ _ _ _ _ _ _ _ h => h.elim) ?_) (fun _ _ z => z) fun _ _ z => z.elim
  rintro v _ m' own' ro' sl' s' S' x' hv rfl
  obtain rfl : v = .bool true := hv
  exact hQ s' S'.F.keep S'.os S'.gens
theorem law_post (args : List WData) : PySem.Challenge.rw_on0183_01.row.claim.post args (.bool true) args = true := by
  refine postW_of (X := true) rfl ?_ rfl
  show WTm.value _ (.eq .res (.lit (.bool true))) _ = _
  simp [WTm.value]
  first | rfl | decide +kernel
theorem law_good {c : ClaimW} {cl : Str → Option Addr} {mean : ExcName → Option Value} {args : List WData} {s₁ s' : Shared} (h1 : ∀ b o, s₁.heap.get? b = some o → s'.heap.get? b = some o) (h2 : s'.os = s₁.os) (h3 : s'.gens = #[])
    (h4 : ∀ cls, c.raises args cls = false) (h5 : c.post args (.bool true) args = true) : GoodW c cl mean args s₁ (.ok (.ret (.bool true))) s' :=
  ⟨.inl ⟨.bool true, .bool true, [], rfl, h4, .bool true, h5, fun _ => ⟨.nil, fun _ h => nomatch h⟩⟩, h1, h2, h3⟩
noncomputable abbrev nodeF (n : Str) (fs : List Form) : Form := .mk (Str.ofString "element") (.t n (Str.ofString "") n) (Str.ofString "") [] fs
noncomputable abbrev textF (x : Str) : Form := .mk (Str.ofString "text") (.s (Str.ofString "")) x [] []
theorem node_ok {n : Str} {fs : List Form} (hn : PyData.strOk n = true) (hz : fs.length ≤ 2) (h : oks fs) : (nodeF n fs).ok := ⟨⟨hn, by decide +kernel, hn⟩, by decide +kernel, by decide +kernel, by decide +kernel, hz, h⟩
theorem text_ok {x : Str} (hx : PyData.strOk x = true) : (textF x).ok := (leaf_ok (d := 0) (by decide +kernel) (by decide +kernel) hx).1
theorem ka : PyData.strOk (Str.ofString "a") = true := by decide +kernel
theorem kb : PyData.strOk (Str.ofString "b") = true := by decide +kernel
theorem kx : PyData.strOk (Str.ofString "x") = true := by decide +kernel
theorem ky : PyData.strOk (Str.ofString "y") = true := by decide +kernel
noncomputable def wordAt : Nat → Str
  | 0 => Str.ofString "x"
  | _ => Str.ofString "y"
theorem word_at {i : Nat} (h : i < 2) : [PyData.str (Str.ofString "x"), .str (Str.ofString "y")].getD i .none = .str (wordAt i) := by
  rcases i with _ | _ | i
  · rfl
  · rfl
  · omega
theorem law_holds : PySem.Challenge.rw_on0183_01.Holds := Mine.hd (by
  k_go0
  refine law_run (by assumption) (by assumption) (by assumption) (by assumption) (by assumption) ?_ rfl rfl ?_
  · intro s' h1 h2 h3
    exact law_good h1 h2 (h3.trans (by assumption)) (fun _ => rfl) (law_post _)
  · have hz : (_ : List Int).length ≤ 1000 := Nat.le_trans (Int.ofNat_le.mp (Int.not_lt.mp (by assumption))) (by decide)
    intro C H
    refine wpS_ok tb_ok 60 ?_
    refine lk <| pE_listF tb_ok 40 ?_
    refine lk <| WCall_read (fun w => node_fn w (n := Str.ofString "a") (fs := []) (Nat.zero_le _)) ?_ rfl rfl rfl
    rintro _ rfl
    refine lk <| pE_listF tb_ok 40 ?_
    refine lk <| pE_listF tb_ok 40 ?_
    refine lk <| pE_listF tb_ok 40 ?_
    refine lk <| WCall_read (fun w => node_fn w (n := Str.ofString "a") (fs := []) (Nat.zero_le _)) ?_ rfl rfl rfl
    rintro _ rfl
    refine lk <| WCall_read (fun w => node_fn w (n := Str.ofString "b") (fs := [nodeF (Str.ofString "a") []]) (Nat.le_of_ble_eq_true rfl)) ?_ rfl rfl rfl
    rintro _ rfl
    refine lk <| WCall_read (fun w => node_fn w (n := Str.ofString "a") (fs := [nodeF (Str.ofString "b") [nodeF (Str.ofString "a") []]]) (Nat.le_of_ble_eq_true rfl)) ?_ rfl rfl rfl
    rintro _ rfl
    refine lk <| WCall_read (fun w => right_fn w (f := nodeF (Str.ofString "a") []) (g := nodeF (Str.ofString "a") [nodeF (Str.ofString "b") [nodeF (Str.ofString "a") []]]) (Nat.le_of_ble_eq_true rfl) (Nat.le_of_ble_eq_true rfl) (node_ok ka (Nat.zero_le _) trivial) (node_ok ka (Nat.le_of_ble_eq_true rfl) ⟨node_ok kb (Nat.le_of_ble_eq_true rfl) ⟨node_ok ka (Nat.zero_le _) trivial, trivial⟩, trivial⟩)) ?_ rfl rfl rfl
    rintro _ rfl
    refine lk <| WT_unpL (WE_map (cap := []) (Cap.of [] rfl rfl FrIs.nil (by decide +kernel) (by decide +kernel) (by decide +kernel) rfl (by decide +kernel) (by decide +kernel) (by decide +kernel)) (fun i => (nodeF (Str.ofString "a") [textF (wordAt i)]).data) (pE_listF tb_ok 40 ?_))
    refine Exists.intro 2 (Exists.intro _ (And.intro rfl (And.intro (Nat.le_of_ble_eq_true rfl) (And.intro ?_ ?_))))
    · intro C' i hi
      rw [word_at hi]
      refine wpE_ok tb_ok 40 ?_
      refine lk <| pE_listF tb_ok 40 ?_
      refine lk <| WCall_read (fun w => node_fn w (n := Str.ofString "a") (fs := [textF (wordAt i)]) (Nat.le_of_ble_eq_true rfl)) ?_ rfl rfl rfl
      rintro _ rfl
      exact And.intro rfl rfl
    refine Exists.intro _ (Exists.intro _ (And.intro rfl ?_))
    refine lk <| pE_listF tb_ok 40 ?_
    refine lk <| pE_listF tb_ok 40 ?_
    refine lk <| WCall_read (fun w => node_fn w (n := Str.ofString "b") (fs := []) (Nat.zero_le _)) ?_ rfl rfl rfl
    rintro _ rfl
    refine lk <| WCall_read (fun w => node_fn w (n := Str.ofString "a") (fs := [nodeF (Str.ofString "a") [textF (wordAt 0)], nodeF (Str.ofString "b") []]) (Nat.le_of_ble_eq_true rfl)) ?_ rfl rfl rfl
    rintro _ rfl
    refine lk <| pE_listF tb_ok 40 ?_
    refine lk <| pE_listF tb_ok 40 ?_
    refine lk <| WCall_read (fun w => node_fn w (n := Str.ofString "b") (fs := []) (Nat.zero_le _)) ?_ rfl rfl rfl
    rintro _ rfl
    refine lk <| WCall_read (fun w => node_fn w (n := Str.ofString "a") (fs := [nodeF (Str.ofString "b") [], nodeF (Str.ofString "a") [textF (wordAt 1)]]) (Nat.le_of_ble_eq_true rfl)) ?_ rfl rfl rfl
    rintro _ rfl
    refine lk <| WCall_read (fun w => right_fn w (f := nodeF (Str.ofString "a") [nodeF (Str.ofString "a") [textF (wordAt 0)], nodeF (Str.ofString "b") []]) (g := nodeF (Str.ofString "a") [nodeF (Str.ofString "b") [], nodeF (Str.ofString "a") [textF (wordAt 1)]]) (Nat.le_of_ble_eq_true rfl) (Nat.le_of_ble_eq_true rfl) (node_ok ka (Nat.le_of_ble_eq_true rfl) ⟨node_ok ka (Nat.le_of_ble_eq_true rfl) ⟨text_ok kx, trivial⟩, node_ok kb (Nat.zero_le _) trivial, trivial⟩) (node_ok ka (Nat.le_of_ble_eq_true rfl) ⟨node_ok kb (Nat.zero_le _) trivial, node_ok ka (Nat.le_of_ble_eq_true rfl) ⟨text_ok ky, trivial⟩, trivial⟩)) ?_ rfl rfl rfl
    rintro _ rfl
    refine lk <| WCall_G (fun w => pool_fn w hz) H ?_ rfl rfl
    rintro _ _ hl ⟨rfl, x, y, hs, rfl⟩
    refine bT rfl ?_
    refine lk <| WCall_of (own2 := []) (fun w => form_fn w hs) ?_ rfl rfl rfl rfl rfl
    rintro _ _ hl ⟨f, x, y, rfl, hf, hh, hs, rfl⟩
    refine bT rfl ?_
    refine lk <| WCall_of (own2 := []) (fun w => take_fn w (top := 6) (by decide) (by decide) hs) ?_ rfl rfl rfl rfl rfl
    rintro _ _ hl ⟨i, x, y, hi, rfl, hs, rfl⟩
    by_cases h0 : (0 : Int) < (i : Int)
    · refine bT (decide_eq_true h0) ?_
      refine lk <| WCall_of (own2 := []) (fun w => form_fn w hs) ?_ rfl rfl rfl rfl rfl
      rintro _ _ hl ⟨g, x, y, rfl, hg, hk, hs, rfl⟩
      refine lk <| WCall_read (fun w => right_fn w hh hk hf hg) ?_ rfl rfl rfl
      rintro _ rfl
      rfl
    · refine bF (decide_eq_false h0) ?_
      refine lk <| WCall_read (fun w => right_fn w hh hh hf hf) ?_ rfl rfl rfl
      rintro _ rfl
      rfl)
end
end Mine
theorem PySem.Challenge.cw_on0183_01_holds : PySem.Challenge.rw_on0183_01.Holds := by
  exact Mine.law_holds
