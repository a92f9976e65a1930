import PyProof.Rows.All
import Wide.All
import OpenK.AllK
import Wide.FinOn
import PySem.Challenge.RW_qz0120_01
open PySem PySem.W PyProof.Rows PySem.Calls
set_option Elab.async false
set_option maxRecDepth 100000
set_option maxHeartbeats 40000000
set_option rowWalk.seconds 0
namespace Mine
open_top hd for PySem.Challenge.rw_qz0120_01
section
variable {prog : Program} {w : World} {A₀ A : Around} {s : Shared} {base h₀ : Heap} {outer : List Env} {L : Addr} {m : Str → Option Value} {env : Env} {news rest : List (Addr × Obj)} {K : Frag}
  {R : Result → Shared → Prop} {name qual : Str} {params : Arguments} {body : List Stmt} {scope : Scope} {dV kV doc pm cdv ct oc : Value} {an od : Option Addr} {osl : Array (Option Value)} {f : Addr} {args : Args} {binds : List (Str × Value)}
  {p : Program} {loose : List Str} {mean : ExcName → Option Value} {mg mb : Str → Option Value}
/-- a call of a def: what the callee is not told of (rest) stands as it stood -/
theorem code_rest (NR : News h₀ L s.heap rest) (hdis : ∀ b ∈ news.map (·.1), ∀ q ∈ rest, q.1 ≠ b)
    (B : Below A₀ base outer h₀) (F : Fr h₀ L s.heap m) (X₀ : K.In h₀) (N : News h₀ L s.heap news) (T : Top p loose mean mg mb h₀) (hA : A.frames = some (env :: outer)) (hf : env.frame = some L) (hke : env.scope.kind = .function)
    (ho : K.lookup f = some ⟨oc, od, .func (fnOf name qual params body scope dV kV doc pm an cdv ct), osl⟩) (hcd : codeIn K cdv qual = true) (hroom : A.depth < recursionLimit)
    (hbind : BindsTo s (fnOf name qual params body scope dV kV doc pm an cdv ct) args binds) (hloc : ∀ y ∈ binds, scope.names.lookup y.1 = some .local)
    (h : ∀ g L' h₁, Fr h₀ L g m → Fr g L' h₁ (fun y => binds.reverse.lookup y) → News g L' h₁ news → Below A base (env :: outer) g → K.In g → Top p loose mean mg mb g →
      wpAny (model prog w) (A.deeper (envOf qual scope L' f cdv)) (execs body (envOf qual scope L' f cdv))
        (fun fl s' => LeaveK h₀ L m g (fun r s'' => News h₀ L s''.heap rest → R r s'') (match fl with | .ret v => v | _ => .none) s')
        (fun e s' => wpAny (model prog w) (A.deeper (envOf qual scope L' f cdv)) (leaving (envOf qual scope L' f cdv) e) (fun _ s'' => R (.error e) s'') (fun e' s'' => R (.error e') s'') s')
        { s with heap := h₁, toks := s.toks + binds.length })
    (hco : scope.isCoroutine = false) (hgen : scope.isGenerator = false) (hk : scope.kind = .function)
    (hcell : ∀ x ∈ scope.names, x.2 ≠ .cell) : codeAny (model prog w) A (.call (.ref f) args) R s := by
  obtain ⟨FG, BG, st, lv⟩ := groundX (R := fun r s'' => News h₀ L s''.heap rest → R r s'') B F N hA hf hke
  refine codeAny_call_def (fd := fnX name qual params body scope [] dV kV doc pm an cdv ct) (body := body) (binds := binds) hroom ((X₀.keeps F.keep) _ _ ho) rfl (T.nolimit.keeps F.keep) (codeRec_of (X₀.keeps F.keep) hcd) rfl hbind hcell hloc (fun h₁ hns hk₁ => ?_) hco hgen hk
  refine wpAny_mono (h _ s.heap.objs.size h₁ FG ⟨hns, fun b o e => hk₁ b o (of_hideAll _ e), Nat.le_of_eq (hideAll_size _ _)⟩
    (fun p hp => ⟨hk₁ _ _ (N p hp).1, Nat.ne_of_lt (Heap.lt_size (N p hp).1), hideAll_none _ (List.mem_map_of_mem hp)⟩) BG (X₀.keeps st) (T.keeps st)) (fun fl s' hl => ?_) fun _ _ y => y
  have hl' := hl
  obtain ⟨L', m', news', F', -, -⟩ := hl'
  refine lv _ _ hl fun q hq => ⟨F'.keep _ _ (hideAll_get _ (NR q hq).1 fun hm => ?_), (NR q hq).2⟩
  exact hdis _ hm q hq rfl
end

theorem news_join {h₀ h : Heap} {L : Addr} {l l' : List (Addr × Obj)} (N : News h₀ L h l) (N' : News h₀ L h l') : News h₀ L h (l ++ l') := fun p hp => (List.mem_append.mp hp).elim (N p) (N' p)
theorem news_cons {h₀ h : Heap} {L : Addr} {q : Addr × Obj} {l : List (Addr × Obj)} {x : List (Addr × Obj)} (N : News h₀ L h x) (hq : q ∈ x) (r : News h₀ L h l) : News h₀ L h (q :: l) := fun p hp => (List.mem_cons.mp hp).elim (fun e => e ▸ N q hq) (r p)
def AB (t : PySem.Str) : Prop := ∀ i : Int, 0 ≤ i → i < (t.length : Int) → Txt.item t i = Str.ofString "a" ∨ Txt.item t i = Str.ofString "b"
theorem item_ab {prog : Program} {w : World} {A : Around} {E : Value → Shared → Prop} {s : Shared} {value slice : PySem.Expr} {x : PySem.Str} {t u : Tok} {i : Int} {Q : Value → Shared → Prop}
    (hx : AB x) (h0 : 0 ≤ i) (h1 : i < (x.length : Int)) (hn : x.length ≤ 16777216) (ha : Txt.item x i = Str.ofString "a" → Q (.str (Str.ofString "a") s.toks) { s with toks := s.toks + 1 }) (hb : Txt.item x i = Str.ofString "b" → Q (.str (Str.ofString "b") s.toks) { s with toks := s.toks + 1 })
    (hs : subscripted slice false (.str x t) (.int i u) = operate [.str x t, .int i u] (getItem (.str x t) (.int i u)) := by with_unfolding_all rfl)
    (ht : ∀ r, letTemporaryGo value (.str x t) r = pure () := by intro _; with_unfolding_all rfl) :
    wpAny (model prog w) A (subscriptTail value slice (.str x t) (.int i u)) Q E s := by
  refine KXi.item rfl (by omega) h1 hn (fun _ => ?_) hs ht
  rcases hx i h0 h1 with e | e
  · have := ha e; rw [← e] at this; exact this
  · have := hb e; rw [← e] at this; exact this
section
variable {prog : Program} {w : World} {A : Around} {E : Value → Shared → Prop} {s : Shared} {env : Env} {test : PySem.Expr} {body orelse : List Stmt} {Q : Flow → Shared → Prop} {k : Nat}
theorem whl_turn2 {C : Shared → Prop} (hC : ∀ s, C s → WhlRest prog w A E env test body orelse Q 0 s) (hE : PassesOwn (model prog w) A env E)
    (h : wpAny (model prog w) A (isTrue test env (eval test env)) (fun b s₂ => WhlIf b (wpAny (model prog w) A (execs body env) (fun f s₃ => match f with | .next => C s₃ | .cont => C s₃ | .brk => Q .next s₃ | .ret v => Q (.ret v) s₃) E s₂) (wpAny (model prog w) A (execs orelse env) Q E s₂)) E s) :
    WhlRest prog w A E env test body orelse Q k s := by
  refine whl_turn (k := k) hE (wpAny_mono h (fun b s₂ h₂ => ?_) fun _ _ y => y)
  cases b with
  | false => exact h₂
  | true =>
    refine wpAny_mono h₂ (fun f s₃ h₃ => ?_) fun _ _ y => y
    cases f with
    | next => exact hC _ h₃
    | cont => exact hC _ h₃
    | brk => exact h₃
    | ret v => exact h₃
def LoopEnd (J : Nat → Shared → Prop) (n : Nat) (s : Shared) : Prop := ∃ n', n' < n ∧ J n' s
theorem whl_inv {J : Nat → Shared → Prop} (hs : ∀ n s, (∀ s, LoopEnd J n s → WhlRest prog w A E env test body orelse Q 0 s) → J n s → WhlRest prog w A E env test body orelse Q 0 s) {n₀ : Nat} (h0 : J n₀ s) : WhlRest prog w A E env test body orelse Q k s := by
  have all : ∀ n, ∀ s, LoopEnd J n s → WhlRest prog w A E env test body orelse Q 0 s := by
    intro n
    induction n with
    | zero => rintro s ⟨_, h, _⟩; exact absurd h (Nat.not_lt_zero _)
    | succ n ih =>
      rintro s ⟨n', h, hj⟩
      exact hs n' s (fun s ⟨m, hm, hj⟩ => ih s ⟨m, Nat.lt_of_lt_of_le hm (Nat.le_of_lt_succ h), hj⟩) hj
  exact all (n₀ + 1) s ⟨n₀, Nat.lt_succ_self _, h0⟩
end
theorem cut_all {M : Model} {A : Around} {E : Value → Shared → Prop} {s : Shared} {t : Sem Value} {Q : Value → Shared → Prop} (h : ∀ v, Q v s) (hc : (∀ v, Q v s) → wpAny M A t Q E s) : wpAny M A t Q E s := hc h
section
variable {prog : Program} {w : World} {K : Type} [DecidableEq K] {knd : KeyKind prog w K} {A : Around} {E : Value → Shared → Prop} {s : Shared}

theorem dictPut_fresh {d : Addr} {kvs : List (K × Value)} {k : K} {key v : Value} {Q : Unit → Shared → Prop} (hkey : knd.is k key = true) (hm : s.heap.DictOf knd d kvs) (hnot : k ∉ kvs.map (·.1))
    (hsz : kvs.length ≤ sizeLine) (hQ : ∀ h', h'.DictOf knd d (kvs ++ [(k, v)]) → Heap.SameBut d s.heap h' → Q () { s with heap := h' }) :
    wpAny (model prog w) A (dictPut d (knd.hash k) key v) Q E s := by
  obtain ⟨o, es, ep, ho, hc, hd, hk, hp, hn⟩ := hm
  have hes : es.size ≤ sizeLine := by
    have e1 := hp.length
    have e2 : es.toList.length = es.size := by simp
    omega
  have hidx : (es.findIdx? fun e => knd.is k e.key) = kvs.findIdx? fun kv => decide (kv.1 = k) := by
    rw [← hp.findIdx k]; obtain ⟨l⟩ := es; simp
  have hnone : kvs.findIdx? (fun kv => decide (kv.1 = k)) = none := by
    rw [List.findIdx?_eq_none_iff]
    intro x hx
    exact decide_eq_false fun e => hnot (List.mem_map.mpr ⟨x, hx, e⟩)
  unfold dictPut
  refine wpAny_bind (wpAny_dictFind_of hkey ho hd hk ?_)
  rw [hidx, hnone]
  refine wpAny_updateDictKeys (hz := hes) ho hd (hQ _ ⟨_, _, ep + 1, Heap.get?_update_self _ ho (Obj.isFreed_of_dict (Obj.data_mapDictKeys hd _)),
      hc.mapDictKeys _, Obj.data_mapDictKeys hd _, hk.push hkey _, ?_, ?_⟩ (Heap.SameBut.update ..))
  · have := hp.append hkey (knd.hash k) v
    obtain ⟨l⟩ := es
    simpa using this
  · rw [List.map_append, List.nodup_append]
    refine ⟨hn, by simp, ?_⟩
    intro a ha b hb
    simp only [List.map_cons, List.map_nil, List.mem_singleton] at hb
    subst hb
    exact fun e => hnot (e ▸ ha)

theorem merge_plain {d o : Addr} {kvs more : List (K × Value)} {Q : Unit → Shared → Prop} (hdo : d ≠ o) (hoS : (o == sysModules) = false)
    (hd : s.heap.DictOf knd d kvs) (ho : s.heap.DictOf knd o more) (hne : kvs ≠ []) (hfr : ((kvs ++ more).map (·.1)).Nodup) (hsz : kvs.length + more.length ≤ sizeLine)
    (hQ : ∀ h', h'.DictOf knd d (kvs ++ more) → Heap.SameBut d s.heap h' → Q () { s with heap := h' }) :
    wpAny (model prog w) A (mergeMapping d (.ref o) false) Q E s := by
  obtain ⟨od, esd, epd, hod, hcd, hdd, hkd, hpd, hnd⟩ := id hd
  obtain ⟨oo, eso, epo, hoo, hco, hdo', hko, hpo, hno⟩ := id ho
  have hlen : more.length = eso.size := by rw [← hpo.length]; simp
  unfold mergeMapping
  dsimp only
  refine wpAny_bind (wpAny_isInstance (U := "dict") ho.mapOf.typeIs (b := true) (by rfl) ?_)
  rw [if_pos rfl]
  refine wpAny_bind (wpAny_specialOf ho.mapOf.typeIs F.slot_dict_iter.lookup ?_)
  refine wpAny_bind (wpAny_pure ?_)
  rw [show ((some (Value.builtin "dict.__iter__") : Option Value) == some (Value.builtin "dict.__iter__")) = true from by simp]
  dsimp only
  rw [if_neg (by rw [hoS]; exact Bool.false_ne_true)]
  refine wpAny_bind (wpAny_dictEntries hod hdd ?_)
  have hemp : esd.isEmpty = false := by
    cases h : esd.isEmpty with
    | false => rfl
    | true =>
      have h0 : esd = #[] := Array.isEmpty_iff.mp h
      have := hpd.length
      rw [h0] at this
      exact absurd (List.length_eq_zero_iff.mp (by simpa using this.symm)) hne
  rw [if_neg (by rw [hemp]; exact Bool.false_ne_true)]
  refine wpAny_bind (wpAny_dictEntries hoo hdo' ?_)
  refine wpAny_bind (wpAny_dictEpoch hoo hdo' ?_)
  refine wpAny_bind ?_
  rw [List.range_eq_range']
  refine wpAny_forIn_list _
      (fun rest _ s' => ∃ h' i, s' = { s with heap := h' } ∧ rest = List.range' i (eso.size - i) ∧ i ≤ eso.size ∧ h'.DictOf knd d (kvs ++ more.take i) ∧ h'.get? o = some oo ∧ Heap.SameBut d s.heap h')
      _ ?_ ?_ _ _ ⟨s.heap, 0, rfl, by simp, Nat.zero_le _, by simpa using hd, hoo, Heap.SameBut.refl _ _⟩
  · rintro x rest b s' ⟨h', i, rfl, hr, hi, hd', hoo', hs'⟩
    have hlt : i < eso.size := by
      rcases Nat.lt_or_ge i eso.size with h | h
      · exact h
      · rw [Nat.sub_eq_zero_of_le h] at hr; simp at hr
    obtain ⟨rfl, hrest⟩ : x = i ∧ rest = List.range' (i + 1) (eso.size - (i + 1)) := by
      have e : eso.size - i = (eso.size - (i + 1)) + 1 := by omega
      rw [e, List.range'_succ] at hr
      injection hr with h1 h2
      exact ⟨h1, h2⟩
    refine wpAny_bind (wpAny_dictEntries hoo' hdo' ?_)
    rw [Array.getElem?_eq_getElem hlt]
    obtain ⟨kv, hkv⟩ : ∃ kv, more[x]? = some kv := ⟨more[x]'(by rw [hlen]; exact hlt), List.getElem?_eq_getElem _⟩
    obtain ⟨k, v⟩ := kv
    obtain ⟨hkey, hval⟩ := hpo.get? (e := eso[x]) (by simp [hlt]) hkv
    obtain ⟨k', hkey', hhash⟩ := hko eso[x] (Array.getElem_mem hlt)
    obtain rfl : k' = k := knd.inj _ _ _ hkey' hkey
    dsimp only
    rw [if_neg Bool.false_ne_true, hhash, hval]
    have htake : more.take (x + 1) = more.take x ++ [(k', v)] := by rw [List.take_add_one, hkv]; rfl
    have hnot : k' ∉ (kvs ++ more.take x).map (·.1) := by
      have hsub : ((kvs ++ more.take (x + 1)).map (·.1)).Nodup := by
        refine List.Nodup.sublist ?_ hfr
        exact List.Sublist.map _ (List.Sublist.append_left (List.take_sublist _ _) _)
      rw [htake, ← List.append_assoc, List.map_append, List.nodup_append] at hsub
      intro hm
      exact hsub.2.2 _ hm k' (by simp) rfl
    have hmx : (kvs ++ more.take x).length ≤ sizeLine := by
      rw [List.length_append, List.length_take]
      omega
    refine wpAny_bind (wpAny_holding (dictPut_fresh hkey hd' hnot hmx fun h'' hd'' hs'' => ?_))
    have hoo'' : h''.get? o = some oo := (hs''.2 o (Ne.symm hdo)).trans hoo'
    refine wpAny_bind (wpAny_dictEpoch hoo'' hdo' ?_)
    rw [if_neg (by simp)]
    exact wpAny_pure ⟨h'', x + 1, rfl, hrest, hlt, by rw [htake, ← List.append_assoc]; exact hd'', hoo'', hs'.trans hs''⟩
  · rintro b s' ⟨h', i, rfl, hr, hi, hd', hoo', hs'⟩
    have hin : i = eso.size := by
      rcases Nat.lt_or_ge i eso.size with h | h
      · have e : eso.size - i = (eso.size - (i + 1)) + 1 := by omega
        rw [e, List.range'_succ] at hr; exact nomatch hr
      · exact Nat.le_antisymm hi h
    refine wpAny_pure (hQ h' ?_ hs')
    rw [hin, ← hlen, List.take_length] at hd'; exact hd'

/-- a pair of a display: what its two trees give, in whatever heap the frame stands -/
def PairOk (prog : Program) (w : World) (A : Around) (E : Value → Shared → Prop) (h₀ : Heap) (L : Addr) (m : Str → Option Value) (pr : Sem Value × Sem Value) (kv : Str × Value) : Prop :=
  ∀ s : Shared, Fr h₀ L s.heap m → (∀ Q : Value → Shared → Prop, (∀ t tk, Q (.str kv.1 t) { s with toks := tk }) → wpAny (model prog w) A pr.1 Q E s) ∧ (∀ Q : Value → Shared → Prop, Q kv.2 s → wpAny (model prog w) A pr.2 Q E s)

def PairsOk (prog : Program) (w : World) (A : Around) (E : Value → Shared → Prop) (h₀ : Heap) (L : Addr) (m : Str → Option Value) : List (Sem Value × Sem Value) → List (Str × Value) → Prop
  | [], [] => True
  | p :: ps, k :: ks => PairOk prog w A E h₀ L m p k ∧ PairsOk prog w A E h₀ L m ps ks
  | _, _ => False

variable {h₀ : Heap} {L : Addr} {m : Str → Option Value}
theorem fr_same {d : Addr} {h h' : Heap} (F : Fr h₀ L h m) (hd : h₀.get? d = none) (hL : d ≠ L) (hs : Heap.SameBut d h h') : Fr h₀ L h' m := by
  obtain ⟨oL, es, ep, ho, r⟩ := F.ns
  exact ⟨⟨oL, es, ep, (hs.2 L (Ne.symm hL)).trans ho, r⟩, fun b o e => (hs.2 b fun q => by rw [q, hd] at e; cases e).trans (F.keep b o e), F.above⟩

theorem set_all {d : Addr} (hd : h₀.get? d = none) (hL : d ≠ L) {Q : PUnit → Shared → Prop} : ∀ (pairs : List (Sem Value × Sem Value)) (kvs acc : List (Str × Value)) (s : Shared), PairsOk prog w A E h₀ L m pairs kvs →
    Fr h₀ L s.heap m → s.heap.DictOf (PySem.strKind prog w) d acc → ((acc ++ kvs).map (·.1)).Nodup → (acc ++ kvs).length ≤ sizeLine →
    (∀ h' tk, h'.DictOf (PySem.strKind prog w) d (acc ++ kvs) → Heap.SameBut d s.heap h' → Fr h₀ L h' m → Q PUnit.unit { s with heap := h', toks := tk }) →
    wpAny (model prog w) A (forIn pairs PUnit.unit fun (x : Sem Value × Sem Value) (_ : PUnit) => (do
      let kv ← x.1
      let vv ← holding [kv] x.2
      holding [kv, vv] (dictSet d kv vv)
      pure (ForInStep.yield PUnit.unit))) Q E s := by
  intro pairs
  induction pairs with
  | nil =>
    intro kvs acc s hp F hm _ _ hQ
    cases kvs with
    | cons _ _ => exact hp.elim
    | nil =>
    rw [List.forIn_nil]
    have := hQ s.heap s.toks (by simpa using hm) (Heap.SameBut.refl _ _) F
    exact wpAny_pure this
  | cons x pairs ih =>
    intro kvs acc s hp F hm hn hz hQ
    cases kvs with
    | nil => exact hp.elim
    | cons kv kvs =>
    obtain ⟨hx, hr⟩ := hp
    obtain ⟨k, v⟩ := kv
    rw [List.forIn_cons]
    refine wpAny_bind (wpAny_bind ((hx s F).1 _ fun t tk₀ => ?_))
    refine wpAny_bind (wpAny_holding ((hx { s with toks := tk₀ } F).2 _ ?_))
    have hnot : k ∉ acc.map (·.1) := by
      rw [List.map_append, List.nodup_append] at hn
      intro hm'
      exact hn.2.2 _ hm' k (by simp) rfl
    have hany : ¬ (acc.any fun kv => decide (kv.1 = k)) = true := by
      rw [List.any_eq_true]; rintro ⟨kv, hkv, he⟩
      exact hnot (List.mem_map.mpr ⟨kv, hkv, of_decide_eq_true he⟩)
    refine wpAny_bind (wpAny_holding (wpAny_dictSet_pairs (k := k) (knd := PySem.strKind prog w) (by simp [PySem.strKind, Value.isStrOf]) hm (s := { s with toks := tk₀ }) (fun h' hm' hs' => ?_) (by rw [List.length_append] at hz; omega)))
    refine wpAny_pure ?_
    dsimp only
    rw [stored, if_neg hany] at hm'
    have F' := fr_same F hd hL hs'
    refine ih kvs (acc ++ [(k, v)]) _ hr F' hm' (by simpa using hn) (by simpa using hz) fun h'' tk hm'' hs'' F'' => ?_
    exact hQ h'' tk (by simpa using hm'') (hs'.trans hs'') F''
theorem get_none_of_size {h₀ h : Heap} (k : ∀ b o, h₀.get? b = some o → h.get? b = some o) {d : Addr} (hd : h.objs.size ≤ d) : h₀.get? d = none := by
  cases q : h₀.get? d with
  | none => rfl
  | some o => exact absurd (Heap.lt_size (k d o q)) (Nat.not_lt.mpr hd)

theorem subDict_long {pairs : List (Sem Value × Sem Value)} {kvs : List (Str × Value)} {Q : Addr → Shared → Prop} (hlen : ¬ pairs.length ≤ 15) (hp : PairsOk prog w A E h₀ L m pairs kvs) (F : Fr h₀ L s.heap m) (hn : (kvs.map (·.1)).Nodup) (hz : kvs.length ≤ sizeLine)
    (hQ : ∀ h' tk, h'.DictOf (PySem.strKind prog w) s.heap.objs.size kvs → Heap.SameBut s.heap.objs.size (s.heap.push { cls := .type "dict", data := .dict #[] }) h' → Fr h₀ L h' m → Q s.heap.objs.size { s with heap := h', toks := tk }) :
    wpAny (model prog w) A (subDict pairs) Q E s := by
  have F' := F.push { cls := .type "dict", data := .dict #[] }
  have hL : s.heap.objs.size ≠ L := Nat.ne_of_gt F.ns.lt
  unfold subDict
  refine wpAny_bind (wpAny_alloc ?_)
  refine wpAny_bind (wpAny_holding ?_)
  rw [if_neg hlen]
  refine wpAny_bind (wpAny_rule ?_)
  refine wpAny_bind ?_
  refine set_all (get_none_of_size F.keep (Nat.le_refl _)) hL pairs kvs [] _ hp F' (Heap.DictOf.new _) (by simpa using hn) (by simpa using hz) fun h' tk hm hs F'' => ?_
  exact wpAny_pure (wpAny_pure (hQ h' tk (by simpa using hm) hs F''))

theorem evalPairs_all : ∀ (pairs : List (Sem Value × Sem Value)) (kvs : List (Str × Value)) (s : Shared) (Q : List (Value × Value) → Shared → Prop), PairsOk prog w A E h₀ L m pairs kvs → Fr h₀ L s.heap m →
    (∀ vs tk, Carries (PySem.strKind prog w) vs kvs → Q vs { s with toks := tk }) → wpAny (model prog w) A (evalPairs pairs) Q E s := by
  intro pairs
  induction pairs with
  | nil =>
    intro kvs s Q hp F hQ
    cases kvs with
    | cons _ _ => exact hp.elim
    | nil => exact evalPairs_nil (hQ [] s.toks trivial)
  | cons x pairs ih =>
    intro kvs s Q hp F hQ
    cases kvs with
    | nil => exact hp.elim
    | cons kv kvs =>
    obtain ⟨hx, hr⟩ := hp
    refine evalPairs_cons ((hx s F).1 _ fun t tk₀ => (hx { s with toks := tk₀ } F).2 _ (ih kvs _ _ hr F fun vs tk hvs => hQ _ tk ⟨?_, rfl, hvs⟩))
    simp [PySem.strKind, Value.isStrOf]

theorem subDict_short {pairs : List (Sem Value × Sem Value)} {kvs : List (Str × Value)} {Q : Addr → Shared → Prop} (hlen : pairs.length ≤ 15) (hp : PairsOk prog w A E h₀ L m pairs kvs) (F : Fr h₀ L s.heap m) (hn : (kvs.map (·.1)).Nodup)
    (hQ : ∀ h' tk, h'.DictOf (PySem.strKind prog w) s.heap.objs.size kvs → Heap.SameBut s.heap.objs.size (s.heap.push { cls := .type "dict", data := .dict #[] }) h' → Fr h₀ L h' m → Q s.heap.objs.size { s with heap := h', toks := tk }) :
    wpAny (model prog w) A (subDict pairs) Q E s := by
  have F' := F.push { cls := .type "dict", data := .dict #[] }
  have hL : s.heap.objs.size ≠ L := Nat.ne_of_gt F.ns.lt
  refine wpAny_subDict (knd := PySem.strKind prog w) hlen (evalPairs_all pairs kvs _ _ hp F' fun vs tk hvs => ⟨kvs, hvs, Heap.DictOf.new _, fun h' hm hs => ?_⟩)
  rw [merged_nil_of_nodup _ hn] at hm
  exact hQ h' _ hm hs (fr_same F' (get_none_of_size F.keep (Nat.le_refl _)) hL hs)

theorem display_19 {a1 a2 a3 a4 a5 a6 a7 a8 a9 a10 a11 a12 a13 a14 a15 a16 a17 a18 a19 b1 b2 b3 b4 b5 b6 b7 b8 b9 b10 b11 b12 b13 b14 b15 b16 b17 b18 b19 : Sem Value} {Q : Value → Shared → Prop}
    (h : wpAny (model prog w) A (subDict [(a1, b1), (a2, b2), (a3, b3), (a4, b4), (a5, b5), (a6, b6), (a7, b7), (a8, b8), (a9, b9), (a10, b10), (a11, b11), (a12, b12), (a13, b13), (a14, b14), (a15, b15), (a16, b16), (a17, b17)]) (fun d s₁ => wpAny (model prog w) A (subDict [(a18, b18), (a19, b19)]) (fun sub s₂ => wpAny (model prog w) A (mergeMapping d (.ref sub) false) (fun _ s₃ => Q (.ref d) s₃) (fun _ _ => False) s₂) E s₁) E s) :
    wpAny (model prog w) A (dictDisplay [(some a1, b1), (some a2, b2), (some a3, b3), (some a4, b4), (some a5, b5), (some a6, b6), (some a7, b7), (some a8, b8), (some a9, b9), (some a10, b10), (some a11, b11), (some a12, b12), (some a13, b13), (some a14, b14), (some a15, b15), (some a16, b16), (some a17, b17), (some a18, b18), (some a19, b19)]) Q E s := by
  unfold dictDisplay
  dsimp only
  iterate 16 (rw [List.forIn_cons]; dsimp only; rw [if_neg (by simp), pure_bind]; dsimp only [List.nil_append, List.cons_append])
  rw [List.forIn_cons]
  dsimp only
  rw [if_pos (by simp), if_neg (by simp)]
  refine wpAny_bind (wpAny_bind (wpAny_bind (wpAny_bind (wpAny_mono h (fun d s₁ h₁ => ?_) fun _ _ e => e))))
  refine wpAny_pure (wpAny_pure ?_)
  dsimp only
  iterate 2 (rw [List.forIn_cons]; dsimp only; rw [if_neg (by simp), pure_bind]; dsimp only [List.nil_append, List.cons_append])
  rw [List.forIn_nil]
  refine wpAny_pure ?_
  dsimp only
  rw [if_neg (by simp)]
  refine wpAny_bind (wpAny_bind (wpAny_holding (wpAny_mono h₁ (fun sub s₂ h₂ => ?_) fun _ _ e => e)))
  refine wpAny_bind (wpAny_onRaise (wpAny_holding (wpAny_mono h₂ (fun _ s₃ h₃ => ?_) fun _ _ e => e.elim)))
  exact wpAny_pure (wpAny_pure h₃)

theorem display_words {a1 a2 a3 a4 a5 a6 a7 a8 a9 a10 a11 a12 a13 a14 a15 a16 a17 a18 a19 b1 b2 b3 b4 b5 b6 b7 b8 b9 b10 b11 b12 b13 b14 b15 b16 b17 b18 b19 : Sem Value} {k1 k2 k3 k4 k5 k6 k7 k8 k9 k10 k11 k12 k13 k14 k15 k16 k17 k18 k19 : Str} {v1 v2 v3 v4 v5 v6 v7 v8 v9 v10 v11 v12 v13 v14 v15 v16 v17 v18 v19 : Value} {news : List (Addr × Obj)} {Q : Value → Shared → Prop} (F : Fr h₀ L s.heap m) (N : News h₀ L s.heap news) (hbig : (s.heap.objs.size == sysModules) = false ∧ (s.heap.objs.size + 1 == sysModules) = false)
    (hp : PairsOk prog w A E h₀ L m [(a1, b1), (a2, b2), (a3, b3), (a4, b4), (a5, b5), (a6, b6), (a7, b7), (a8, b8), (a9, b9), (a10, b10), (a11, b11), (a12, b12), (a13, b13), (a14, b14), (a15, b15), (a16, b16), (a17, b17), (a18, b18), (a19, b19)] [(k1, v1), (k2, v2), (k3, v3), (k4, v4), (k5, v5), (k6, v6), (k7, v7), (k8, v8), (k9, v9), (k10, v10), (k11, v11), (k12, v12), (k13, v13), (k14, v14), (k15, v15), (k16, v16), (k17, v17), (k18, v18), (k19, v19)])
    (hn : ([k1, k2, k3, k4, k5, k6, k7, k8, k9, k10, k11, k12, k13, k14, k15, k16, k17, k18, k19] : List Str).Nodup)
    (hQ : ∀ (d : Nat) h' tk o, Fr h₀ L h' m → News h₀ L h' ((d, o) :: news) → (∀ p ∈ news, p.1 < d) → o.IsDictOf (PySem.strKind prog w) [(k1, v1), (k2, v2), (k3, v3), (k4, v4), (k5, v5), (k6, v6), (k7, v7), (k8, v8), (k9, v9), (k10, v10), (k11, v11), (k12, v12), (k13, v13), (k14, v14), (k15, v15), (k16, v16), (k17, v17), (k18, v18), (k19, v19)] → Q (.ref d) { s with heap := h', toks := tk }) :
    wpAny (model prog w) A (dictDisplay [(some a1, b1), (some a2, b2), (some a3, b3), (some a4, b4), (some a5, b5), (some a6, b6), (some a7, b7), (some a8, b8), (some a9, b9), (some a10, b10), (some a11, b11), (some a12, b12), (some a13, b13), (some a14, b14), (some a15, b15), (some a16, b16), (some a17, b17), (some a18, b18), (some a19, b19)]) Q E s := by
  have hz : (100 : Nat) ≤ sizeLine := by rw [sizeLine_eq]; omega
  have hn0 := hn
  rw [show ([k1, k2, k3, k4, k5, k6, k7, k8, k9, k10, k11, k12, k13, k14, k15, k16, k17, k18, k19] : List Str) = [k1, k2, k3, k4, k5, k6, k7, k8, k9, k10, k11, k12, k13, k14, k15, k16, k17] ++ [k18, k19] from rfl, List.nodup_append] at hn0
  obtain ⟨q1, q2, q3, q4, q5, q6, q7, q8, q9, q10, q11, q12, q13, q14, q15, q16, q17, q18, q19, -⟩ := hp
  have z1 : ([(k1, v1), (k2, v2), (k3, v3), (k4, v4), (k5, v5), (k6, v6), (k7, v7), (k8, v8), (k9, v9), (k10, v10), (k11, v11), (k12, v12), (k13, v13), (k14, v14), (k15, v15), (k16, v16), (k17, v17)] : List (Str × Value)).length ≤ sizeLine := Nat.le_trans (Nat.le_of_ble_eq_true rfl : (17 : Nat) ≤ 100) hz
  have z2 : PairsOk prog w A E h₀ L m [(a1, b1), (a2, b2), (a3, b3), (a4, b4), (a5, b5), (a6, b6), (a7, b7), (a8, b8), (a9, b9), (a10, b10), (a11, b11), (a12, b12), (a13, b13), (a14, b14), (a15, b15), (a16, b16), (a17, b17)] [(k1, v1), (k2, v2), (k3, v3), (k4, v4), (k5, v5), (k6, v6), (k7, v7), (k8, v8), (k9, v9), (k10, v10), (k11, v11), (k12, v12), (k13, v13), (k14, v14), (k15, v15), (k16, v16), (k17, v17)] := ⟨q1, q2, q3, q4, q5, q6, q7, q8, q9, q10, q11, q12, q13, q14, q15, q16, q17, trivial⟩
  have z3 : (([(k1, v1), (k2, v2), (k3, v3), (k4, v4), (k5, v5), (k6, v6), (k7, v7), (k8, v8), (k9, v9), (k10, v10), (k11, v11), (k12, v12), (k13, v13), (k14, v14), (k15, v15), (k16, v16), (k17, v17)] : List (Str × Value)).map (·.1)).Nodup := hn0.1
  have z4 : ¬ ([(a1, b1), (a2, b2), (a3, b3), (a4, b4), (a5, b5), (a6, b6), (a7, b7), (a8, b8), (a9, b9), (a10, b10), (a11, b11), (a12, b12), (a13, b13), (a14, b14), (a15, b15), (a16, b16), (a17, b17)] : List (Sem Value × Sem Value)).length ≤ 15 := by simp
  refine @display_19 prog w A E s a1 a2 a3 a4 a5 a6 a7 a8 a9 a10 a11 a12 a13 a14 a15 a16 a17 a18 a19 b1 b2 b3 b4 b5 b6 b7 b8 b9 b10 b11 b12 b13 b14 b15 b16 b17 b18 b19 Q (subDict_long z4 z2 F z3 z1 fun h₁ tk₁ D₁ S₁ F₁ => ?_)
  refine subDict_short (kvs := [(k18, v18), (k19, v19)]) (by simp) ⟨q18, q19, trivial⟩ F₁ hn0.2.1 fun h₂ tk₂ D₂ S₂ F₂ => ?_
  dsimp only at D₂ S₂ ⊢
  have sz₁ : h₁.objs.size = s.heap.objs.size + 1 := S₁.1.trans (Heap.size_push _ _)
  have D₁' : h₂.DictOf (PySem.strKind prog w) s.heap.objs.size [(k1, v1), (k2, v2), (k3, v3), (k4, v4), (k5, v5), (k6, v6), (k7, v7), (k8, v8), (k9, v9), (k10, v10), (k11, v11), (k12, v12), (k13, v13), (k14, v14), (k15, v15), (k16, v16), (k17, v17)] := by
    obtain ⟨o, es, ep, ho, r⟩ := D₁
    refine ⟨o, es, ep, ?_, r⟩
    have hne : s.heap.objs.size ≠ h₁.objs.size := by omega
    rw [S₂.2 _ hne]
    exact Heap.get?_push_of_some _ ho
  have hfr : (([(k1, v1), (k2, v2), (k3, v3), (k4, v4), (k5, v5), (k6, v6), (k7, v7), (k8, v8), (k9, v9), (k10, v10), (k11, v11), (k12, v12), (k13, v13), (k14, v14), (k15, v15), (k16, v16), (k17, v17)] ++ [(k18, v18), (k19, v19)] : List (Str × Value)).map (·.1)).Nodup := hn
  refine merge_plain (show s.heap.objs.size ≠ h₁.objs.size by omega) (show (h₁.objs.size == sysModules) = false by rw [sz₁]; exact hbig.2) D₁' D₂ (List.cons_ne_nil _ _) hfr (by simp only [List.length_cons, List.length_nil]; omega) fun h₃ D₃ S₃ => ?_
  obtain ⟨o, ho, hd⟩ := Heap.dictOf_iff.mp D₃
  have hL : s.heap.objs.size ≠ L := Nat.ne_of_gt F.ns.lt
  have hnone : h₀.get? s.heap.objs.size = none := get_none_of_size F.keep (Nat.le_refl _)
  refine hQ s.heap.objs.size h₃ _ o (fr_same F₂ hnone hL S₃) (fun p hp => ?_) (fun p hp => Heap.lt_size (N p hp).1) hd
  rcases List.mem_cons.mp hp with rfl | hp
  · exact ⟨ho, hL, hnone⟩
  · have hlt := Heap.lt_size (N p hp).1
    refine ⟨?_, (N p hp).2⟩
    rw [S₃.2 _ (Nat.ne_of_lt hlt), S₂.2 _ (Nat.ne_of_lt (Nat.lt_of_lt_of_le hlt (by rw [sz₁]; exact Nat.le_succ _)))]
    refine Heap.get?_push_of_some _ ?_
    rw [S₁.2 _ (Nat.ne_of_lt hlt)]
    exact Heap.get?_push_of_some _ (N p hp).1
end
section
variable {prog : Program} {w : World} {A : Around} {E : Value → Shared → Prop} {s : Shared} {h₀ : Heap} {L : Addr} {m : Str → Option Value}
theorem display_list {items : List (Option (Sem Value) × Sem Value)} {pairs : List (Sem Value × Sem Value)} {kvs : List (Str × Value)} {news : List (Addr × Obj)} {Q : Value → Shared → Prop} (hi : items = pairs.map fun p => (some p.1, p.2)) (h1 : pairs.length = 19) (h2 : kvs.length = 19)
    (F : Fr h₀ L s.heap m) (N : News h₀ L s.heap news) (hbig : (s.heap.objs.size == sysModules) = false ∧ (s.heap.objs.size + 1 == sysModules) = false)
    (hp : PairsOk prog w A E h₀ L m pairs kvs) (hn : (kvs.map (·.1)).Nodup)
    (hQ : ∀ (d : Nat) h' tk o, Fr h₀ L h' m → News h₀ L h' ((d, o) :: news) → (∀ p ∈ news, p.1 < d) → o.IsDictOf (PySem.strKind prog w) kvs → Q (.ref d) { s with heap := h', toks := tk }) :
    wpAny (model prog w) A (dictDisplay items) Q E s := by
  subst hi
  match pairs, kvs, h1, h2 with
  | [(a1, b1), (a2, b2), (a3, b3), (a4, b4), (a5, b5), (a6, b6), (a7, b7), (a8, b8), (a9, b9), (a10, b10), (a11, b11), (a12, b12), (a13, b13), (a14, b14), (a15, b15), (a16, b16), (a17, b17), (a18, b18), (a19, b19)], [(k1, v1), (k2, v2), (k3, v3), (k4, v4), (k5, v5), (k6, v6), (k7, v7), (k8, v8), (k9, v9), (k10, v10), (k11, v11), (k12, v12), (k13, v13), (k14, v14), (k15, v15), (k16, v16), (k17, v17), (k18, v18), (k19, v19)], _, _ =>
    exact @display_words prog w A E s h₀ L m a1 a2 a3 a4 a5 a6 a7 a8 a9 a10 a11 a12 a13 a14 a15 a16 a17 a18 a19 b1 b2 b3 b4 b5 b6 b7 b8 b9 b10 b11 b12 b13 b14 b15 b16 b17 b18 b19 k1 k2 k3 k4 k5 k6 k7 k8 k9 k10 k11 k12 k13 k14 k15 k16 k17 k18 k19 v1 v2 v3 v4 v5 v6 v7 v8 v9 v10 v11 v12 v13 v14 v15 v16 v17 v18 v19 news Q F N hbig hp hn hQ

theorem pair_ok {K : Frag} {p : Program} {loose : List Str} {mg mb : Str → Option Value} {cn : Str} {cs : Scope} {a : Addr} {ccd : Value} {x f : Str} {kd : Nat} {p1 p2 p3 : Pos} {v : Value}
    (X : K.In h₀) (T : TopRead p loose mg mb h₀) (e : nsIn K mainGlobals f = some (some v)) (hk : cs.kind = .function) (hx : (envOf cn cs L a ccd).kindOf f = some .globalImplicit) (hd : (f == ("__debug__" : Str)) = false) :
    PairOk prog w A E h₀ L m (eval (.Constant (.str x) kd p1) (envOf cn cs L a ccd), do let y ← eval (.Name f p2) (envOf cn cs L a ccd); standAt p3; pure y) (x, v) := fun s F =>
  ⟨fun Q h => by exact Calls.Constant_str (env := envOf cn cs L a ccd) (k := kd) (pos := p1) (h _ _), fun Q h => wpAny_bind (name_K F X T e (wpAny_bind (wpAny_standAt (wpAny_pure h))) hk hx hd)⟩
end
section
variable {prog : Program} {w : World} {A : Around} {E : Value → Shared → Prop} {s : Shared} {h₀ : Heap} {L : Addr} {m : Str → Option Value}
theorem dict19 {env : Env} {keys : List (Option PySem.Expr)} {values : List PySem.Expr} {pos : Pos} {kvs : List (Str × Value)} {news : List (Addr × Obj)} {Q : Value → Shared → Prop} (hall : keys.all (·.isSome) = true) (hl : keys.length = values.length) (h19 : keys.length = 19) (h2 : kvs.length = 19)
    (F : Fr h₀ L s.heap m) (N : News h₀ L s.heap news) (hbig : (s.heap.objs.size == sysModules) = false ∧ (s.heap.objs.size + 1 == sysModules) = false)
    (hp : PairsOk prog w A E h₀ L m (pairTrees keys values env pos) kvs) (hn : (kvs.map (·.1)).Nodup)
    (hQ : ∀ (d : Nat) h' tk o, Fr h₀ L h' m → News h₀ L h' ((d, o) :: news) → (∀ p ∈ news, p.1 < d) → o.IsDictOf (PySem.strKind prog w) kvs → Q (.ref d) { s with heap := h', toks := tk }) :
    wpAny (model prog w) A (eval (.Dict keys values pos) env) Q E s := by
  rw [arm_eval_Dict]
  exact wpAny_bind (wpAny_standAt (display_list (zip_pairTrees keys values env pos hall hl) ((pairTrees_length keys values env pos hall hl).trans h19) h2 F N hbig hp hn hQ))
theorem pairs_nil {env : Env} {p3 : Pos} : PairsOk prog w A E h₀ L m (pairTrees [] [] env p3) [] := trivial
theorem pairs_step {K : Frag} {p : Program} {loose : List Str} {mg mb : Str → Option Value} {cn : Str} {cs : Scope} {a : Addr} {ccd : Value} {x f : Str} {kd : Nat} {p1 p2 p3 : Pos} {v : Value} {ks : List (Option PySem.Expr)} {vs : List PySem.Expr} {kvs : List (Str × Value)}
    (X : K.In h₀) (T : TopRead p loose mg mb h₀) (e : nsIn K mainGlobals f = some (some v)) (hk : cs.kind = .function) (hx : (envOf cn cs L a ccd).kindOf f = some .globalImplicit) (hd : (f == ("__debug__" : Str)) = false)
    (r : PairsOk prog w A E h₀ L m (pairTrees ks vs (envOf cn cs L a ccd) p3) kvs) :
    PairsOk prog w A E h₀ L m (pairTrees (some (.Constant (.str x) kd p1) :: ks) (.Name f p2 :: vs) (envOf cn cs L a ccd) p3) ((x, v) :: kvs) := And.intro (pair_ok X T e hk hx hd) r
end
@[reducible] def ent (w : World) (x : String) (t : Tok) (v : Value) : DictEntry := ⟨PyData.keyHash w.params (Str.ofString x), .str (Str.ofString x) t, v⟩
@[reducible] def mrunD (w : World) (kt : Nat → Tok) (program text begin' least most steps at' row groups registers pile : Value) : Obj :=
  dictOf [ent w "program" (kt 0) program, ent w "text" (kt 1) text, ent w "begin" (kt 2) begin', ent w "least_end" (kt 3) least, ent w "most" (kt 4) most, ent w "steps" (kt 5) steps,
    ent w "at" (kt 6) at', ent w "row" (kt 7) row, ent w "groups" (kt 8) groups, ent w "registers" (kt 9) registers, ent w "pile" (kt 10) pile] 11
@[reducible] def progD (w : World) (kt : Nat → Tok) (rows groups registers names : Value) : Obj :=
  dictOf [ent w "rows" (kt 0) rows, ent w "groups" (kt 1) groups, ent w "registers" (kt 2) registers, ent w "names" (kt 3) names] 4
@[reducible] def tupOf (vs : List Value) : Obj := { cls := .type "tuple", data := .seq vs.toArray }
@[reducible] def wordsKvs : List (Str × Value) := [(Str.ofString "sign", .ref 651), (Str.ofString "any", .ref 651), (Str.ofString "set", .ref 651), (Str.ofString "run", .ref 665), (Str.ofString "at", .ref 679), (Str.ofString "back", .ref 686), (Str.ofString "open", .ref 693), (Str.ofString "close", .ref 700), (Str.ofString "jump", .ref 707), (Str.ofString "split", .ref 714), (Str.ofString "zero", .ref 721), (Str.ofString "loop", .ref 728), (Str.ofString "again", .ref 735), (Str.ofString "mark", .ref 742), (Str.ofString "cut", .ref 747), (Str.ofString "refuse", .ref 761), (Str.ofString "place", .ref 768), (Str.ofString "return", .ref 775), (Str.ofString "behind", .ref 782)]
@[reducible] def limD (w : World) (kt : Nat → Tok) (width depth steps text items : Value) : Obj :=
  dictOf [ent w "width" (kt 0) width, ent w "depth" (kt 1) depth, ent w "steps" (kt 2) steps, ent w "text" (kt 3) text, ent w "items" (kt 4) items] 5
def Stop (P : Prop) : Prop := P
theorem stop_in {P : Prop} (h : Stop P) : P := h
theorem fr_over {h₀ h : Heap} {L : Addr} {m : Str → Option Value} {x : Str} {v u : Option Value} (F : Fr h₀ L h (fun y => if y = x then v else if y = x then u else m y)) : Fr h₀ L h (fun y => if y = x then v else m y) := by
  have e : (fun y => if y = x then v else if y = x then u else m y) = fun y => if y = x then v else m y := by
    funext y
    by_cases h : y = x <;> simp [h]
  rw [e] at F
  exact F
theorem fr_congr {h₀ h : Heap} {L : Addr} {m m' : Str → Option Value} (F : Fr h₀ L h m) (e : ∀ y, m y = m' y) : Fr h₀ L h m' := by
  have : m = m' := funext e
  rw [← this]
  exact F
def ktOf (l : List Tok) (i : Nat) : Tok := l.getD i 0
def TurnEnd {σ : Type} (g : Heap) (L : Addr) (s : Shared) (M : σ → Str → Option Value) (Led : σ → List (Addr × Obj)) (P : σ → Prop) (msr : σ → Nat) (c : σ) (s' : Shared) : Prop :=
  ∃ c' h tk, s' = { s with heap := h, toks := tk } ∧ Fr g L h (M c') ∧ News g L h (Led c') ∧ P c' ∧ msr c' < msr c
section
variable {prog : Program} {w : World} {A : Around} {E : Value → Shared → Prop} {s : Shared} {env : Env} {test : PySem.Expr} {body orelse : List Stmt} {Q : Flow → Shared → Prop} {k : Nat}
theorem whl_st {σ : Type} {g h : Heap} {L : Addr} {tk : Nat} {m8 : Str → Option Value} (Jm : (Str → Option Value) → σ → Str → Option Value) (Led : σ → List (Addr × Obj)) (P : σ → Prop) (msr : σ → Nat) {c₀ : σ}
    (F : Fr g L h (Jm m8 c₀)) (N : News g L h (Led c₀)) (hP : P c₀) (hE : PassesOwn (model prog w) A env E)
    (turn : ∀ c h tk, Fr g L h (Jm m8 c) → News g L h (Led c) → P c → wpAny (model prog w) A (isTrue test env (eval test env)) (fun b s₂ => WhlIf b (wpAny (model prog w) A (execs body env) (fun f s₃ => match f with | .next => TurnEnd g L s (Jm m8) Led P msr c s₃ | .cont => TurnEnd g L s (Jm m8) Led P msr c s₃ | .brk => Q .next s₃ | .ret v => Q (.ret v) s₃) E s₂) (wpAny (model prog w) A (execs orelse env) Q E s₂)) E { s with heap := h, toks := tk }) :
    WhlRest prog w A E env test body orelse Q k { s with heap := h, toks := tk } := by
  refine whl_inv (J := fun n s' => ∃ c h tk, s' = { s with heap := h, toks := tk } ∧ Fr g L h (Jm m8 c) ∧ News g L h (Led c) ∧ P c ∧ n = msr c) ?_ (n₀ := msr c₀) ⟨c₀, h, tk, rfl, F, N, hP, rfl⟩
  rintro n s' IH ⟨c, h, tk, rfl, F, N, hP, rfl⟩
  refine whl_turn2 (C := TurnEnd g L s (Jm m8) Led P msr c) (fun s₁ hC => IH s₁ ?_) hE (turn c h tk F N hP)
  obtain ⟨c', h', tk', e, F', N', hP', hlt⟩ := hC
  exact ⟨_, hlt, c', h', tk', e, F', N', hP', rfl⟩
end
structure SrchSt where
  st : Int
  tst : Tok
  k : Int
  tk : Tok
  va : Value
  vr : Value
  vg : Value
  vreg : Value
  vp : Value
@[reducible] def runD (w : World) (kt : Nat → Tok) (v0 v1 v2 v3 v4 v5 v6 v7 v8 v9 v10 v11 v12 v13 v14 v15 v16 v17 v18 : Value) : Obj :=
  dictOf [ent w "heap" (kt 0) v0, ent w "counter" (kt 1) v1, ent w "stash" (kt 2) v2, ent w "limits" (kt 3) v3, ent w "nodes" (kt 4) v4, ent w "lvs" (kt 5) v5, ent w "statements" (kt 6) v6, ent w "funcs" (kt 7) v7, ent w "operators" (kt 8) v8, ent w "out" (kt 9) v9, ent w "err" (kt 10) v10,
    ent w "saves" (kt 11) v11, ent w "frames" (kt 12) v12, ent w "match" (kt 13) v13, ent w "patterns" (kt 14) v14, ent w "steps" (kt 15) v15, ent w "methods" (kt 16) v16, ent w "call_code" (kt 17) v17, ent w "compile_text" (kt 18) v18] 19
@[reducible] def cntD (w : World) (kt : Nat → Tok) (heap destroy places empties : Value) : Obj :=
  dictOf [ent w "heap" (kt 0) heap, ent w "destroy" (kt 1) destroy, ent w "places" (kt 2) places, ent w "empties" (kt 3) empties] 4
@[reducible] def scaD (w : World) (kt : Nat → Tok) (number count blessed weak isd isf value magic : Value) : Obj :=
  dictOf [ent w "number" (kt 0) number, ent w "count" (kt 1) count, ent w "blessed" (kt 2) blessed, ent w "weak" (kt 3) weak, ent w "is_destroyed" (kt 4) isd, ent w "is_freed" (kt 5) isf, ent w "value" (kt 6) value, ent w "magic" (kt 7) magic] 8
theorem cells_six {cm : Str → Option Value} {n1 n2 n3 n4 n5 n6 : Str} {c1 c2 c3 c4 c5 c6 : Addr} {cells : List (Addr × Obj)} (x : CellsAre cm [(n1, c1), (n2, c2), (n3, c3), (n4, c4), (n5, c5), (n6, c6)] cells) :
    ∃ o1 o2 o3 o4 o5 o6, cells = [(c1, o1), (c2, o2), (c3, o3), (c4, o4), (c5, o5), (c6, o6)] ∧ o1.data = .cell (cm n1) ∧ o2.data = .cell (cm n2) ∧ o3.data = .cell (cm n3) ∧ o4.data = .cell (cm n4) ∧ o5.data = .cell (cm n5) ∧ o6.data = .cell (cm n6) := by
  cases x with | cons d1 x =>
  cases x with | cons d2 x =>
  cases x with | cons d3 x =>
  cases x with | cons d4 x =>
  cases x with | cons d5 x =>
  cases x with | cons d6 x =>
  cases x
  exact ⟨_, _, _, _, _, _, rfl, d1, d2, d3, d4, d5, d6⟩
section
variable {prog : Program} {w : World} {A₀ A : Around} {s : Shared} {base h₀ : Heap} {outer : List Env} {L : Addr} {m : Str → Option Value} {env : Env} {news rest : List (Addr × Obj)} {K : Frag}
  {R : Result → Shared → Prop} {name qual : Str} {params : Arguments} {body : List Stmt} {scope : Scope} {dV kV doc pm cdv ct oc : Value} {an od : Option Addr} {osl : Array (Option Value)} {f : Addr} {args : Args} {binds : List (Str × Value)}
  {p : Program} {loose : List Str} {mean : ExcName → Option Value} {mg mb : Str → Option Value}
/-- a call of a def some of whose locals are captured -/
theorem code_restC (B : Below A₀ base outer h₀) (F : Fr h₀ L s.heap m) (X₀ : K.In h₀) (N : News h₀ L s.heap news) (T : Top p loose mean mg mb h₀) (hA : A.frames = some (env :: outer)) (hf : env.frame = some L) (hke : env.scope.kind = .function)
    (ho : K.lookup f = some ⟨oc, od, .func (fnOf name qual params body scope dV kV doc pm an cdv ct), osl⟩) (hcd : codeIn K cdv qual = true) (hroom : A.depth < recursionLimit)
    (hbind : BindsTo s (fnOf name qual params body scope dV kV doc pm an cdv ct) args binds) (hkind : (binds.all fun y => scope.names.lookup y.1 == some .local || scope.names.lookup y.1 == some .cell) = true)
    (hnd : ((cellsFrom 0 scope.names []).map (·.1)).Nodup)
    (h : ∀ g L' h₁ tk cells, Fr h₀ L g m → Fr g L' h₁ (bindL (envOfC qual scope L' f cdv).kindOf binds fun _ => none) → News g L' h₁ (cells ++ news) →
      CellsAre (bindC (envOfC qual scope L' f cdv).kindOf binds fun _ => none) (cellsFrom (L' + 1) scope.names []) cells → Below A base (env :: outer) g → K.In g → Top p loose mean mg mb g → h₀.StaysIn g → (∀ p ∈ news, p.1 < L') →
      wpAny (model prog w) (A.deeper (envOfC qual scope L' f cdv)) (execs body (envOfC qual scope L' f cdv))
        (fun fl s' => LeaveK h₀ L m g R (match fl with | .ret v => v | _ => .none) s')
        (fun e s' => wpAny (model prog w) (A.deeper (envOfC qual scope L' f cdv)) (leaving (envOfC qual scope L' f cdv) e) (fun _ s'' => R (.error e) s'') (fun e' s'' => R (.error e') s'') s')
        { s with heap := h₁, toks := tk })
    (hco : scope.isCoroutine = false) (hgen : scope.isGenerator = false) (hk : scope.kind = .function) : codeAny (model prog w) A (.call (.ref f) args) R s :=
  callX_cells B F N T.nolimit hA hf hke ((X₀.keeps F.keep) _ _ ho) rfl (codeRec_of (X₀.keeps F.keep) hcd) hroom hbind (kindsX hkind) hnd (fun g L' h₁ tk cells FG F' N' Y B' st l => h g L' h₁ tk cells FG F' N' Y B' (X₀.keeps st) (T.keeps st) st l) hco hgen hk
end

/-- a change that leaves an object's own dict where it is -/
def DictFree (f : Obj → Obj) : Prop := ∀ o, (f o).dict = o.dict ∧ (f o).isFreed = o.isFreed
/-- a tree without calls whose every change is DictFree -/
def Calmly {α : Type} : Sem α → Prop
  | .pure _ => True
  | .raise _ => True
  | .unsupported _ => True
  | .finish _ => True
  | .rule _ k => ∀ u, Calmly (k u)
  | .at _ k => ∀ u, Calmly (k u)
  | .load _ _ k => ∀ o, Calmly (k o)
  | .update _ _ f k => DictFree f ∧ ∀ u, Calmly (k u)
  | .alloc _ k => ∀ a, Calmly (k a)
  | .ask k => ∀ a, Calmly (k a)
  | .stack k => ∀ a, Calmly (k a)
  | .fresh k => ∀ a, Calmly (k a)
  | _ => False
def DictIs (e d : Addr) (h : Heap) : Prop := ∃ o, h.get? e = some o ∧ o.dict = some d
theorem DictIs.push {e d : Addr} {h : Heap} (x : DictIs e d h) (o : Obj) : DictIs e d (h.push o) := let ⟨o', a, b⟩ := x; ⟨o', Heap.get?_push_of_some _ a, b⟩
theorem DictIs.keeps {e d : Addr} {h h' : Heap} (x : DictIs e d h) (k : ∀ b o, h.get? b = some o → h'.get? b = some o) : DictIs e d h' := let ⟨o', a, b⟩ := x; ⟨o', k _ _ a, b⟩
theorem DictIs.update {e d a : Addr} {h : Heap} {f : Obj → Obj} (x : DictIs e d h) (hf : DictFree f) : DictIs e d (h.update a f) := by
  obtain ⟨o, ho, hd⟩ := x
  by_cases q : a = e
  · subst q
    have hn : o.isFreed = false := (Heap.get?_some_iff.mp ho).2
    exact ⟨f o, Heap.get?_update_self f ho ((hf o).2.trans hn), (hf o).1.trans hd⟩
  · exact ⟨o, (Heap.get?_update_other _ _ q).trans ho, hd⟩
theorem wp_calmly {α : Type} {M : Model} {Γ : Ctx} {e d : Addr} : ∀ (t : Sem α) (Q : α → Pos → Shared → Prop) (E : Value → Pos → Shared → Prop) (p : Pos) (s : Shared), Calmly t → DictIs e d s.heap → Sem.wp M Γ t Q E p s →
    Sem.wp M Γ t (fun a p s => Q a p s ∧ DictIs e d s.heap) (fun a p s => E a p s ∧ DictIs e d s.heap) p s := by
  intro t
  induction t with
  | pure a => exact fun Q E p s _ hD h => ⟨h, hD⟩
  | raise a => exact fun Q E p s _ hD h => ⟨h, hD⟩
  | unsupported _ => exact fun Q E p s _ hD h => h
  | finish _ => exact fun Q E p s _ hD h => h
  | rule _ k ih => exact fun Q E p s c hD h => ih () Q E p s (c ()) hD h
  | «at» p' k ih => exact fun Q E p s c hD h => ih () Q E p' s (c ()) hD h
  | load a _ k ih => exact fun Q E p s c hD ⟨o, ho, h⟩ => ⟨o, ho, ih o Q E p s (c o) hD h⟩
  | update a _ f k ih => exact fun Q E p s c hD ⟨ho, h⟩ => ⟨ho, ih () Q E p _ (c.2 ()) (hD.update c.1) h⟩
  | alloc o k ih => exact fun Q E p s c hD h => ih _ Q E p _ (c _) (hD.push o) h
  | fresh k ih => exact fun Q E p s c hD h => ih _ Q E p _ (c _) hD h
  | ask k ih => exact fun Q E p s c hD h => ih _ Q E p _ (c _) hD h
  | stack k ih => exact fun Q E p s c hD h => ih _ Q E p _ (c _) hD h
  | _ => intro Q E p s c; exact c.elim
theorem wpAny_calmly {α : Type} {M : Model} {A : Around} {e d : Addr} {t : Sem α} {Q : α → Shared → Prop} {E : Value → Shared → Prop} {s : Shared} (c : Calmly t) (hD : DictIs e d s.heap) (h : wpAny M A t Q E s) :
    wpAny M A t (fun a s => Q a s ∧ DictIs e d s.heap) (fun a s => E a s ∧ DictIs e d s.heap) s :=
  fun Γ p hΓ => wp_calmly t _ _ p s c hD (h Γ p hΓ)
theorem Calmly.bind {α β : Type} : ∀ {t : Sem α} {f : α → Sem β}, Calmly t → (∀ a, Calmly (f a)) → Calmly (t >>= f) := by
  intro t
  induction t with
  | pure a => exact fun _ hf => hf a
  | raise a => exact fun _ _ => trivial
  | unsupported _ => exact fun _ _ => trivial
  | finish _ => exact fun _ _ => trivial
  | rule _ k ih => exact fun c hf u => ih u (c u) hf
  | «at» p' k ih => exact fun c hf u => ih u (c u) hf
  | load a _ k ih => exact fun c hf u => ih u (c u) hf
  | update a _ f k ih => exact fun c hf => ⟨c.1, fun u => ih u (c.2 u) hf⟩
  | alloc o k ih => exact fun c hf u => ih u (c u) hf
  | fresh k ih => exact fun c hf u => ih u (c u) hf
  | ask k ih => exact fun c hf u => ih u (c u) hf
  | stack k ih => exact fun c hf u => ih u (c u) hf
  | _ => intro _ c; exact c.elim
theorem dictFree_fields (f : Array Value → Array Value) : DictFree (Obj.mapFields f) := by
  intro o
  obtain ⟨c, d, dt, sl⟩ := o
  cases dt <;> exact ⟨rfl, rfl⟩
theorem calm_load (a : Addr) : Calmly (load a) := fun _ => trivial
theorem calm_fieldsOf (v : Value) : Calmly (fieldsOf v) := by
  unfold fieldsOf
  split
  · refine Calmly.bind (calm_load _) fun o => ?_
    split <;> exact trivial
  · exact trivial
theorem calm_field (v : Value) (i : Nat) : Calmly (field v i) := by
  unfold field
  refine Calmly.bind (calm_fieldsOf _) fun o => ?_
  split <;> exact trivial
theorem calm_setField (v : Value) (i : Nat) (x : Value) : Calmly (setField v i x) := by
  unfold setField
  split
  · unfold updateField
    refine Calmly.bind (calm_load _) fun o => ?_
    split
    · split
      · exact ⟨dictFree_fields _, fun _ => trivial⟩
      · exact trivial
    · exact trivial
  · exact trivial
theorem calm_setFlight (e : Value) (f : Option Addr) : Calmly (setFlight e f) := by
  unfold setFlight
  refine Calmly.bind (calm_field _ _) fun o => ?_
  split
  · exact calm_setField _ _ _
  · exact trivial
theorem calm_stack : Calmly stack := fun _ => trivial
theorem calm_entryPlaceOf (f : Addr) (b : Bool) : Calmly (entryPlaceOf f b) := by
  unfold entryPlaceOf
  refine Calmly.bind calm_stack fun o => ?_
  split <;> exact trivial
theorem calm_behind (env : Env) (outer : List Env) : Calmly (behindIsImport env outer) := by
  unfold behindIsImport
  split
  · exact trivial
  · split
    · exact trivial
    · exact Calmly.bind (calm_field _ _) fun _ => trivial
theorem calm_readyFrames : ∀ l : List Env, Calmly (readyFrames l)
  | [] => trivial
  | env :: outer => by
    unfold readyFrames
    split
    · refine Calmly.bind (calm_load _) fun o => ?_
      split
      · exact trivial
      · refine Calmly.bind (calm_behind _ _) fun b => ?_
        refine Calmly.bind ?_ fun bk => ?_
        · unfold keptBack
          split
          · split
            · exact trivial
            · unfold underTheClaimsCaller
              exact Calmly.bind (Calmly.bind calm_stack fun _ => trivial) fun _ => trivial
          · exact trivial
        · refine Calmly.bind ⟨?_, fun _ => trivial⟩ fun _ => calm_readyFrames outer
          intro o
          obtain ⟨c, d, dt, sl⟩ := o
          cases dt <;> exact ⟨rfl, rfl⟩
    · exact trivial
theorem calm_newObj {cls : Value} {vs : List Value} {ty : String} : Calmly (newFields ty vs) := by
  unfold newFields newObj
  dsimp only
  split
  · exact trivial
  · unfold newObjAsIs
    exact fun _ => trivial
theorem calm_frameOf (env : Env) : Calmly (PySem.frameOf env) := by
  unfold PySem.frameOf
  refine Calmly.bind ?_ fun l => Calmly.bind ?_ fun o => ?_
  · unfold frameEnvs
    exact Calmly.bind calm_stack fun _ => trivial
  · cases l.dropWhile (·.frame != env.frame) with
    | nil => exact trivial
    | cons e r =>
      unfold frameObject
      exact Calmly.bind (calm_readyFrames _) fun _ => trivial
  · split <;> exact trivial
theorem calm_noteFrame (env : Env) (e : Value) : Calmly (noteFrame e env) := by
  unfold noteFrame
  split
  · refine Calmly.bind (calm_field _ _) fun head => ?_
    have fin : ∀ f : Addr, Calmly (do
        let a ← PySem.frameOf env
        let b ← entryPlaceOf f (head != .none)
        let c ← EntryCells.newEntry head a .none (rawInt f) .none b
        setField e 1 c) := fun f =>
      Calmly.bind (calm_frameOf _) fun a => Calmly.bind (calm_entryPlaceOf _ _) fun b => Calmly.bind (by unfold EntryCells.newEntry; exact calm_newObj (cls := .none)) fun c => calm_setField _ _ _
    split
    · refine Calmly.bind (calm_field _ _) fun y => ?_
      split
      · exact trivial
      · exact Calmly.bind (calm_setField _ _ _) fun _ => fin _
    · exact fin _
  · exact trivial
theorem calm_leaving (env : Env) (e : Value) : Calmly (leaving env e) := by
  unfold leaving
  exact Calmly.bind (calm_noteFrame _ _) fun _ => calm_setFlight _ _

section
variable {prog : Program} {w : World} {A : Around} {R : Result → Shared → Prop} {h : Heap} {g : Array GenState} {d : Drawn} {t : Nat} {os : OsState}
variable {nm q : Str} {C N : Addr} {bs bm bmB : List Value} {hdct : Bool} {sn : List Str} {sub : List Value} {ab : Bool} {col : Option Bool} {dd : Option Addr} {k0 k1 k2 k3 k5 : Option Value} {B newId initId : String}
/-- what is asked of the classes above an own exception class, in whatever order they stand -/
structure TailHas (B : String) (bm : List Value) : Prop where
  base : bm.contains (.type B) = true
  noAttr : bm.contains (.type "AttributeError") = false
  noName : bm.contains (.type "NameError") = false

theorem exc_check_new (F : ExcBaseFacts B newId initId bmB) (T : TailHas B bm) {rest : List Value} {M : Model} {E : Value → Shared → Prop} {Q : Unit → Shared → Prop} (hC : h.get? C = some (excClassObj nm q C N bs bm hdct sn sub ab col dd k0 k1 k2 k3 k5 newId))
    (hq : Q () ⟨h, g, d, t, os⟩) : wpAny M A (checkBuiltinCall newId ⟨.ref C :: rest, []⟩) Q E ⟨h, g, d, t, os⟩ := by
  have hcont : (Value.ref C :: bm).contains (.type B) = true := by rw [List.contains_cons, T.base, Bool.or_true]
  have hstar := F.noStar
  simp only [checkBuiltinCall, F.newKind, F.newSplit, F.newRow]
  repeat (first | refine wpAny_loadPart_at hC ?_ | (refine wpAny_isSubtype_exc hC ?_; rw [hcont]) | refine wpAny_staticBase_exc hC ?_ | refine wpAny_madeBy_exc hC ?_ | simp only [bne_self_eq_false, Bool.false_eq_true, if_false] | wp_step)
  exact hq

theorem exc_new (F : ExcBaseFacts B newId initId bmB) (T : TailHas B bm) {rest : List Value} (hC : h.get? C = some (excClassObj nm q C N bs bm hdct sn sub ab col dd k0 k1 k2 k3 k5 newId))
    (hq : R (.ok (.ret (.ref (h.objs.size + 1)))) ⟨(h.push { cls := .type "tuple", data := .seq rest.toArray }).push
      { cls := .ref C, data := .fields #[.ref h.objs.size, .none, .none, .none, .bool false, .none] }, g, d, t, os⟩) (hrest : rest.length ≤ sizeLine := by size_fits) :
    codeAny (model prog w) A (.builtin newId ⟨.ref C :: rest, []⟩) R ⟨h, g, d, t, os⟩ := by
  have hends := F.ends
  have hcB : (Value.ref C :: bm).contains (.type B) = true := by rw [List.contains_cons, T.base, Bool.or_true]
  have hcA : (Value.ref C :: bm).contains (.type "AttributeError") = false := by rw [List.contains_cons, T.noAttr]; rfl
  have hcN : (Value.ref C :: bm).contains (.type "NameError") = false := by rw [List.contains_cons, T.noName]; rfl
  refine codeAny_builtinAt F.entry ?_
  unfold Builtin.«BaseException.__new__»
  refine PySem.wpAt_bind ?_
  show PySem.wpAt _ _ _ (stack >>= _) _ _ _
  refine PySem.wpAt_bind (PySem.wpAt_stack fun p below => PySem.wpAt_of_wpAny ?_)
  wp_walk
  refine PySem.wpAt_of_wpAny ?_
  rw [F.owner]
  repeat (first | with_reducible refine wpAny_madeHere_exc F.canon hC ?_ | with_reducible refine wpAny_loadPart_at hC ?_ | (with_reducible refine wpAny_isSubtype_exc hC ?_; first | rw [hcB] | rw [hcA] | rw [hcN]) | wp_step)
  show R _ _
  rw [Heap.size_push]
  exact hq
end
section
variable {prog : Program} {w : World} {A : Around} {E : Value → Shared → Prop} {h : Heap} {g : Array GenState} {d : Drawn} {t : Nat} {os : OsState}
variable {nm q : Str} {C N fI : Addr} {bs bm bmB : List Value} {hdct : Bool} {sn : List Str} {sub : List Value} {ab : Bool} {col : Option Bool} {dd : Option Addr} {k0 k1 k2 k3 k5 : Option Value} {B newId initId : String}
/-- an own exception class called: its own __init__ is handed the new object -/
theorem exc_type_call (F : ExcBaseFacts B newId initId bmB) (T : TailHas B bm) {rest : List Value} {Q : Fin → Shared → Prop}
    (hC : h.get? C = some (excClassObj nm q C N bs bm hdct sn sub ab col dd k0 k1 k2 k3 k5 newId)) (hi : Looks (model prog w) h (typeLookup (.ref C) "__init__") (some (.ref fI))) (hb : ∀ self, Looks (model prog w) h (bindSpecial (.ref fI) self) (.ref fI, [self]))
    (hq : wpAny (model prog w) A (call (.ref fI) (.ref (h.objs.size + 1) :: rest)) (fun v s' => v = .none ∧ Q (.done (.ret (.ref (h.objs.size + 1)))) s') E
      ⟨(h.push { cls := .type "tuple", data := .seq rest.toArray }).push { cls := .ref C, data := .fields #[.ref h.objs.size, .none, .none, .none, .bool false, .none] }, g, d, t, os⟩) (hrest : rest.length ≤ sizeLine := by size_fits) :
    wpAny (model prog w) A (Builtin.«type.__call__» ⟨.ref C :: rest, []⟩) Q E ⟨h, g, d, t, os⟩ := by
  repeat (first | with_reducible refine wpAny_loadPart_at hC ?_ | with_reducible refine wpAny_madeBy_exc hC ?_ | wp_step)
  refine codeAny_call_builtin_code (Code.quiet_builtin _ F.quiet) (exc_check_new F T hC ?_)
  refine exc_new F T hC ?_ hrest
  show wpAny _ _ _ _ _ _
  have kp : ∀ b o, h.get? b = some o → ((h.push { cls := .type "tuple", data := .seq rest.toArray }).push { cls := .ref C, data := .fields #[.ref h.objs.size, .none, .none, .none, .bool false, .none] }).get? b = some o :=
    fun b o e => Heap.get?_push_of_some _ (Heap.get?_push_of_some _ e)
  have hC₁ := kp _ _ hC
  have hget : ((h.push { cls := .type "tuple", data := .seq rest.toArray }).push
      { cls := .ref C, data := .fields #[.ref h.objs.size, .none, .none, .none, .bool false, .none] }).get? (h.objs.size + 1) = some
      { cls := .ref C, data := .fields #[.ref h.objs.size, .none, .none, .none, .bool false, .none] } := by heap_get
  have hcC : (Value.ref C :: bm).contains (.ref C) = true := by simp
  unfold isInstance
  repeat (first | with_reducible refine wpAny_loadPart_at hget ?_ | (with_reducible refine wpAny_isSubtype_exc hC₁ ?_; rw [hcC]) | wp_step)
  show wpAny _ _ (typeLookup (.ref C) _) _ _ _
  refine (hi.keeps kp).here ?_
  dsimp only
  refine wpAny_holding (wpAny_bind (((hb _).keeps kp).here ?_))
  refine wpAny_bind (wpAny_mono hq (fun v s' z => ?_) fun _ _ e => e)
  obtain ⟨rfl, z⟩ := z
  first | exact wpAny_pure (wpAny_pure z) | (refine wpAny_pure ?_; wp_walk; exact z) | (wp_walk; exact z)
theorem exc_call (F : ExcBaseFacts B newId initId bmB) (T : TailHas B bm) {rest : List Value} {Q : Value → Shared → Prop}
    (hC : h.get? C = some (excClassObj nm q C N bs bm hdct sn sub ab col dd k0 k1 k2 k3 k5 newId)) (hi : Looks (model prog w) h (typeLookup (.ref C) "__init__") (some (.ref fI))) (hb : ∀ self, Looks (model prog w) h (bindSpecial (.ref fI) self) (.ref fI, [self]))
    (hq : wpAny (model prog w) (A.under (.builtin "type.__call__" ⟨.ref C :: rest, []⟩)) (call (.ref fI) (.ref (h.objs.size + 1) :: rest)) (fun v s' => v = .none ∧ Q (.ref (h.objs.size + 1)) s') E
      ⟨(h.push { cls := .type "tuple", data := .seq rest.toArray }).push { cls := .ref C, data := .fields #[.ref h.objs.size, .none, .none, .none, .bool false, .none] }, g, d, t, os⟩) (hrest : rest.length ≤ sizeLine := by size_fits) :
    wpAny (model prog w) A (call (.ref C) rest) Q E ⟨h, g, d, t, os⟩ := by
  have f1 := tc_lookup
  have f2 := tc_bind (.ref C)
  have hT : (⟨h, g, d, t, os⟩ : Shared).TypeIs (.ref C) "type" := ⟨_, hC, rfl⟩
  refine wpAny_call (codeAny_of_tree ?_)
  show wpAny _ _ (callAny (.ref C) _) _ _ _
  repeat (any_goals (first | assumption | with_reducible refine wpAny_loadPart_at hC ?_ | wp_step))
  refine ⟨rfl, ?_⟩
  refine codeAny_call_builtin_at (Code.quiet_builtin _ (by decide +kernel)) entry_typeCall (wpAny_check_type_call_sub hC (exc_type_call (hrest := hrest) F T hC hi hb (wpAny_mono hq (fun v s' z => ⟨z.1, z.2⟩) fun _ _ z => z)))
end

section
variable {M : Model} {A : Around} {E : Value → Shared → Prop} {env : Env}
variable {nm q : Str} {C N : Addr} {bs bm : List Value} {hdct : Bool} {sn : List Str} {sub : List Value} {ab : Bool} {col : Option Bool} {dd od : Option Addr} {k0 k1 k2 k3 k5 : Option Value} {newId : String}
/-- raising an exception of an own class that has a dict -/
theorem raise_made_d {s : Shared} {x : Sem Value} {Q : Flow → Shared → Prop} (hbase : bm.contains (.type "BaseException") = true) (hh : A.handled = none)
    (h : wpAny M A x (fun v s₁ => ∃ e t od, v = .ref e ∧ s₁.heap.get? C = some (excClassObj nm q C N bs bm hdct sn sub ab col dd k0 k1 k2 k3 k5 newId) ∧
      s₁.heap.get? e = some { cls := .ref C, dict := od, data := .fields #[.ref t, .none, .none, .none, .bool false, .none] } ∧ E (.ref e) s₁) E s) :
    wpAny M A (raiseStmt env (some x) none) Q E s := by
  have hcB : (Value.ref C :: bm).contains (.type "BaseException") = true := by rw [List.contains_cons, hbase, Bool.or_true]
  unfold raiseStmt
  refine wpAny_bind (wpAny_mono h (fun v s₁ h₁ => ?_) fun _ _ x => x)
  obtain ⟨e, t, od, rfl, hC, he, hE⟩ := h₁
  obtain ⟨hp, g, d, tk, os⟩ := s₁
  repeat (first | with_reducible refine wpAny_loadPart_at he ?_ | with_reducible refine wpAny_loadPart_at hC ?_ | (with_reducible refine wpAny_isSubtype_exc hC ?_; rw [hcB]) | wp_step)
  exact wpAny_raiseNew_none hh hE
end
section
variable {M : Model} {A : Around} {E : Value → Shared → Prop} {s' : Shared} {base g : Heap} {outer : List Env} {L a e t : Addr} {m : Str → Option Value} {name : Str} {scope : Scope} {cd : Value} {Q : Unit → Shared → Prop} {news : List (Addr × Obj)}
theorem push_env {h₀ h : Heap} {env : Env} (K : Below A base outer h₀) (F : Fr h₀ L h m) (hf : env.frame = some L) (hk : env.scope.kind = .function) : Below (A.deeper env) base (env :: outer) h := by
  have hnew : base.get? L = none := by
    cases hq : base.get? L with
    | none => rfl
    | some o => exact absurd (Nat.lt_of_lt_of_le (Heap.lt_size (K.stays L o hq)) F.above) (Nat.lt_irrefl _)
  refine ⟨Around.frames_deeper K.stack, fun b o e => F.keep b o (K.stays b o e), ?_⟩
  exact .cons (by rw [hk]; decide) hf F.ns hnew (K.frames.of_keeps fun b o e _ => ⟨o, F.keep b o e, rfl⟩)
/-- the first leaving of an exception object that has (perhaps) a dict -/
theorem leave_first_d {env : Env} {cls : Value} {vs : List Value} {od : Option Addr} (K : Below A base outer g) (he : s'.heap.get? e = some { cls := cls, dict := od, data := .fields #[.ref t, .none, .none, .none, .bool false, .none] })
    (ht : s'.heap.TupAt t vs) (ge : g.get? e = none) (gt : g.get? t = none) (F : Fr g L s'.heap m) (N : News g L s'.heap news) (ne : ∀ q ∈ news, q.1 ≠ e) (nt : ∀ q ∈ news, q.1 ≠ t)
    (hQ : ∀ h', RaisedK base outer e cls t vs news h' → g.UpToSlots h' → Q () { s' with heap := h' }) (hf : env.frame = some L := by rfl) (hk : env.scope.kind = .function := by rfl) :
    wpAny M (A.deeper env) (leaving env (.ref e)) Q E s' := by
  have K' := push_env K F hf hk
  have hin : ∀ e1 ∈ (env :: outer), ∀ b, e1.frame = some b → b ∈ e :: t :: (env :: outer).filterMap (·.frame) := fun e1 he b hb => .tail _ (.tail _ (List.mem_filterMap.mpr ⟨e1, he, hb⟩))
  have be : base.get? e = none := fresh_of_stays K.stays ge
  have bt : base.get? t = none := fresh_of_stays K.stays gt
  have hno : ∀ b o, base.get? b = some o → b ∉ e :: t :: (env :: outer).filterMap (·.frame) := fun b o q hm => by
    rcases List.mem_cons.mp hm with rfl | hm
    · rw [be] at q; cases q
    · rcases List.mem_cons.mp hm with rfl | hm
      · rw [bt] at q; cases q
      · rw [(K'.frames.mem hm).1] at q; cases q
  have st : base.StaysIn (hideAll s'.heap (e :: t :: (env :: outer).filterMap (·.frame))) := fun b o q => hideAll_get _ (K'.stays b o q) (hno b o q)
  have hl : ∀ q ∈ news, (hideAll s'.heap (e :: t :: (env :: outer).filterMap (·.frame))).get? q.1 = some q.2 ∧ base.get? q.1 = none := fun q hq => by
    refine ⟨hideAll_get _ (N q hq).1 fun hm => ?_, fresh_of_stays K.stays (N q hq).2.2⟩
    rcases List.mem_cons.mp hm with hm | hm
    · exact ne q hq hm
    · rcases List.mem_cons.mp hm with hm | hm
      · exact nt q hq hm
      · obtain ⟨e1, he1, hf1⟩ := List.mem_filterMap.mp hm
        rcases List.mem_cons.mp he1 with rfl | he1
        · exact (N q hq).2.1 (Option.some.inj (hf.symm.trans hf1)).symm
        · obtain ⟨o, ho, _⟩ := (K.frames.mem (List.mem_filterMap.mpr ⟨e1, he1, hf1⟩)).2
          rw [(N q hq).2.2] at ho; cases ho
  refine wpAny_leaving_firstW (base := hideAll s'.heap (e :: t :: (env :: outer).filterMap (·.frame))) (a0 := .ref t) K'.stack (funFrames_hide K'.frames hin) hf he (fun b o q => of_hideAll _ q) (hideAll_none _ (.head _)) rfl rfl rfl fun h' hL => ?_
  obtain ⟨k1, ⟨_, _, k2⟩, k3, k4⟩ := hL
  have up : s'.heap.UpToSlots h' := k4
  exact hQ h' ⟨⟨_, st, hl, ⟨k1, hideAll_none _ (.head _), k2, k3⟩, hideAll_none _ (.tail _ (.head _))⟩, ht.of_slots up⟩ ((Heap.UpToSlots.of_keeps F.keep).trans up)
/-- a later leaving, for any function's frame -/
theorem leave_on_env {env : Env} {g₂ : Heap} {cls : Value} {vs : List Value} (K : Below A base outer g) (F : Fr g L g₂ m) (R : RaisedK base (env :: outer) e cls t vs news s'.heap) (hsm : g₂.UpToSlots s'.heap)
    (hQ : ∀ h', RaisedK base outer e cls t vs news h' → g.UpToSlots h' → Q () { s' with heap := h' }) (hf : env.frame = some L := by rfl) :
    wpAny M (A.deeper env) (leaving env (.ref e)) Q E s' := by
  obtain ⟨⟨B, hB, hl, hfl, hnew⟩, htup⟩ := R
  exact wpAny_leaves_onW (Around.frames_deeper K.stack) hf hfl fun h' x1 x2 => hQ h' ⟨⟨B, hB, hl, x1, hnew⟩, htup.of_slots x2⟩ ((Heap.UpToSlots.of_keeps F.keep).trans (hsm.trans x2))
end

@[reducible] def tupOf' (vs : List Value) : Obj := { cls := .type "tuple", data := .seq vs.toArray }
theorem lt_of_allLt {d : Addr} : ∀ {l : List (Addr × Obj)}, AllLt d l → ∀ p ∈ l, p.1 < d := by
  intro l
  induction l with
  | nil => exact fun _ p hp => nomatch hp
  | cons q r ih => exact fun h p hp => (List.mem_cons.mp hp).elim (fun e => e ▸ h.1) (ih h.2 p)
section
open Builtin Builtin.ObjectAttr
variable {prog : Program} {w : World} {A : Around} {s : Shared} {K : Frag} {h₀ : Heap} {L x C C2 : Addr} {m : Str → Option Value} {R : Result → Shared → Prop} {name : Str} {tk : Tok} {v : Value} {ox : Obj} {cd : ClassData}
/-- a store upon an exception object of an own class that stands two steps above Exception -/
theorem osa_openE {od : Option Obj} (X : K.In s.heap) (I : InstAt s.heap x ox C od) (hc : clsIn K C = some cd) (hm : cd.mro = [.ref C, .ref C2, .type "Exception", .type "BaseException", .type "object"]) (ha : findIn K (.ref C) name = some none)
    (h : wpAny (model prog w) A.in1 (storeInOwnDict (.ref x) (.ref C) (.str name tk) name v false)
      (fun fin s' => match fin with | .done f => R (.ok f) s' | .again c' => c'.quiet = true ∧ codeAny (model prog w) A c' R s') (fun e s' => R (.error e) s') s) :
    codeAny (model prog w) A (.call (.builtin "object.__setattr__") ⟨[.ref x, .str name tk, v], []⟩) R s := by
  have SF := PySem.F.store_Exception
  have sub : Looks (model prog w) s.heap (isInstance (.ref x) (.type "object")) true := I.type.andThen (looks_mroIn X (by unfold mroIn; rw [hc, Option.bind_some, hm]; rfl))
  refine codeAny_call_builtin PySem.F.store_object.slot.plain SF.entry (@check_slot (model prog w) _ _ s "object.__setattr__" "object" "__setattr__" (.ref x) [.str name tk, v] [] _ SF.kind SF.split sub (SF.args (.ref x) (.str name tk) v) ?_)
  have hmr : Looks (model prog w) s.heap (mroOf (.ref C)) cd.mro := (looks_clsIn X hc).andThen .now
  rw [osa_eq, refuse_eq]
  refine wpAny_bind (wpAny_bind (I.type.here (wpAny_bind (hmr.here ?_))))
  rw [hm, refuseLoop_ref, refuseLoop_ref, SF.passes]
  refine wpAny_pure (wpAny_bind (I.type.here (wpAny_bind ((looks_findIn X ha).here (wpAny_bind (wpAny_pure ?_))))))
  exact h
theorem osa_newE {news : List (Addr × Obj)} (F : Fr h₀ L s.heap m) (X : K.In s.heap) (N : News h₀ L s.heap ((x, ox) :: news)) (hox : ox.cls = .ref C) (hno : notCls ox = true) (hod : ox.dict = none)
    (hc : clsIn K C = some cd) (hm : cd.mro = [.ref C, .ref C2, .type "Exception", .type "BaseException", .type "object"]) (hd : cd.hasDict = true) (ha : findIn K (.ref C) name = some none) (hfr : ∀ p ∈ news, p.1 ≠ x)
    (h : ∀ h', Fr h₀ L h' m → News h₀ L h' ((s.heap.objs.size, dictOf [⟨PyData.keyHash w.params name, .str name s.toks, v⟩] 1) :: (x, { ox with dict := some s.heap.objs.size }) :: news) → R (.ok (.ret .none)) { s with heap := h', toks := s.toks + 1 }) :
    codeAny (model prog w) A (.call (.builtin "object.__setattr__") ⟨[.ref x, .str name tk, v], []⟩) R s := by
  have hx := (N _ (.head _)).1
  refine osa_openE (od := none) X ⟨hx, hox, hno, by rw [hod]; trivial⟩ hc hm ha ?_
  obtain ⟨hp, g, d, t, os⟩ := s
  dsimp only at F X N hx h ⊢
  have F₁ := F.push { cls := .type "dict", data := .dict #[] }
  have N₁ : News h₀ L (hp.push { cls := .type "dict", data := .dict #[] }) ([(hp.objs.size, { cls := .type "dict", data := .dict #[] })] ++ (x, ox) :: news) := N.push F _
  have hne : hp.objs.size ≠ x := Nat.ne_of_gt (Heap.lt_size hx)
  have hfz : ({ ox with dict := some hp.objs.size } : Obj).isFreed = false := by
    have hfr := (Heap.get?_some_iff.mp hx).2
    obtain ⟨oc, od, odt, osl⟩ := ox
    cases odt <;> first | rfl | exact hfr
  obtain ⟨F₂, N₂⟩ := news_upd (f := fun o => { o with dict := some hp.objs.size }) (o' := { ox with dict := some hp.objs.size }) F₁ N₁ (by intro p hp'; rw [List.mem_singleton.mp hp']; exact hne) hfr rfl hfz
  have hnx : ∀ p ∈ ((x, { ox with dict := some hp.objs.size }) :: news : List (Addr × Obj)), p.1 ≠ hp.objs.size := by
    intro p hp'
    rcases List.mem_cons.mp hp' with rfl | hp'
    · exact Ne.symm hne
    · exact Nat.ne_of_lt (Heap.lt_size (N p (List.mem_cons_of_mem _ hp')).1)
  obtain ⟨F₃, N₃⟩ := news_upd (pre := []) (f := Obj.putName name (PyData.keyHash w.params name) (.str name t) v) (o' := dictOf [⟨PyData.keyHash w.params name, .str name t, v⟩] 1) F₂ N₂ (fun _ h => by cases h) hnx (by rfl) (by rfl)
  have hcd : ∀ (Q : ClassData → Shared → Prop) (E : Value → Shared → Prop), Q cd ⟨hp, g, d, t, os⟩ → wpAny (model prog w) A.in1 (classData C) Q E ⟨hp, g, d, t, os⟩ := fun Q E q => (looks_clsIn (M := model prog w) X hc).here q
  have hdat : ∀ c, ox.data ≠ .cls c := fun c e => by unfold notCls at hno; rw [e] at hno; cases hno
  obtain ⟨oc, odi, oda, osl⟩ := ox
  dsimp only at hox hod hdat
  subst hox hod
  refine wpAny_bind (wpAny_pure (wpAny_bind (wpAny_bind (wpAny_loadPart' hx (wpAny_bind (hcd _ _ ?_))))))
  rw [hd]
  rw [if_neg (by simp)]
  split
  · rename_i c e
    cases e
  dsimp only
  rw [if_neg (by simp [typeHasDict])]
  split
  · exact absurd rfl (hdat _)
  · refine wpAny_bind (wpAny_alloc' (wpAny_bind (wpAny_update' (Heap.get?_push_of_some _ hx) ?_)))
    refine wpAny_pure ?_
    show wpAny _ _ (storeInDict hp.objs.size (.str name tk) name v) _ _ _
    unfold storeInDict newKeyGuard
    refine wpAny_bind (wpAny_pure (wpAny_bind ?_))
    unfold nsSet
    refine wpAny_bind (wpAny_bind (wpAny_askSetting (wpAny_pure (wpAny_bind (wpAny_mkText (wpAny_bind (wpAny_loadPart' (N₂ (hp.objs.size, _) (List.Mem.head _)).1 ?_)))))))
    dsimp only
    rw [aRefKeyMayBeTheName_at, if_neg (by simp)]
    refine wpAny_updatePart' (N₂ (hp.objs.size, _) (List.Mem.head _)).1 ?_
    refine wpAny_bind (wpAny_lookBehind (N₃ (hp.objs.size, _) (List.Mem.head _)).1 (by exact pastItsLine_dict (by simp [sizeLine_eq])) ?_)
    exact wpAny_pure (h _ F₃ N₃)
theorem osa_dictE {dx : Addr} {od od' : Obj} {news : List (Addr × Obj)} {es : List DictEntry} {n : Nat} (F : Fr h₀ L s.heap m) (X : K.In s.heap) (N : News h₀ L s.heap ((dx, od) :: news)) (I : InstAt s.heap x ox C (some od)) (hdx : ox.dict = some dx)
    (hc : clsIn K C = some cd) (hm : cd.mro = [.ref C, .ref C2, .type "Exception", .type "BaseException", .type "object"]) (hd : cd.hasDict = true) (ha : findIn K (.ref C) name = some none)
    (hl : (lookIn name od).isSome = true) (hfr : ∀ p ∈ news, p.1 ≠ dx)
    (e : Obj.putName name (PyData.keyHash w.params name) (.str name s.toks) v od = od') (e' : od'.data = .dict es.toArray n) (hz : es.length ≤ 1000)
    (h : ∀ h', Fr h₀ L h' m → News h₀ L h' ((dx, od') :: news) → R (.ok (.ret .none)) { s with heap := h', toks := s.toks + 1 }) :
    codeAny (model prog w) A (.call (.builtin "object.__setattr__") ⟨[.ref x, .str name tk, v], []⟩) R s := by
  refine osa_openE X I hc hm ha ?_
  obtain ⟨U1, U2⟩ := news_upd (pre := []) (f := Obj.putName name (PyData.keyHash w.params name) (.str name s.toks) v) F N (fun _ h => by cases h) hfr e (by obtain ⟨_, _, dd, _⟩ := od'; cases e'; rfl)
  have D := (N (dx, od) (by simp)).1
  have D' := (U2 (dx, od') (by simp)).1
  obtain ⟨hx, hcl, hn, -⟩ := I
  obtain ⟨oc, odi, oda, osl⟩ := ox
  dsimp only at hcl hdx
  subst hcl hdx
  refine wpAny_bind (wpAny_pure (wpAny_bind (wpAny_bind (wpAny_loadPart hx (wpAny_bind ((looks_clsIn X hc).here ?_))))))
  rw [hd]
  refine wpAny_pure (a := some dx) (wpAny_bind (wpAny_pure (wpAny_bind ?_)))
  unfold nsSet
  refine wpAny_bind (wpAny_bind (wpAny_askSetting (wpAny_pure (wpAny_bind (wpAny_mkText (wpAny_bind (wpAny_loadPart D ?_)))))))
  unfold lookIn at hl
  split at hl
  · rename_i es₀ n₀ q
    rw [q]
    dsimp only
    have c : (!es₀.any (·.key.isStr name) && es₀.any (·.refKey)) = false := by
      rw [← Array.any_toList, ← Array.any_toList]
      split at hl
      · rename_i en he
        rw [List.any_eq_true.mpr ⟨en, List.mem_of_find?_eq_some he, List.find?_some he⟩]; rfl
      · split at hl
        · cases hl
        · rename_i z; rw [Bool.not_eq_true] at z; rw [z, Bool.and_false]
    rw [aRefKeyMayBeTheName_at, c]
    refine wpAny_updatePart D ?_
    refine wpAny_bind (wpAny_lookBehind D' (by rw [e']; exact pastItsLine_dict (by rw [List.size_toArray, sizeLine_eq]; omega)) ?_)
    exact wpAny_pure (h _ U1 U2)
  · cases hl
theorem set_newE {E : Value → Shared → Prop} {Q : Unit → Shared → Prop} {d1 : Addr} {o1 : Obj} {r : List (Addr × Obj)} (F : Fr h₀ L s.heap m) (X₀ : K.In h₀) (N : News h₀ L s.heap ((d1, o1) :: (x, ox) :: r)) (hs : findIn K (.ref C) "__setattr__" = some (some (.builtin "object.__setattr__")))
    (hox : ox.cls = .ref C) (hno : notCls ox = true) (hod : ox.dict = none) (hc : clsIn K C = some cd) (hm : cd.mro = [.ref C, .ref C2, .type "Exception", .type "BaseException", .type "object"]) (hd : cd.hasDict = true) (ha : findIn K (.ref C) name = some none) (h1 : d1 ≠ x) (hfr : ∀ p ∈ r, p.1 ≠ x)
    (h : ∀ h', Fr h₀ L h' m → News h₀ L h' ((s.heap.objs.size, dictOf [⟨PyData.keyHash w.params name, .str name (s.toks + 1), v⟩] 1) :: (x, { ox with dict := some s.heap.objs.size }) :: (d1, o1) :: r) → (∀ p ∈ (d1, o1) :: (x, ox) :: r, p.1 < s.heap.objs.size) → (∀ p ∈ (x, { ox with dict := some s.heap.objs.size }) :: (d1, o1) :: r, p.1 ≠ s.heap.objs.size) → Q () { s with heap := h', toks := s.toks + 2 }) : wpAny (model prog w) A (setAttr (.ref x) name v) Q E s := by
  have N' : News h₀ L s.heap ((x, ox) :: (d1, o1) :: r) := fun p hp => by
    rcases List.mem_cons.mp hp with rfl | hp
    · exact N _ (.tail _ (.head _))
    · rcases List.mem_cons.mp hp with rfl | hp
      · exact N _ (.head _)
      · exact N _ (.tail _ (.tail _ hp))
  have I : InstAt s.heap x ox C none := ⟨(N' _ (.head _)).1, hox, hno, by rw [hod]; trivial⟩
  refine set_plain (X₀.keeps F.keep) I hs (osa_newE (s := { s with toks := s.toks + 1 }) F (X₀.keeps F.keep) N' hox hno hod hc hm hd ha ?_ fun h' F' N'' => h h' F' N'' (fun p hp => Heap.lt_size (N p hp).1) fun p hp => ?_)
  · intro p hp
    rcases List.mem_cons.mp hp with rfl | hp
    · exact h1
    · exact hfr p hp
  · rcases List.mem_cons.mp hp with rfl | hp
    · exact Nat.ne_of_lt (Heap.lt_size (N _ (.tail _ (.head _))).1)
    · rcases List.mem_cons.mp hp with rfl | hp
      · exact Nat.ne_of_lt (Heap.lt_size (N _ (.head _)).1)
      · exact Nat.ne_of_lt (Heap.lt_size (N _ (.tail _ (.tail _ hp))).1)
theorem set_dictE {E : Value → Shared → Prop} {Q : Unit → Shared → Prop} {dx : Addr} {od od' : Obj} {r : List (Addr × Obj)} {es : List DictEntry} {n : Nat} (F : Fr h₀ L s.heap m) (X₀ : K.In h₀) (N : News h₀ L s.heap ((dx, od) :: (x, ox) :: r)) (hs : findIn K (.ref C) "__setattr__" = some (some (.builtin "object.__setattr__")))
    (hox : ox.cls = .ref C) (hno : notCls ox = true) (hod : ox.dict = some dx) (hc : clsIn K C = some cd) (hm : cd.mro = [.ref C, .ref C2, .type "Exception", .type "BaseException", .type "object"]) (hd : cd.hasDict = true) (ha : findIn K (.ref C) name = some none)
    (hl : (lookIn name od).isSome = true) (hfr : ∀ p ∈ (x, ox) :: r, p.1 ≠ dx) (e : Obj.putName name (PyData.keyHash w.params name) (.str name (s.toks + 1)) v od = od') (e' : od'.data = .dict es.toArray n) (hz : es.length ≤ 1000)
    (h : ∀ h', Fr h₀ L h' m → News h₀ L h' ((dx, od') :: (x, ox) :: r) → Q () { s with heap := h', toks := s.toks + 2 }) : wpAny (model prog w) A (setAttr (.ref x) name v) Q E s := by
  have I : InstAt s.heap x ox C (some od) := ⟨(N _ (.tail _ (.head _))).1, hox, hno, by rw [hod]; exact (N _ (.head _)).1⟩
  exact set_plain (X₀.keeps F.keep) I hs (osa_dictE (s := { s with toks := s.toks + 1 }) F (X₀.keeps F.keep) N I hod hc hm hd ha hl hfr e e' hz fun h' F' N' => h h' F' N')
end
section
variable {prog : Program} {w : World} {A : Around} {s : Shared} {K : Frag} {h₀ : Heap} {L e t0 : Addr} {m : Str → Option Value} {E : Value → Shared → Prop} {ox : Obj} {vs : Array Value} {rest : List Value} {Q : Value → Shared → Prop}
theorem printed_starE {whole : Bool} {sig : Manifest.Signature} {C : Addr} {cd : ClassData} {Q : String → Shared → Prop} (X : K.In s.heap) (hT : Looks (model prog w) s.heap (typeOf (.ref e)) (.ref C)) (hc : clsIn K C = some cd) (hs : sig.receiver = .self) (h : ∀ x, Q x s) :
    wpAny (model prog w) A (Bind.printed "*" whole sig (some (.ref e))) Q E s := by
  unfold Bind.printed Bind.receiverType
  rw [if_neg (by decide), hs]
  refine wpAny_bind (m := (if (Manifest.Receiver.self == Manifest.Receiver.cls) = true then pure (.ref e) else typeOf (.ref e))) ?_
  rw [if_neg (by decide)]
  refine hT.here ?_
  refine wpAny_bind (m := typeNameWhole _) ?_
  exact wpAny_bind ((looks_clsIn X hc).here (wpAny_pure (wpAny_pure (h _))))
/-- Exception.__init__(self, ..) upon an object of an own exception class -/
theorem exc_initE {news : List (Addr × Obj)} {C : Addr} {cd : ClassData} (F : Fr h₀ L s.heap m) (X : K.In s.heap) (N : News h₀ L s.heap ((e, ox) :: news)) (hT : Looks (model prog w) s.heap (typeOf (.ref e)) (.ref C)) (hc : clsIn K C = some cd) (hi : Looks (model prog w) s.heap (isInstance (.ref e) (.type "Exception")) true) (hd : ox.data = .fields vs) (h0 : vs[0]? = some (.ref t0)) (hfr : ∀ p ∈ news, p.1 ≠ e)
    (h : ∀ h', Fr h₀ L h' m → News h₀ L h' ((s.heap.objs.size, tupOf' rest) :: (e, { ox with data := .fields (vs.setIfInBounds 0 (.ref s.heap.objs.size)) }) :: news) → Q .none { s with heap := h' }) (hrest : rest.length ≤ sizeLine := by size_fits) :
    wpAny (model prog w) A (call (.builtin "Exception.__init__") (.ref e :: rest)) Q E s := by
  have he := (N _ (.head _)).1
  have FC := PySem.F.excCall_Exception
  refine wpAny_call (codeAny_call_builtin FC.init.plain FC.initEntry ?_)
  simp only [checkBuiltinCall, FC.initKind, FC.initSplit, FC.initRow]
  refine wpAny_bind (hi.here ?_)
  simp only [Bool.not_true, Bool.false_eq_true, if_false]
  unfold Bind.checkArgs
  dsimp only
  refine wpAny_bind (m := Bind.printed "*" true _ _) (printed_starE X hT hc rfl fun full => ?_)
  refine wpAny_bind (m := Bind.printed "Exception" false _ _) (printed_name FC.noStar ?_)
  show wpAny (model prog w) _ (Sem.onRaise (Bind.check _ full "Exception" _ []) _) _ _ s
  rw [check_varPos]
  refine wpAny_pure ?_
  unfold Builtin.«BaseException.__init__»
  dsimp only
  rw [if_neg (by simp)]
  unfold newTuple Builtin.BaseException.bexcPut
  have hsz : 0 < vs.size := (Array.getElem?_eq_some_iff.mp h0).1
  have F₁ := F.push { cls := .type "tuple", data := .seq rest.toArray }
  have N₁ : News h₀ L (s.heap.push { cls := .type "tuple", data := .seq rest.toArray }) ([(s.heap.objs.size, tupOf' rest)] ++ (e, ox) :: news) := N.push F _
  have he₁ := Heap.get?_push_of_some (h := s.heap) { cls := .type "tuple", data := .seq rest.toArray } he
  have hne : s.heap.objs.size ≠ e := Nat.ne_of_gt (Heap.lt_size he)
  obtain ⟨F₂, N₂⟩ := news_upd (f := Obj.mapFields (·.setIfInBounds 0 (.ref s.heap.objs.size))) (o' := { ox with data := .fields (vs.setIfInBounds 0 (.ref s.heap.objs.size)) }) F₁ N₁ (by intro p hp'; rw [List.mem_singleton.mp hp']; exact hne) hfr
    (by obtain ⟨oc, od, odt, osl⟩ := ox; dsimp only at hd; subst hd; rfl) (by rfl)
  refine wpAny_bind (wpAny_newObj_type (wpAny_bind (wpAny_bind (wpAny_field he₁ hd h0 (wpAny_bind (wpAny_setField he₁ hd hsz ?_))))) (by show rest.toArray.size ≤ sizeLine; rw [List.size_toArray]; exact hrest))
  exact wpAny_letGo (wpAny_pure (h _ F₂ N₂))
theorem exc_initK {news : List (Addr × Obj)} {C C2 : Addr} {cd : ClassData} (F : Fr h₀ L s.heap m) (X₀ : K.In h₀) (N : News h₀ L s.heap ((e, ox) :: news)) (hox : ox.cls = .ref C) (hno : notCls ox = true) (hod : ox.dict = none) (hc : clsIn K C = some cd) (hm : cd.mro = [.ref C, .ref C2, .type "Exception", .type "BaseException", .type "object"])
    (hd : ox.data = .fields vs) (h0 : vs[0]? = some (.ref t0)) (hfr : ∀ p ∈ news, p.1 ≠ e)
    (h : ∀ h', Fr h₀ L h' m → News h₀ L h' ((s.heap.objs.size, tupOf' rest) :: (e, { ox with data := .fields (vs.setIfInBounds 0 (.ref s.heap.objs.size)) }) :: news) → (∀ p ∈ (e, ox) :: news, p.1 < s.heap.objs.size) → Q .none { s with heap := h' }) (hrest : rest.length ≤ sizeLine := by size_fits) :
    wpAny (model prog w) A (call (.builtin "Exception.__init__") (.ref e :: rest)) Q E s := by
  have X := X₀.keeps F.keep
  have I : InstAt s.heap e ox C none := ⟨(N _ (.head _)).1, hox, hno, by rw [hod]; trivial⟩
  exact exc_initE (hrest := hrest) F X N I.type hc (I.type.andThen (looks_mroIn X (by unfold mroIn; rw [hc, Option.bind_some, hm]; rfl))) hd h0 hfr fun h' F' N' => h h' F' N' fun p hp => Heap.lt_size (N p hp).1
end

section
variable {M : Model} {A : Around} {E : Value → Shared → Prop} {s' : Shared} {base g : Heap} {outer : List Env} {L e t D : Addr} {m : Str → Option Value} {Q : Shared → Prop} {news : List (Addr × Obj)}
/-- the first leaving of an own exception that has just been made, its dict followed -/
theorem first_leaves {env : Env} {cls : Value} {vs : List Value} {ot dD : Obj} {n : Nat} (K : Below A base outer g) (F : Fr g L s'.heap m) (N : News g L s'.heap news)
    (N3 : News g L s'.heap [(e, { cls := cls, dict := some D, data := .fields #[.ref t, .none, .none, .none, .bool false, .none] }), (t, ot), (D, dD)]) (hot : ot.cls = .type "tuple") (hod : ot.data = .seq vs.toArray n)
    (lt : ∀ q ∈ news, q.1 < e ∧ q.1 < t ∧ q.1 < D) (n2 : e ≠ D) (n3 : t ≠ D)
    (hQ : ∀ h', RaisedK base outer e cls t vs ((D, dD) :: news) h' → g.UpToSlots h' → DictIs e D h' → Q { s' with heap := h' }) (hf : env.frame = some L := by rfl) (hk : env.scope.kind = .function := by rfl) :
    wpAny M (A.deeper env) (leaving env (.ref e)) (fun _ s => Q s) E s' := by
  have he := N3 _ (.head _)
  have ht := N3 _ (.tail _ (.head _))
  have hD := N3 _ (.tail _ (.tail _ (.head _)))
  have Nall : News g L s'.heap ((D, dD) :: news) := fun q hq => (List.mem_cons.mp hq).elim (fun e => e ▸ hD) (N q)
  refine wpAny_mono (wpAny_calmly (d := D) (calm_leaving env (.ref e)) ⟨_, he.1, rfl⟩ (leave_first_d (Q := fun _ s => ∃ h', s = { s' with heap := h' } ∧ RaisedK base outer e cls t vs ((D, dD) :: news) h' ∧ g.UpToSlots h') (E := E) K he.1 ⟨ot, n, ht.1, hot, hod⟩ he.2.2 ht.2.2 F Nall ?_ ?_ (fun h' R U => ⟨h', rfl, R, U⟩) hf hk)) (fun _ s h => ?_) (fun _ _ x => x.1)
  · intro q hq
    rcases List.mem_cons.mp hq with rfl | hq
    · exact Ne.symm n2
    · exact Nat.ne_of_lt (lt q hq).1
  · intro q hq
    rcases List.mem_cons.mp hq with rfl | hq
    · exact Ne.symm n3
    · exact Nat.ne_of_lt (lt q hq).2.1
  · obtain ⟨⟨h', rfl, R, U⟩, hd⟩ := h
    exact hQ h' R U hd
/-- a later leaving, the dict followed -/
theorem later_leaves {env : Env} {g₂ : Heap} {cls : Value} {vs : List Value} (K : Below A base outer g) (F : Fr g L g₂ m) (R : RaisedK base (env :: outer) e cls t vs news s'.heap) (hsm : g₂.UpToSlots s'.heap) (hD : DictIs e D s'.heap)
    (hQ : ∀ h', RaisedK base outer e cls t vs news h' → g.UpToSlots h' → DictIs e D h' → Q { s' with heap := h' }) (hf : env.frame = some L := by rfl) :
    wpAny M (A.deeper env) (leaving env (.ref e)) (fun _ s => Q s) E s' := by
  refine wpAny_mono (wpAny_calmly (d := D) (calm_leaving env (.ref e)) hD (leave_on_env (Q := fun _ s => ∃ h', s = { s' with heap := h' } ∧ RaisedK base outer e cls t vs news h' ∧ g.UpToSlots h') (E := E) K F R hsm (fun h' R U => ⟨h', rfl, R, U⟩) hf)) (fun _ s h => ?_) (fun _ _ x => x.1)
  obtain ⟨⟨h', rfl, R, U⟩, hd⟩ := h
  exact hQ h' R U hd
theorem raised_sub {cls : Value} {vs : List Value} {news' : List (Addr × Obj)} {l : List Env} {h : Heap} (R : RaisedK base l e cls t vs news h) (hs : ∀ q ∈ news', q ∈ news) : RaisedK base l e cls t vs news' h := by
  obtain ⟨⟨B, hB, hl, r⟩, htup⟩ := R
  exact ⟨⟨B, hB, fun q hq => hl q (hs q hq), r⟩, htup⟩
end

section
variable {prog : Program} {w : World} {A₀ : Around} {E : Value → Shared → Prop} {s' : Shared} {h₀ h : Heap} {outer : List Env} {L a e t D : Addr} {m : Str → Option Value} {name : Str} {scope : Scope} {cd : Value} {cl : List (Str × Addr)}
  {vs : List Value} {n : Str} {b₀ : Stmt} {suite : List Stmt} {pos np : Pos} {rest : List ExceptHandler} {Q : Flow → Shared → Prop} {news : List (Addr × Obj)} {KF : Frag} {C : Addr}
  {p : Program} {loose : List Str} {mean : ExcName → Option Value} {mg mb : Str → Option Value} {x : Str}
  {nm q : Str} {N : Addr} {bs bm : List Value} {hdct : Bool} {sn : List Str} {sub : List Value} {ab : Bool} {col : Option Bool} {dd : Option Addr} {k0 k1 k2 k3 k5 : Option Value} {newId : String}
/-- an own exception is caught by its own class's name and bound; its dict is known behind it -/
theorem caught_D (K : Below A₀ h₀ outer h₀) (F : Fr h₀ L h m) (hsm : h.UpToSlots s'.heap) (R : RaisedK h₀ (envX name scope L a cd cl :: outer) e (.ref C) t vs news s'.heap) (hDi : DictIs e D s'.heap)
    (X : KF.In h₀) (T : TopRead p loose mg mb h₀) (ex : nsIn KF mainGlobals x = some (some (.ref C))) (hC₀ : h₀.get? C = some (excClassObj nm q C N bs bm hdct sn sub ab col dd k0 k1 k2 k3 k5 newId)) (hbase : bm.contains (.type "BaseException") = true)
    (k : ∀ h' tk oe ws, oe.cls = .ref C → oe.data = .fields ws → oe.dict = some D → Fr h₀ L h' (fun y => if y = n then some (.ref e) else m y) → News h₀ L h' ((e, oe) :: news) →
      wpAny (model prog w) ((A₀.deeper (envX name scope L a cd cl)).mark (some (.ref e))) (execs (b₀ :: suite) (envX name scope L a cd cl))
        (fun f s₄ => wpAny (model prog w) (A₀.deeper (envX name scope L a cd cl)) (do bindName (envX name scope L a cd cl) n .none; unbindBehindTheSuite (envX name scope L a cd cl) n pos) (fun _ s₅ => Q f s₅) E s₄)
        (AsSuiteRaised (model prog w) ((A₀.deeper (envX name scope L a cd cl)).mark (some (.ref e))) (envX name scope L a cd cl) n pos (notedBy (model prog w) ((A₀.deeper (envX name scope L a cd cl)).mark (some (.ref e))) (envX name scope L a cd cl) (cameBackBy (model prog w) (A₀.deeper (envX name scope L a cd cl)) (envX name scope L a cd cl) E)))
        { s' with heap := h', toks := tk })
    (hk : scope.kind = .function := by rfl) (hlo : (envX name scope L a cd cl).kindOf n = some .local := by rfl) (hx : (envX name scope L a cd cl).kindOf x = some .globalImplicit := by rfl) (hd : (x == ("__debug__" : Str)) = false := by decide) :
    wpAny (model prog w) (A₀.deeper (envX name scope L a cd cl)) (noteFrame (.ref e) (envX name scope L a cd cl))
      (fun _ s₂ => wpAny (model prog w) (A₀.deeper (envX name scope L a cd cl)) (setFlight (.ref e) none) (fun _ s₃ =>
        wpAny (model prog w) (A₀.deeper (envX name scope L a cd cl)) (handleBy (.ref e) (envX name scope L a cd cl) (.ExceptHandler (some (.Name x np)) (some n) (b₀ :: suite) pos :: rest)) Q E s₃) E s₂) E s' := by
  obtain ⟨⟨B, hB, hl, hfl, hnew⟩, htup⟩ := R
  have hL : B.get? L = none := by
    obtain ⟨_, ⟨L', _, hf, hn', _⟩, _⟩ := hfl.2.2.1
    obtain rfl : L = L' := Option.some.inj hf
    exact hn'
  refine wpAny_mono (wpAny_calmly (d := D) (calm_noteFrame _ (.ref e)) hDi (wpAny_looks_onW (Q := fun _ s => ∃ h', s = { s' with heap := h' } ∧ Heap.HeldW B (envX name scope L a cd cl :: outer) e (.ref C) (.ref t) L h' ∧ s'.heap.UpToSlots h') (E := E) (Around.frames_deeper K.stack) rfl hfl fun h₄ hheld₄ hsm₄ => ⟨h₄, rfl, hheld₄, hsm₄⟩)) (fun _ s2 z => ?_) (fun _ _ x => x.1)
  obtain ⟨⟨h₄, rfl, hheld₄, hsm₄⟩, hD4⟩ := z
  refine wpAny_mono (wpAny_calmly (d := D) (calm_setFlight (.ref e) none) hD4 (wpAny_landsW (Q := fun _ s => ∃ h', s = { s' with heap := h' } ∧ Heap.FlyingW B (envX name scope L a cd cl :: outer) e (.ref C) (.ref t) h' ∧ h₄.UpToSlots h') (E := E) hheld₄ fun h₅ hheld hsm₅' => ⟨h₅, rfl, hheld, hsm₅'⟩)) (fun _ s3 z => ?_) (fun _ _ x => x.1)
  obtain ⟨⟨h₅, rfl, hheld, hsm₅'⟩, hD5⟩ := z
  have hsm₅ := hsm₄.trans hsm₅'
  have hheld' := flyingW_base hB hheld
  have F₅ := F.of_stays hheld'.1 (hsm.trans hsm₅)
  obtain ⟨ob, hob, hobc⟩ := hheld'.there
  refine wpAny_handleBy_cons (codeAny_handlers_test (nameX_K F₅ X T ex ?_ hk hx hd)) (by intro q; cases q)
  refine wpAny_excMatches_sub_self (F₅.keep _ _ hC₀) hob hobc hbase (codeAny_handlers_suite_as ?_)
  refine wpAny_mono (wpAny_calmly (d := D) (calm_setFlight (.ref e) none) hD5 (lands_againW (Q := fun _ s => ∃ h', s = { s' with heap := h' } ∧ Heap.FlyingW B (envX name scope L a cd cl :: outer) e (.ref C) (.ref t) h' ∧ h₅.UpToSlots h') hheld fun h₆ hfl₆ hsm₆ => ⟨h₆, rfl, hfl₆, hsm₆⟩)) (fun _ s4 z => ?_) (fun _ _ x => x.1)
  obtain ⟨⟨h₆, rfl, hfl₆, hsm₆⟩, hD6⟩ := z
  have hfl₆' := flyingW_base hB hfl₆
  have F₆ := F.of_stays hfl₆'.1 ((hsm.trans hsm₅).trans hsm₆)
  obtain ⟨oe, ws, hoe, hoec, hoed, hoe0⟩ := hfl₆'.first
  obtain ⟨oD, hoD, hdD⟩ := hD6
  obtain rfl : oe = oD := Option.some.inj (hoe.symm.trans hoD)
  have N₆ := News.more F₆ News.nil hoe (fun es n q => by rw [hoed] at q; cases q) hfl₆'.2.1
  have Nl : News h₀ L h₆ news := fun q hq => ⟨hfl₆.1 _ _ (hl q hq).1, (fun z => by have := (hl q hq).1; rw [z, hL] at this; cases this), (hl q hq).2⟩
  refine storeX_L F₆ (news := (e, oe) :: news) (fun q hq => (List.mem_cons.mp hq).elim (fun z => z ▸ N₆ _ (.head _)) (Nl q)) (fun h₇ F₇ N₇ => ?_) hk hlo
  exact k h₇ _ oe ws hoec hoed hdD F₇ N₇
end
/-- the caught object as an instance whose dict is written out -/
theorem exc_inst {h₀ h : Heap} {L e D C : Addr} {news : List (Addr × Obj)} {oe od : Obj} {ws : Array Value} (N : News h₀ L h news) (hm : (e, oe) ∈ news) (hD : (D, od) ∈ news) (hc : oe.cls = .ref C) (hd : oe.data = .fields ws) (hdd : oe.dict = some D) : InstAt h e oe C (some od) :=
  ⟨(N _ hm).1, hc, by unfold notCls; rw [hd], by rw [hdd]; exact (N _ hD).1⟩

section
open Builtin Builtin.ObjectAttr
variable {prog : Program} {w : World} {A : Around} {E : Value → Shared → Prop} {s : Shared} {K : Frag} {x C C2 : Addr} {ox : Obj} {od : Option Obj} {name : Str} {tk : Tok} {expr : Bool} {v : Value} {cd : ClassData}
/-- the attribute read of an exception of an own class: what BaseException's own __getattribute__ gives -/
theorem ga_call {R : Result → Shared → Prop} (X : K.In s.heap) (I : InstAt s.heap x ox C od) (hc : clsIn K C = some cd) (hm : cd.mro = [.ref C, .ref C2, .type "Exception", .type "BaseException", .type "object"])
    (hf : findObj K C od name = some (.value v)) (h : R (.ok (.ret v)) s) :
    codeAny (model prog w) A (.call (.builtin "BaseException.__getattribute__") ⟨[.ref x, .str name tk], []⟩) R s := by
  have hk : builtinKind "BaseException.__getattribute__" = some .slot := by decide +kernel
  have hsplit : splitId "BaseException.__getattribute__" = some ("BaseException", "__getattribute__") := by decide +kernel
  have sub : Looks (model prog w) s.heap (isInstance (.ref x) (.type "BaseException")) true := I.type.andThen (looks_mroIn X (by unfold mroIn; rw [hc, Option.bind_some, hm]; rfl))
  refine codeAny_call_builtin PySem.F.attrBase_Exception.ga.plain PySem.F.entry_bexc_ga (@check_slot (model prog w) _ _ s "BaseException.__getattribute__" "BaseException" "__getattribute__" (.ref x) [.str name tk] [] _ hk hsplit sub (PySem.F.args_bexc_ga (.ref x) (.str name tk)) ?_)
  have L0 := I.type (M := model prog w)
  have L1 := looks_find (M := model prog w) X I hf
  unfold Builtin.«object.__getattribute__» slotArgs attrName
  simp only [List.isEmpty_nil, Bool.not_true, List.length_cons, List.length_nil, bne_self_eq_false, if_neg Bool.false_ne_true]
  refine wpAny_bind (wpAny_pure (wpAny_bind (wpAny_pure (wpAny_bind (L0.at (wpAny_bind (L1.at ?_)))))))
  exact wpAny_pure h
theorem get_openE (X : K.In s.heap) (I : InstAt s.heap x ox C od) (hga : findIn K (.ref C) "__getattribute__" = some (some (.builtin "BaseException.__getattribute__"))) (hgt : findIn K (.ref C) "__getattr__" = some none)
    (hc : clsIn K C = some cd) (hm : cd.mro = [.ref C, .ref C2, .type "Exception", .type "BaseException", .type "object"]) {Q : Value → Shared → Prop}
    (hf : findObj K C od name = some (.value v)) (hh : handedIn v = true) (h : Q v { s with toks := s.toks + 1 }) : wpAny (model prog w) A (getAttr (.ref x) name expr) Q E s := by
  obtain ⟨hh', g, d, t, os⟩ := s
  have L0 := I.type (M := model prog w)
  have L1 := looks_findIn (M := model prog w) X hga
  have L2 := looks_findIn (M := model prog w) X hgt
  have hx2 : (Value.builtin "BaseException.__getattribute__" == Value.builtin "object.__getattribute__") = false := by decide +kernel
  have f3 := PySem.F.attrBase_Exception.ga.bind (.ref x)
  have hx0 : (expr && onTheHeap (Value.builtin "BaseException.__getattribute__")) = false := by cases expr <;> rfl
  unfold getAttr getAttrBy
  refine wpAny_bind (wpAny_mkText (wpAny_holding (wpAny_bind (L0.at (wpAny_bind (L1.at ?_))))))
  dsimp only
  rw [hx2, Bool.and_false, if_neg Bool.false_ne_true]
  unfold getAttrByItsOwn
  refine wpAny_bind (L2.at ?_)
  unfold callGetattribute
  rw [hx0, if_neg Bool.false_ne_true]
  unfold boundAndCalled
  rw [f3]
  repeat (any_goals (first | assumption | (with_reducible exact ga_call X I hc hm hf (by assumption)) | wp_step))
  refine ga_call X I hc hm hf ?_
  show wpAny _ _ (handedOut v) _ _ _
  rw [handedOut_of hh]; exact wpAny_pure h
theorem get_ownE {h₀ : Heap} {L : Addr} {m : Str → Option Value} {es : List DictEntry} {n : Nat} {attr : Option Value} {Q : Value → Shared → Prop} (F : Fr h₀ L s.heap m) (X₀ : K.In h₀) (I : InstAt s.heap x ox C (some (dictOf es n)))
    (hga : findIn K (.ref C) "__getattribute__" = some (some (.builtin "BaseException.__getattribute__"))) (hgt : findIn K (.ref C) "__getattr__" = some none)
    (hc : clsIn K C = some cd) (hm : cd.mro = [.ref C, .ref C2, .type "Exception", .type "BaseException", .type "object"]) (hh : hasDictIn K C = true)
    (ha : findIn K (.ref C) name = some attr) (hn : noGet K attr = true) (hl : getL name es = some (some v)) (hv : handedIn v = true) (h : Q v { s with toks := s.toks + 1 }) : wpAny (model prog w) A (getAttr (.ref x) name expr) Q E s :=
  get_openE (X₀.keeps F.keep) I hga hgt hc hm (findObj_own hh ha hn hl) hv h
theorem name_goesX {M : Model} {h₀ : Heap} {L a : Addr} {m : Str → Option Value} {nm n : Str} {scope : Scope} {cdv : Value} {cl : List (Str × Addr)} {news : List (Addr × Obj)} {pos : Pos} {Q : Unit → Shared → Prop} (F : Fr h₀ L s.heap m) (N : News h₀ L s.heap news)
    (h : ∀ h' v, Fr h₀ L h' (fun y => if y = n then v else m y) → News h₀ L h' news → Q () { s with heap := h', toks := s.toks + 1 })
    (hk : scope.kind = .function := by rfl) (hl : (envX nm scope L a cdv cl).kindOf n = some .local := by rfl) :
    wpAny M A (do bindName (envX nm scope L a cdv cl) n .none; unbindBehindTheSuite (envX nm scope L a cdv cl) n pos) Q E s :=
  wpAny_nameGoes_keeps hl F.ns (by show (scope.kind == .class || (scope.kind == .module && L != mainGlobals)) = false; rw [hk]; rfl) fun h' v hn hs => h h' v (F.set hn hs) (N.set hs)
end

/-- the entries of the dict that has at most one key, the tuple of two texts at `a` -/
def patXs (a : Addr) : Option Value → List (List Str × Addr × Value)
  | none => []
  | some v => [([Str.ofString "", Str.ofString "last"], a, v)]
def PatObj (prog : Program) (w : World) (a : Addr) (o : Obj) (v : Option Value) : Prop :=
  o.ExactDict ∧ ∃ es ep, o.data = .dict es ep ∧ es.toList = (patXs a v).map (entryOfKey (tupleKind (strKind prog w)))
section
variable {prog : Program} {w : World} {A : Around} {E : Value → Shared → Prop} {s : Shared} {h₀ h : Heap} {L d a : Addr} {m : Str → Option Value} {news : List (Addr × Obj)} {g : Obj → List (Addr × Obj)} {o : Obj} {v : Option Value} {u : Value}
theorem pat_empty (hd : o.IsDictOf (strKind prog w) []) : PatObj prog w a o none := by
  obtain ⟨es, ep, hc, hdat, _, hp, _⟩ := hd
  have he : es.toList = [] := List.length_eq_zero_iff.mp hp.length
  exact ⟨hc, es, ep, hdat, he⟩
theorem pat_dict (hk : IsTupleKey (strKind prog w) h [Str.ofString "", Str.ofString "last"] a) (hg : h.get? d = some o) (P : PatObj prog w a o v) : h.DictOfH (tupleKind (strKind prog w)) d (patXs a v) := by
  obtain ⟨hc, es, ep, hdat, he⟩ := P
  refine ⟨o, es, ep, hg, hc, hdat, he, ?_, ?_⟩
  · cases v with
    | none => exact fun x hx => by cases hx
    | some u =>
      intro x hx
      rw [List.mem_singleton.mp hx]
      exact hk
  · cases v with
    | none => exact List.nodup_nil
    | some u => exact List.nodup_cons.mpr ⟨List.not_mem_nil, List.nodup_nil⟩
theorem pat_key {K : Frag} {dd : Option Addr} {sl : Array (Option Value)} {n : Nat} {t1 t2 : Tok} (F : Fr h₀ L h m) (X : K.In h₀)
    (hl : K.lookup a = some ⟨.type "tuple", dd, .seq [.str (Str.ofString "") t1, .str (Str.ofString "last") t2].toArray n, sl⟩) :
    IsTupleKey (strKind prog w) h [Str.ofString "", Str.ofString "last"] a :=
  ⟨_, _, n, X.keeps F.keep _ _ hl, rfl, rfl, .cons (strKind_is _ _ _ _) (.cons (strKind_is _ _ _ _) .nil)⟩
theorem pat_method {pl : Sem Bool} {Q : Value × List Value → Shared → Prop} (hk : IsTupleKey (strKind prog w) s.heap [Str.ofString "", Str.ofString "last"] a) (N : News h₀ L s.heap news) (hp : (d, o) ∈ news) (P : PatObj prog w a o v)
    (h : Q (.builtin "dict.get", [.ref d]) s) : wpAny (model prog w) A (getMethod (.ref d) "get" pl) Q E s :=
  have hD := pat_dict hk (N.get hp) P
  getMethod_builtin hD.typeIs PySem.F.plainAttrs_dict PySem.F.slot_dict_get PySem.F.type_dict_get (dictOfH_noDict hD) h
theorem pat_get {Q : Value → Shared → Prop} (hu : A.units + 1 < cLine) (hk : IsTupleKey (strKind prog w) s.heap [Str.ofString "", Str.ofString "last"] a) (N : News h₀ L s.heap news) (hp : (d, o) ∈ news) (P : PatObj prog w a o v) (lo : (d == sysModules) = false)
    (h : Q (v.getD .none) { s with toks := s.toks + 3 }) : wpAny (model prog w) A (call (.builtin "dict.get") [.ref d, .ref a]) Q E s := by
  have hD := pat_dict hk (N.get hp) P
  refine call_meetsIn PySem.F.slot_dict_get hD.typeIs PySem.F.entry_dict_get (PySem.F.args_dict_get_2 _ _) (meetsH_dict_get (tupleKind (strKind prog w)) d a lo) ⟨tupleKind_room_in1 hu, _, _, hk, hD, ?_⟩
  cases v <;> exact h
theorem pat_set {Q : Unit → Shared → Prop} (hu : A.units + 1 < cLine) (hk : IsTupleKey (strKind prog w) s.heap [Str.ofString "", Str.ofString "last"] a) (F : Fr h₀ L s.heap m) (N : News h₀ L s.heap news) (U : UpdF d o news g) (P : PatObj prog w a o v)
    (h : ∀ h' o', Fr h₀ L h' m → News h₀ L h' (g o') → PatObj prog w a o' (some u) → Q () { s with heap := h', toks := s.toks + 3 }) : wpAny (model prog w) A (setItem (.ref d) (.ref a) u) Q E s := by
  obtain ⟨pre, post, rfl, hg, ha, hb⟩ := U.split
  have hm := N (d, o) (List.mem_append_right _ (.head _))
  have hD := pat_dict hk hm.1 P
  have e : (patXs a v).length ≤ sizeLine := Nat.le_trans (by cases v <;> simp [patXs] : (patXs a v).length ≤ 1) (by rw [sizeLine_eq]; decide)
  refine wpAny_setItem_heap (knd := tupleKind (strKind prog w)) (hsz := e) (tupleKind_room_in1 hu) hk hD fun h' hm' hs => ?_
  · obtain ⟨o', es', ep', ho', hc', hd', he', _, _⟩ := hm'
    refine h h' o' (F.change hs hm.2.1 hm.2.2) (hg o' ▸ N.setIn ha hb hs ho') ⟨hc', es', ep', hd', ?_⟩
    rw [he']
    cases v with
    | none => rfl
    | some x => rfl
end
theorem pop_none {prog : Program} {w : World} {A : Around} {E : Value → Shared → Prop} {s : Shared} {h₀ : Heap} {L d : Addr} {news : List (Addr × Obj)} {o : Obj} {k : Int} {tk : Tok} {Q : Value → Shared → Prop} (N : News h₀ L s.heap news) (hp : (d, o) ∈ news) (hd : o.IsDictOf (intKind prog w) []) (lo : (d == sysModules) = false)
    (h : Q .none { s with toks := s.toks + 1 }) : wpAny (model prog w) A (call (.builtin "dict.pop") [.ref d, .int k tk, .none]) Q E s := by
  have hD : s.heap.DictOf (intKind prog w) d [] := Heap.dictOf_iff.mpr ⟨o, N.get hp, hd⟩
  exact call_meetsIn PySem.F.slot_dict_pop hD.mapOf.typeIs PySem.F.entry_dict_pop (PySem.F.args_dict_pop_3 _ _ _) (meets_dict_pop_default (intKind prog w) d (k := k) (intKind_is _ _ _ _) lo rfl .none) ⟨[], hD, rfl, h⟩

section
variable {prog : Program} {w : World} {A₀ A : Around} {s : Shared} {base h₀ : Heap} {outer : List Env} {L : Addr} {m : Str → Option Value} {env : Env} {news rest : List (Addr × Obj)} {K : Frag}
  {R : Result → Shared → Prop} {name qual : Str} {params : Arguments} {body : List Stmt} {scope : Scope} {cl : List (Str × Addr)} {dV kV doc pm cdv ct oc : Value} {an od : Option Addr} {osl : Array (Option Value)} {fo : Obj} {f : Addr} {args : Args} {binds : List (Str × Value)}
  {p : Program} {loose : List Str} {mean : ExcName → Option Value} {mg mb : Str → Option Value}
/-- a call of a function object (a closure too): what the callee is not told of (rest) stands as it stood -/
theorem codeX_rest (NR : News h₀ L s.heap rest) (hdis : ∀ b ∈ news, ∀ q ∈ rest, q.1 ≠ b.1)
    (B : Below A₀ base outer h₀) (F : Fr h₀ L s.heap m) (X₀ : K.In h₀) (N : News h₀ L s.heap news) (T : Top p loose mean mg mb h₀) (hA : A.frames = some (env :: outer)) (hf : env.frame = some L) (hke : env.scope.kind = .function)
    (ho : s.heap.get? f = some fo) (hd : fo.data = .func (fnX name qual params body scope cl dV kV doc pm an cdv ct)) (hcd : s.heap.CodeRec cdv qual) (hroom : A.depth < recursionLimit)
    (hbind : BindsTo s (fnX name qual params body scope cl dV kV doc pm an cdv ct) args binds) (hloc : ∀ y ∈ binds, scope.names.lookup y.1 = some .local)
    (h : ∀ g L' h₁, Fr h₀ L g m → Fr g L' h₁ (fun y => binds.reverse.lookup y) → News g L' h₁ news → Below A base (env :: outer) g → K.In g → Top p loose mean mg mb g → (∀ q ∈ news, q.1 < L') →
      wpAny (model prog w) (A.deeper (envX qual scope L' f cdv cl)) (execs body (envX qual scope L' f cdv cl))
        (fun fl s' => LeaveK h₀ L m g (fun r s'' => News h₀ L s''.heap rest → R r s'') (match fl with | .ret v => v | _ => .none) s')
        (fun e s' => wpAny (model prog w) (A.deeper (envX qual scope L' f cdv cl)) (leaving (envX qual scope L' f cdv cl) e) (fun _ s'' => R (.error e) s'') (fun e' s'' => R (.error e') s'') s')
        { s with heap := h₁, toks := s.toks + binds.length })
    (hco : scope.isCoroutine = false) (hgen : scope.isGenerator = false) (hk : scope.kind = .function)
    (hcell : ∀ x ∈ scope.names, x.2 ≠ .cell) : codeAny (model prog w) A (.call (.ref f) args) R s := by
  obtain ⟨FG, BG, st, lv⟩ := groundX (R := fun r s'' => News h₀ L s''.heap rest → R r s'') B F N hA hf hke
  refine codeAny_call_def (fd := fnX name qual params body scope cl dV kV doc pm an cdv ct) (body := body) (binds := binds) hroom ho hd (T.nolimit.keeps F.keep) hcd rfl hbind hcell hloc (fun h₁ hns hk₁ => ?_) hco hgen hk
  refine wpAny_mono (h _ s.heap.objs.size h₁ FG ⟨hns, fun b o e => hk₁ b o (of_hideAll _ e), Nat.le_of_eq (hideAll_size _ _)⟩
    (fun p hp => ⟨hk₁ _ _ (N p hp).1, Nat.ne_of_lt (Heap.lt_size (N p hp).1), hideAll_none _ (List.mem_map_of_mem hp)⟩) BG (X₀.keeps st) (T.keeps st) (fun q hq => Heap.lt_size (N q hq).1)) (fun fl s' hl => ?_) fun _ _ y => y
  have hl' := hl
  obtain ⟨L', m', news', F', -, -⟩ := hl'
  refine lv _ _ hl fun q hq => ⟨F'.keep _ _ (hideAll_get _ (NR q hq).1 fun hm => ?_), (NR q hq).2⟩
  obtain ⟨b, hb, e⟩ := List.mem_map.mp hm
  exact hdis b hb q hq e.symm
end
section
variable {prog : Program} {w : World} {A₀ A : Around} {s : Shared} {base h₀ : Heap} {outer : List Env} {L : Addr} {m : Str → Option Value} {env : Env} {news rest : List (Addr × Obj)} {K : Frag}
  {R : Result → Shared → Prop} {name qual : Str} {params : Arguments} {body : List Stmt} {scope : Scope} {dV kV doc pm cdv ct oc : Value} {an od : Option Addr} {osl : Array (Option Value)} {f : Addr} {args : Args} {binds : List (Str × Value)}
  {p : Program} {loose : List Str} {mean : ExcName → Option Value} {mg mb : Str → Option Value}
/-- codeX_rest for a def of the text's own -/
theorem code_restI (NR : News h₀ L s.heap rest) (hdis : ∀ b ∈ news, ∀ q ∈ rest, q.1 ≠ b.1)
    (B : Below A₀ base outer h₀) (F : Fr h₀ L s.heap m) (X₀ : K.In h₀) (N : News h₀ L s.heap news) (T : Top p loose mean mg mb h₀) (hA : A.frames = some (env :: outer)) (hf : env.frame = some L) (hke : env.scope.kind = .function)
    (ho : K.lookup f = some ⟨oc, od, .func (fnOf name qual params body scope dV kV doc pm an cdv ct), osl⟩) (hcd : codeIn K cdv qual = true) (hroom : A.depth < recursionLimit)
    (hbind : BindsTo s (fnOf name qual params body scope dV kV doc pm an cdv ct) args binds) (hloc : ∀ y ∈ binds, scope.names.lookup y.1 = some .local)
    (h : ∀ g L' h₁, Fr h₀ L g m → Fr g L' h₁ (fun y => binds.reverse.lookup y) → News g L' h₁ news → Below A base (env :: outer) g → K.In g → Top p loose mean mg mb g → (∀ q ∈ news, q.1 < L') →
      wpAny (model prog w) (A.deeper (envOf qual scope L' f cdv)) (execs body (envOf qual scope L' f cdv))
        (fun fl s' => LeaveK h₀ L m g (fun r s'' => News h₀ L s''.heap rest → R r s'') (match fl with | .ret v => v | _ => .none) s')
        (fun e s' => wpAny (model prog w) (A.deeper (envOf qual scope L' f cdv)) (leaving (envOf qual scope L' f cdv) e) (fun _ s'' => R (.error e) s'') (fun e' s'' => R (.error e') s'') s')
        { s with heap := h₁, toks := s.toks + binds.length })
    (hco : scope.isCoroutine = false) (hgen : scope.isGenerator = false) (hk : scope.kind = .function)
    (hcell : ∀ x ∈ scope.names, x.2 ≠ .cell) : codeAny (model prog w) A (.call (.ref f) args) R s :=
  codeX_rest (cl := []) NR hdis B F X₀ N T hA hf hke ((X₀.keeps F.keep) _ _ ho) rfl (codeRec_of (X₀.keeps F.keep) hcd) hroom hbind hloc h hco hgen hk hcell
end
/-- a tail of a ledger that lies below an address -/
def OwnBelow (own : List (Addr × Obj)) (b : Nat) : Prop := ∀ p ∈ own, @LT.lt Nat _ p.1 b
theorem OwnBelow.ne {own : List (Addr × Obj)} {b d : Nat} (h : OwnBelow own b) (hd : b ≤ d) : ∀ p ∈ own, p.1 ≠ d := fun p hp => Nat.ne_of_lt (Nat.lt_of_lt_of_le (h p hp) hd)
theorem news_tail {h₀ h : Heap} {L : Addr} {l x : List (Addr × Obj)} (N : News h₀ L h x) (hs : ∀ p ∈ l, p ∈ x) : News h₀ L h l := fun p hp => N p (hs p hp)
theorem forall_append {α : Type} {P : α → Prop} {a b : List α} (h1 : ∀ x ∈ a, P x) (h2 : ∀ x ∈ b, P x) : ∀ x ∈ a ++ b, P x := fun x hx => (List.mem_append.mp hx).elim (h1 x) (h2 x)
/-- a ledger parted before its unwritten tail -/
inductive SplitTl (tl : List (Addr × Obj)) : List (Addr × Obj) → List (Addr × Obj) → Prop
  | nil : SplitTl tl tl []
  | cons {x r r'} : SplitTl tl r r' → SplitTl tl (x :: r) (x :: r')
theorem SplitTl.eq {tl l pre : List (Addr × Obj)} (S : SplitTl tl l pre) : l = pre ++ tl := by
  induction S with
  | nil => rfl
  | cons _ ih => rw [ih]; rfl
theorem SplitTl.pre {tl l pre : List (Addr × Obj)} (S : SplitTl tl l pre) {h₀ h : Heap} {L : Addr} (N : News h₀ L h l) : News h₀ L h pre := fun p hp => N p (S.eq ▸ List.mem_append_left _ hp)
theorem SplitTl.tl {tl l pre : List (Addr × Obj)} (S : SplitTl tl l pre) {h₀ h : Heap} {L : Addr} (N : News h₀ L h l) : News h₀ L h tl := fun p hp => N p (S.eq ▸ List.mem_append_right _ hp)
def OffAll {ρ : Type} (Led : ρ → List (Addr × Obj)) (adr : List Addr) : Prop := ∀ r, OwnOff (Led r) adr
def BelAll {ρ : Type} (Led : ρ → List (Addr × Obj)) (b : Nat) : Prop := ∀ r, OwnBelow (Led r) b
theorem OffAll.at {ρ : Type} {Led : ρ → List (Addr × Obj)} {adr : List Addr} (h : OffAll Led adr) (r : ρ) : OwnOff (Led r) adr := h r
theorem BelAll.at {ρ : Type} {Led : ρ → List (Addr × Obj)} {b : Nat} (h : BelAll Led b) (r : ρ) : OwnBelow (Led r) b := h r
theorem dis_of {pre tl : List (Addr × Obj)} (h : ∀ q ∈ pre, ∀ p ∈ tl, p.1 ≠ q.1) : ∀ b ∈ tl, ∀ q ∈ pre, q.1 ≠ b.1 := fun b hb q hq e => h q hq b hb e.symm
def FnAll {ρ : Type} (f : Nat) (Led : ρ → List (Addr × Obj)) : Prop := ∀ r, ∃ oc od fd sl, (f, (⟨oc, od, .func fd, sl⟩ : Obj)) ∈ Led r
theorem FnAll.at {ρ : Type} {f : Nat} {Led : ρ → List (Addr × Obj)} (h : FnAll f Led) {r : ρ} {l pre : List (Addr × Obj)} {h₀ h1 : Heap} {L : Addr} (N : News h₀ L h1 l) (S : SplitTl (Led r) l pre) : FnAt f h1 := by
  obtain ⟨oc, od, fd, sl, hm⟩ := h r
  exact ⟨oc, od, fd, sl, (S.tl N _ hm).1⟩
theorem sub_nil {x : List (Addr × Obj)} : ∀ p ∈ ([] : List (Addr × Obj)), p ∈ x := fun _ h => nomatch h
theorem sub_cons {q : Addr × Obj} {l x : List (Addr × Obj)} (hq : q ∈ x) (r : ∀ p ∈ l, p ∈ x) : ∀ p ∈ q :: l, p ∈ x := fun p hp => (List.mem_cons.mp hp).elim (fun e => e ▸ hq) (r p)
theorem SplitTl.mem {tl l pre : List (Addr × Obj)} (S : SplitTl tl l pre) : ∀ p ∈ tl, p ∈ l := fun _ hp => S.eq ▸ List.mem_append_right _ hp
/-- one entry taken out of a ledger -/
inductive Pick (x : Addr × Obj) : List (Addr × Obj) → List (Addr × Obj) → Prop
  | here {r} : Pick x (x :: r) r
  | there {y r r'} : Pick x r r' → Pick x (y :: r) (y :: r')
theorem Pick.mem {x : Addr × Obj} {l r : List (Addr × Obj)} (S : Pick x l r) : x ∈ l := by
  induction S with
  | here => exact .head _
  | there _ ih => exact .tail _ ih
theorem Pick.sub {x : Addr × Obj} {l r : List (Addr × Obj)} (S : Pick x l r) : ∀ p ∈ r, p ∈ l := by
  induction S with
  | here => exact fun p hp => .tail _ hp
  | there _ ih => exact fun p hp => (List.mem_cons.mp hp).elim (fun e => e ▸ .head _) (fun h => .tail _ (ih p h))
theorem Pick.one {x : Addr × Obj} {l r : List (Addr × Obj)} (S : Pick x l r) {h₀ h : Heap} {L : Addr} (N : News h₀ L h l) : News h₀ L h [x] := fun p hp => by rw [List.mem_singleton.mp hp]; exact N _ S.mem
theorem Pick.rest {x : Addr × Obj} {l r : List (Addr × Obj)} (S : Pick x l r) {h₀ h : Heap} {L : Addr} (N : News h₀ L h l) : News h₀ L h r := fun p hp => N _ (S.sub p hp)
def DeckAre (vs : List Value) (ns : List Int) (k : Int) : Prop := ∃ t xs, vs = .int k t :: xs ∧ IntsAre xs ns
theorem deck_of {vs : List Value} {ns : List Int} (h : IntsAre vs ([0] ++ ns)) : DeckAre vs ns 0 := by
  cases h with
  | cons n t r => exact ⟨_, _, rfl, r⟩
theorem deck_take {vs : List Value} {ns : List Int} (h : IntsAre vs ([0] ++ List.take 24 ns)) : ∃ ms : List Int, ms.length ≤ 24 ∧ DeckAre vs ms 0 := ⟨_, List.length_take_le 24 ns, deck_of h⟩

/-- what has been reckoned of a text's beginning: how many were replaced, their length, the new text -/
structure DS where
  k : Nat
  z : Int
  x : List Nat
def dstep (xs : Int → Str) (sz : Nat → Int) (g : Bool) (d : DS) (c : Nat) : DS := if c = 98 ∨ (d.k = 1 ∧ g = false) then ⟨d.k, d.z, d.x ++ [c]⟩ else ⟨d.k + 1, d.z + sz d.k, d.x ++ (xs (sz d.k)).cps.toList⟩
def due (xs : Int → Str) (sz : Nat → Int) (g : Bool) (l : List Nat) : DS := l.foldl (dstep xs sz g) ⟨0, 0, []⟩
section
variable {xs : Int → Str} {sz : Nat → Int} {g : Bool}
theorem due_nil : due xs sz g [] = ⟨0, 0, []⟩ := rfl
theorem due_snoc (l : List Nat) (c : Nat) : due xs sz g (l ++ [c]) = dstep xs sz g (due xs sz g l) c := by unfold due; rw [List.foldl_append]; rfl
theorem due_append (l r : List Nat) : due xs sz g (l ++ r) = r.foldl (dstep xs sz g) (due xs sz g l) := by unfold due; rw [List.foldl_append]
theorem fold_same : ∀ (r : List Nat) (d : DS), (∀ c ∈ r, c = 98 ∨ (d.k = 1 ∧ g = false)) → r.foldl (dstep xs sz g) d = ⟨d.k, d.z, d.x ++ r⟩ := by
  intro r
  induction r with
  | nil => intro d _; simp
  | cons c r ih =>
    intro d h
    rw [List.foldl_cons]
    have e : dstep xs sz g d c = ⟨d.k, d.z, d.x ++ [c]⟩ := by unfold dstep; rw [if_pos (h c (by simp))]
    rw [e, ih ⟨d.k, d.z, d.x ++ [c]⟩ (fun c' hc' => h c' (by simp [hc']))]
    simp
theorem fold_k_le : ∀ (r : List Nat) (d : DS), (r.foldl (dstep xs sz g) d).k ≤ d.k + r.length := by
  intro r
  induction r with
  | nil => intro d; exact Nat.le_refl _
  | cons c r ih =>
    intro d
    rw [List.foldl_cons, List.length_cons]
    have := ih (dstep xs sz g d c)
    have h2 : (dstep xs sz g d c).k ≤ d.k + 1 := by unfold dstep; split <;> simp
    omega
theorem fold_z_le (hsz : ∀ i, i < 8 → 0 ≤ sz i) : ∀ (r : List Nat) (d : DS), d.k + r.length ≤ 8 → d.z ≤ (r.foldl (dstep xs sz g) d).z := by
  intro r
  induction r with
  | nil => intro d _; exact Int.le_refl _
  | cons c r ih =>
    intro d hd
    rw [List.foldl_cons]
    rw [List.length_cons] at hd
    have h2 : (dstep xs sz g d c).k ≤ d.k + 1 := by unfold dstep; split <;> simp
    have h3 : d.z ≤ (dstep xs sz g d c).z := by
      unfold dstep
      split
      · exact Int.le_refl _
      · have := hsz d.k (by omega); show d.z ≤ d.z + sz d.k; omega
    exact Int.le_trans h3 (ih _ (by omega))
theorem fold_x_le (hsz : ∀ i, i < 8 → 0 ≤ sz i ∧ sz i ≤ 5) (hxs : ∀ n, 0 ≤ n → n ≤ 5 → ((xs n).length : Int) = n) : ∀ (r : List Nat) (d : DS), d.k + r.length ≤ 8 → (r.foldl (dstep xs sz g) d).x.length ≤ d.x.length + 5 * r.length := by
  intro r
  induction r with
  | nil => intro d _; simp
  | cons c r ih =>
    intro d hd
    rw [List.foldl_cons, List.length_cons]
    rw [List.length_cons] at hd
    have h2 : (dstep xs sz g d c).k ≤ d.k + 1 := by unfold dstep; split <;> simp
    have h3 : (dstep xs sz g d c).x.length ≤ d.x.length + 5 := by
      unfold dstep
      split
      · show (d.x ++ [c]).length ≤ _; simp
      · have h := hsz d.k (by omega)
        have h' := hxs _ h.1 h.2
        show (d.x ++ (xs (sz d.k)).cps.toList).length ≤ _
        rw [List.length_append]
        have h4 : (xs (sz d.k)).cps.toList.length = (xs (sz d.k)).length := by simp [Str.length]
        omega
    have := ih (dstep xs sz g d c) (by omega)
    omega
theorem due_k_le (l : List Nat) : (due xs sz g l).k ≤ l.length := by have := fold_k_le (xs := xs) (sz := sz) (g := g) l ⟨0, 0, []⟩; simpa [due] using this
theorem due_x_le (hsz : ∀ i, i < 8 → 0 ≤ sz i ∧ sz i ≤ 5) (hxs : ∀ n, 0 ≤ n → n ≤ 5 → ((xs n).length : Int) = n) (l : List Nat) (h : l.length ≤ 8) : (due xs sz g l).x.length ≤ 5 * l.length := by
  have := fold_x_le (g := g) hsz hxs l ⟨0, 0, []⟩ (by simpa using h)
  simpa [due] using this
theorem due_z_nonneg (hsz : ∀ i, i < 8 → 0 ≤ sz i) (l : List Nat) (h : l.length ≤ 8) : 0 ≤ (due xs sz g l).z := fold_z_le (xs := xs) (g := g) hsz l ⟨0, 0, []⟩ (by simpa using h)
theorem due_z_mono (hsz : ∀ i, i < 8 → 0 ≤ sz i) (l r : List Nat) (h : (l ++ r).length ≤ 8) : (due xs sz g l).z ≤ (due xs sz g (l ++ r)).z := by
  rw [due_append]
  refine fold_z_le hsz r _ ?_
  have := due_k_le (xs := xs) (sz := sz) (g := g) l
  rw [List.length_append] at h
  omega
/-- the codes of a text -/
def cds (t : Str) : List Nat := t.cps.toList
theorem cds_len (t : Str) : (cds t).length = t.length := by simp [cds, Str.length]
theorem str_of_cds {x y : Str} (h : cds x = cds y) : x = y := Str.ext' (Array.toList_inj.mp h)
theorem cds_append (x y : Str) : cds (x ++ y) = cds x ++ cds y := by unfold cds; rw [Str.cps_append, Array.toList_append]
theorem cds_slice {x : Str} {i j : Nat} (h1 : i ≤ j) (h2 : j ≤ x.length) : cds (Txt.slice x (some (i : Int)) (some (j : Int))) = ((cds x).drop i).take (j - i) := by
  have h := slice_closesL (x := x) (i := (i : Int)) (j := (j : Int)) (by omega) (by omega) (by omega)
  rw [beq_iff_eq.mp h]
  have e : ((j : Int) - (i : Int)).toNat = j - i := by omega
  simp [cds, e]
theorem cds_from {x : Str} {i : Nat} (h2 : i ≤ x.length) : cds (Txt.slice x (some (i : Int)) none) = (cds x).drop i := by
  have h := slice_from_eq (x := x) (i := (i : Int)) (b := (x.length : Int)) (by omega) (by omega) rfl
  rw [h]
  have e : ((x.length : Int) - (i : Int)).toNat = x.length - i := by omega
  have e2 : x.length = x.cps.toList.length := by simp [Str.length]
  simp only [cds, e, Int.toNat_natCast]
  rw [List.take_of_length_le]
  rw [List.length_drop, e2]
  exact Nat.le_refl _
theorem cds_item {x : Str} {i : Nat} (h : i < x.length) : cds (Txt.item x (i : Int)) = [(cds x).getD i 0] := by
  have hl : i < x.cps.size := h
  have e : PySem.seqIndex? (i : Int) x.length = some i := by
    unfold seqIndex?
    have h0 : ¬ ((i : Int) < 0) := by omega
    simp [h0, h]
  unfold Txt.item Txt.charAt
  rw [e]
  simp [cds, hl, List.getD_eq_getElem?_getD]
theorem glued_fold (rest : List Str) : ∀ (acc : Array Nat), (rest.foldl (fun acc p => acc ++ (Str.ofString "").cps ++ p.cps) acc).toList = acc.toList ++ (rest.map cds).flatten := by
  induction rest with
  | nil => intro acc; simp
  | cons p r ih =>
    intro acc
    rw [List.foldl_cons, ih]
    have e : (Str.ofString "").cps = #[] := by decide
    rw [e]
    simp [cds]
theorem cds_join (ys : List Str) : cds (Txt.join (Str.ofString "") ys) = (ys.map cds).flatten := by
  cases ys with
  | nil => rfl
  | cons y ys =>
    show cds (Builtin.Str.glued (Str.ofString "") (y :: ys)) = _
    unfold Builtin.Str.glued
    show Array.toList (List.foldl (fun (acc : Array Nat) (p : Str) => acc ++ (Str.ofString "").cps ++ p.cps) y.cps ys) = _
    rw [glued_fold]
    simp [cds]
theorem code_of_item {t : Str} {i : Nat} {w : String} {c : Nat} (hw : cds (Str.ofString w) = [c]) (h : i < t.length) (e : Txt.item t (i : Int) = Str.ofString w) : (cds t).getD i 0 = c := by
  have h1 := cds_item h
  rw [e, hw] at h1
  exact (List.cons.inj h1).1.symm
theorem cds_b : cds (Str.ofString "b") = [98] := by decide
theorem cds_a : cds (Str.ofString "a") = [97] := by decide
theorem due_upto {t : Str} {d st : Nat} (h1 : d ≤ st) (h2 : st ≤ t.length) (hb : ∀ i : Int, (d : Int) ≤ i → i < (st : Int) → Txt.item t i = Str.ofString "b") :
    due xs sz g ((cds t).take st) = ⟨(due xs sz g ((cds t).take d)).k, (due xs sz g ((cds t).take d)).z, (due xs sz g ((cds t).take d)).x ++ ((cds t).drop d).take (st - d)⟩ := by
  have e : (cds t).take st = (cds t).take d ++ ((cds t).drop d).take (st - d) := by
    have : st = d + (st - d) := by omega
    conv => lhs; rw [this, List.take_add]
  rw [e, due_append]
  refine fold_same _ _ fun c hc => .inl ?_
  obtain ⟨j, hj, rfl⟩ := List.mem_iff_getElem.mp hc
  rw [List.length_take, List.length_drop, cds_len] at hj
  have h3 := code_of_item (t := t) (i := d + j) cds_b (by omega) (hb ((d + j : Nat) : Int) (by omega) (by omega))
  rw [List.getElem_take, List.getElem_drop]
  rw [← h3, List.getD_eq_getElem?_getD, List.getElem?_eq_getElem (by rw [cds_len]; omega)]
  rfl
theorem due_at {t : Str} {st : Nat} (h : st < t.length) (ha : Txt.item t (st : Int) = Str.ofString "a") (hk : ¬ ((due xs sz g ((cds t).take st)).k = 1 ∧ g = false)) :
    due xs sz g ((cds t).take (st + 1)) = ⟨(due xs sz g ((cds t).take st)).k + 1, (due xs sz g ((cds t).take st)).z + sz (due xs sz g ((cds t).take st)).k, (due xs sz g ((cds t).take st)).x ++ cds (xs (sz (due xs sz g ((cds t).take st)).k))⟩ := by
  have h3 := code_of_item (t := t) (i := st) cds_a h ha
  have hl : st < (cds t).length := by rw [cds_len]; exact h
  have e : (cds t).take (st + 1) = (cds t).take st ++ [97] := by
    rw [List.take_add_one, List.getElem?_eq_getElem hl]
    rw [List.getD_eq_getElem?_getD, List.getElem?_eq_getElem hl] at h3
    simp at h3
    simp [h3]
  rw [e, due_snoc]
  unfold dstep
  rw [if_neg (fun h => h.elim (fun h => by cases h) hk)]
  rfl
theorem due_rest {t : Str} {d : Nat} (hd : d ≤ t.length) (hb : (∀ i : Int, (d : Int) ≤ i → i < (t.length : Int) → Txt.item t i = Str.ofString "b") ∨ ((due xs sz g ((cds t).take d)).k = 1 ∧ g = false)) :
    due xs sz g (cds t) = ⟨(due xs sz g ((cds t).take d)).k, (due xs sz g ((cds t).take d)).z, (due xs sz g ((cds t).take d)).x ++ (cds t).drop d⟩ := by
  rcases hb with hb | hb
  · have h := due_upto (xs := xs) (sz := sz) (g := g) hd (Nat.le_refl _) hb
    have e1 : (cds t).take t.length = cds t := List.take_of_length_le (by rw [cds_len]; exact Nat.le_refl _)
    have e2 : ((cds t).drop d).take (t.length - d) = (cds t).drop d := List.take_of_length_le (by rw [List.length_drop, cds_len]; exact Nat.le_refl _)
    rw [e1, e2] at h
    exact h
  · have e : cds t = (cds t).take d ++ (cds t).drop d := (List.take_append_drop _ _).symm
    conv => lhs; rw [e, due_append]
    exact fold_same _ _ fun c _ => .inr hb
theorem sum_len : ∀ ys : List Str, (ys.map (·.length)).sum = ((ys.map cds).flatten).length
  | [] => rfl
  | y :: ys => by simp only [List.map_cons, List.sum_cons, List.flatten_cons, List.length_append, cds_len, sum_len ys]
theorem push2 {ps : Array Value} {txs : List Str} {a b : Str} {ta tb : Tok} (h : StrsAre ps.toList txs) : StrsAre ((ps.push (.str a ta)).push (.str b tb)).toList (txs ++ [a] ++ [b]) := by
  have e : ((ps.push (.str a ta)).push (.str b tb)).toList = ps.toList ++ [.str a ta] ++ [.str b tb] := by simp
  rw [e]
  exact kct_snoc (kct_snoc h)
end
/-- what replaced_text gives back, and the scalar's text behind it -/
def RepOut (xs : Int → Str) (sz : Nat → Int) (g r : Bool) (t : Str) (v : Value) (x' : Str) : Prop :=
  (r = true ∧ (∃ x tv, v = .str x tv ∧ cds x = (due xs sz g (cds t)).x) ∧ x' = t) ∨ (r = false ∧ (due xs sz g (cds t)).k = 0 ∧ (∃ tv, v = .str (Str.ofString "") tv) ∧ x' = t) ∨
    (r = false ∧ 0 < (due xs sz g (cds t)).k ∧ (∃ tv, v = .int ((due xs sz g (cds t)).k : Int) tv) ∧ cds x' = (due xs sz g (cds t)).x)
/-- replaced_text died: how many texts had been asked for -/
def RepDie (xs : Int → Str) (sz : Nat → Int) (g : Bool) (most : Int) (t : Str) (k : Nat) : Prop :=
  (∃ i, i < t.length ∧ (due xs sz g ((cds t).take i)).z ≤ most ∧ most < (due xs sz g ((cds t).take (i + 1))).z ∧ k = (due xs sz g ((cds t).take (i + 1))).k) ∨
    ((due xs sz g (cds t)).z ≤ most ∧ most < ((due xs sz g (cds t)).x.length : Int) ∧ k = (due xs sz g (cds t)).k)
def xsM (n : Int) : Str := Txt.mul (Str.ofString "x") n
theorem five_cases {P : Int → Prop} (h0 : P 0) (h1 : P 1) (h2 : P 2) (h3 : P 3) (h4 : P 4) (h5 : P 5) (n : Int) (a : 0 ≤ n) (b : n ≤ 5) : P n := by
  have : n = 0 ∨ n = 1 ∨ n = 2 ∨ n = 3 ∨ n = 4 ∨ n = 5 := by omega
  rcases this with rfl | rfl | rfl | rfl | rfl | rfl <;> assumption
theorem xsM_len : ∀ n, 0 ≤ n → n ≤ 5 → ((xsM n).length : Int) = n := five_cases (P := fun n => ((xsM n).length : Int) = n) (by decide +kernel) (by decide +kernel) (by decide +kernel) (by decide +kernel) (by decide +kernel) (by decide +kernel)
theorem mulOk_x : ∀ n, 0 ≤ n → n ≤ 5 → MulOk (Str.ofString "x") n := by
  intro n a b
  have e : (Str.ofString "x").length = 1 := by decide
  refine ⟨?_, ?_, ?_⟩
  · simp only [Bool.or_eq_false_iff, decide_eq_false_iff_not]; omega
  · intro h1 _; rw [e]
    have : n = 0 ∨ n = 1 ∨ n = 2 ∨ n = 3 ∨ n = 4 ∨ n = 5 := by omega
    rcases this with rfl | rfl | rfl | rfl | rfl | rfl <;> first | exact absurd (by decide) h1 | decide
  · intro h1 _; rw [e]
    have : n = 0 ∨ n = 1 ∨ n = 2 ∨ n = 3 ∨ n = 4 ∨ n = 5 := by omega
    rcases this with rfl | rfl | rfl | rfl | rfl | rfl <;> first | exact absurd (by decide) h1 | decide
def SizesAre (sz : Nat → Int) (sv : Array Value) : Prop := sv.size = 8 ∧ ∀ i, i < 8 → ∃ t, sv[i]? = some (.int (sz i) t)
def DueOut (sz : Nat → Int) (g : Bool) (most : Int) (t : Str) (k : Nat) (v : Value) : Prop :=
  (RepDie xsM sz g most t k ∧ v = .none) ∨ ((due xsM sz g (cds t)).z ≤ most ∧ ((due xsM sz g (cds t)).x.length : Int) ≤ most ∧ k = (due xsM sz g (cds t)).k ∧ ∃ x tv, v = .str x tv ∧ cds x = (due xsM sz g (cds t)).x)
theorem item_sz {prog : Program} {w : World} {A : Around} {E : Value → Shared → Prop} {s : Shared} {value slice : PySem.Expr} {l : Addr} {sv : Array Value} {sz : Nat → Int} {k : Nat} {u : Tok} {Q : Value → Shared → Prop}
    (hl : s.heap.IsList l sv) (hsz : SizesAre sz sv) (hk : k < 8) (h : ∀ t, Q (.int (sz k) t) s)
    (hs : subscripted slice false (.ref l) (.int (k : Int) u) = operate [.ref l, .int (k : Int) u] (getItem (.ref l) (.int (k : Int) u)) := by with_unfolding_all rfl) :
    wpAny (model prog w) A (subscriptTail value slice (.ref l) (.int (k : Int) u)) Q E s := by
  obtain ⟨t, ht⟩ := hsz.2 k hk
  exact tail_any hl.typeIs slot_list_getitem.lookup (wpAny_getItem_list hl (by omega) (by omega) (by simpa using ht) (h t)) hs
theorem codes_map (t : Str) : (KStt.codes t).map Int.toNat = cds t := by
  unfold KStt.codes cds
  rw [List.map_map]
  exact (List.map_congr_left (g := _root_.id) fun c _ => Int.toNat_natCast c).trans (List.map_id _)
theorem code_b {n : Nat} : (((⟨#[n]⟩ : Str) == Str.ofString "b") = true) → n = 98 := fun h => by
  have e := congrArg cds (beq_iff_eq.mp h)
  rw [cds_b] at e
  exact (List.cons.inj e).1
theorem code_nb {n : Nat} : (((⟨#[n]⟩ : Str) == Str.ofString "b") = false) → n ≠ 98 := fun h e => by
  subst e
  revert h
  decide
theorem dstep_b {xs : Int → Str} {sz : Nat → Int} {g : Bool} {d : DS} {c : Nat} (h : c = 98 ∨ (d.k = 1 ∧ g = false)) : dstep xs sz g d c = ⟨d.k, d.z, d.x ++ [c]⟩ := by unfold dstep; rw [if_pos h]
theorem dstep_a {xs : Int → Str} {sz : Nat → Int} {g : Bool} {d : DS} {c : Nat} (h : ¬ (c = 98 ∨ (d.k = 1 ∧ g = false))) : dstep xs sz g d c = ⟨d.k + 1, d.z + sz d.k, d.x ++ cds (xs (sz d.k))⟩ := by unfold dstep; rw [if_neg h]; rfl
theorem take_codes {t : Str} {pre post : List Int} {n : Nat} (h : KStt.codes t = pre ++ (n : Int) :: post) : (cds t).take pre.length = pre.map Int.toNat ∧ (cds t).take (pre.length + 1) = pre.map Int.toNat ++ [n] ∧ pre.length < t.length := by
  have e : cds t = pre.map Int.toNat ++ n :: post.map Int.toNat := by rw [← codes_map, h]; simp
  have l : pre.length = (pre.map Int.toNat).length := (List.length_map _).symm
  refine ⟨?_, ?_, ?_⟩
  · rw [e, l, List.take_left]
  · rw [e, show pre.map Int.toNat ++ n :: post.map Int.toNat = (pre.map Int.toNat ++ [n]) ++ post.map Int.toNat by simp, show pre.length + 1 = (pre.map Int.toNat ++ [n]).length by simp, List.take_left]
  · have e2 := congrArg List.length h
    rw [KStt.codes_length, List.length_append, List.length_cons] at e2
    omega
theorem z_mono {xs : Int → Str} {sz : Nat → Int} {g : Bool} {t : Str} (hsz : ∀ i, i < 8 → 0 ≤ sz i) (ht : t.length ≤ 8) {i j : Nat} (h : i ≤ j) : (due xs sz g ((cds t).take i)).z ≤ (due xs sz g ((cds t).take j)).z := by
  have e : (cds t).take j = (cds t).take i ++ ((cds t).drop i).take (j - i) := by
    have : j = i + (j - i) := by omega
    conv => lhs; rw [this, List.take_add]
  rw [e]
  refine due_z_mono hsz _ _ ?_
  rw [← e, List.length_take, cds_len]
  omega
theorem z_whole {xs : Int → Str} {sz : Nat → Int} {g : Bool} {t : Str} (hsz : ∀ i, i < 8 → 0 ≤ sz i) (ht : t.length ≤ 8) (i : Nat) : (due xs sz g ((cds t).take i)).z ≤ (due xs sz g (cds t)).z := by
  have e : (cds t).take (i + t.length) = cds t := List.take_of_length_le (by rw [cds_len]; omega)
  have := z_mono (xs := xs) (g := g) hsz ht (Nat.le_add_right i t.length)
  rw [e] at this
  exact this
/-- replaced_text and the law's own reckoning die at one and the same place -/
theorem die_unique {xs : Int → Str} {sz : Nat → Int} {g : Bool} {most : Int} {t : Str} {k k' : Nat} (hsz : ∀ i, i < 8 → 0 ≤ sz i) (ht : t.length ≤ 8) (a : RepDie xs sz g most t k) (b : RepDie xs sz g most t k') : k = k' := by
  rcases a with ⟨i, _, i1, i2, rfl⟩ | ⟨a1, a2, rfl⟩ <;> rcases b with ⟨j, _, j1, j2, rfl⟩ | ⟨b1, b2, rfl⟩
  · have : i = j := by
      rcases Nat.lt_trichotomy i j with h | h | h
      · have := z_mono (xs := xs) (sz := sz) (g := g) hsz ht (show i + 1 ≤ j by omega); omega
      · exact h
      · have := z_mono (xs := xs) (sz := sz) (g := g) hsz ht (show j + 1 ≤ i by omega); omega
    rw [this]
  · have := z_whole (xs := xs) (sz := sz) (g := g) hsz ht (i + 1); omega
  · have := z_whole (xs := xs) (sz := sz) (g := g) hsz ht (j + 1); omega
  · rfl
/-- what dies on one side does not come back on the other -/
theorem die_not {xs : Int → Str} {sz : Nat → Int} {g : Bool} {most : Int} {t : Str} {k : Nat} (hsz : ∀ i, i < 8 → 0 ≤ sz i) (ht : t.length ≤ 8) (a : RepDie xs sz g most t k) (h1 : (due xs sz g (cds t)).z ≤ most) (h2 : ((due xs sz g (cds t)).x.length : Int) ≤ most) : False := by
  rcases a with ⟨i, _, i1, i2, rfl⟩ | ⟨a1, a2, rfl⟩
  · have := z_whole (xs := xs) (sz := sz) (g := g) hsz ht (i + 1); omega
  · omega
theorem fold_k_ge {xs : Int → Str} {sz : Nat → Int} {g : Bool} : ∀ (r : List Nat) (d : DS), d.k ≤ (r.foldl (dstep xs sz g) d).k := by
  intro r
  induction r with
  | nil => exact fun d => Nat.le_refl _
  | cons c r ih =>
    intro d
    rw [List.foldl_cons]
    refine Nat.le_trans ?_ (ih _)
    unfold dstep
    split <;> simp
theorem fold_zero {xs : Int → Str} {sz : Nat → Int} {g : Bool} : ∀ (r : List Nat) (d : DS), (r.foldl (dstep xs sz g) d).k = d.k → (r.foldl (dstep xs sz g) d).x = d.x ++ r := by
  intro r
  induction r with
  | nil => intro d _; simp
  | cons c r ih =>
    intro d h
    rw [List.foldl_cons] at h ⊢
    by_cases hc : c = 98 ∨ (d.k = 1 ∧ g = false)
    · rw [dstep_b hc] at h ⊢
      rw [ih _ h]
      simp
    · rw [dstep_a hc] at h
      have := fold_k_ge (xs := xs) (sz := sz) (g := g) r ⟨d.k + 1, d.z + sz d.k, d.x ++ cds (xs (sz d.k))⟩
      rw [h] at this
      exact absurd this (by show ¬ d.k + 1 ≤ d.k; omega)
/-- nothing replaced: the text as it was -/
theorem due_zero {xs : Int → Str} {sz : Nat → Int} {g : Bool} {l : List Nat} (h : (due xs sz g l).k = 0) : (due xs sz g l).x = l := by
  have := fold_zero (xs := xs) (sz := sz) (g := g) l ⟨0, 0, []⟩ h
  simpa [due] using this
theorem item_last {prog : Program} {w : World} {A : Around} {E : Value → Shared → Prop} {s : Shared} {value slice : PySem.Expr} {l : Addr} {cl : Array Value} {x : Value} {u : Tok} {Q : Value → Shared → Prop}
    (hl : s.heap.IsList l (cl.push x)) (h : Q x s)
    (hs : subscripted slice false (.ref l) (.int (-1) u) = operate [.ref l, .int (-1) u] (getItem (.ref l) (.int (-1) u)) := by with_unfolding_all rfl) :
    wpAny (model prog w) A (subscriptTail value slice (.ref l) (.int (-1) u)) Q E s := by
  refine tail_any hl.typeIs slot_list_getitem.lookup (wpAny_getItem_list_neg hl (by omega) (by rw [Array.size_push]; omega) (by omega) ?_ h) hs
  have e : (-1 + ((cl.push x).size : Int)).toNat = cl.size := by rw [Array.size_push]; omega
  rw [e]
  simp
theorem ints_snoc {n : Int} {t : Tok} : ∀ {vs : List Value} {ns : List Int}, IntsAre vs ns → IntsAre (vs ++ [.int n t]) (ns ++ [n])
  | _, _, .nil => .cons n t .nil
  | _, _, .cons a u r => .cons a u (ints_snoc r)
theorem calls_push {sz : Nat → Int} {cl : Array Value} {t : Tok} (h : IntsAre cl.toList ((List.range cl.size).map sz)) : IntsAre (cl.push (.int (sz cl.size) t)).toList ((List.range (cl.size + 1)).map sz) := by
  have e : (cl.push (.int (sz cl.size) t)).toList = cl.toList ++ [.int (sz cl.size) t] := by simp
  rw [e, List.range_succ, List.map_append]
  exact ints_snoc h

/-- a comprehension whose element draws a card: the deck is one card further each turn -/
theorem comp_rest {prog : Program} {w : World} {A : Around} {h₀ : Heap} {L : Addr} {m : Str → Option Value} {env : Env} {elt : PySem.Expr} {x : Str} {scope : Scope} {cl : List (Str × Addr)} {s : Shared} {P : Nat → Value → Prop} {Fin : List Value → List (Addr × Obj) → Prop} {D n : Nat} {REST : List (Addr × Obj)} {ms : List Int} (V : Value → Prop)
    (turn : ∀ k vs nn I oI C oC D1 m₂ ys h tk (E' : Value → Shared → Prop), DeckAre vs ms k → 0 ≤ k → k ≤ 100 → LCg.NsObj oC m₂ → Fr h₀ L h m → News h₀ L h ((I, oI) :: (C, oC) :: (D1, LCg.lst ys) :: (D, PySem.W.listOf vs.toArray nn) :: REST) → LCg.Off3 I C D1 ((D, PySem.W.listOf vs.toArray nn) :: REST) → ((@Ne Nat I C) ∧ (@Ne Nat I D1) ∧ (@Ne Nat C D1)) →
      wpAny (model prog w) A (eval elt (compEnvC scope cl C env)) (LCg.CompEnd h₀ L m { s with heap := h, toks := tk } I oI C oC D1 (LCg.lst ys) (fun _ => True) (fun y news' => ∃ vs' nn', V y ∧ DeckAre vs' ms (k + 1) ∧ news' = (D, PySem.W.listOf vs'.toArray nn') :: REST)) E' { s with heap := h, toks := tk })
    {k0 : Int} (fin : ∀ ys vs nn k, (∀ y ∈ ys, V y) → ys.length = n → DeckAre vs ms k → 0 ≤ k → k = k0 + (n : Int) → Fin ys ((D, PySem.W.listOf vs.toArray nn) :: REST)) :
    ∀ (j i : Nat) (ys : List Value) (vs : List Value) (nn : Nat) (k : Int), (∀ y ∈ ys, V y) → ys.length + j = n → DeckAre vs ms k → 0 ≤ k → k + (j : Int) ≤ 100 → k = k0 + (ys.length : Int) →
      LCg.CompRest prog w A h₀ L m env elt x scope cl s (fun _ => True) P Fin j i ys ((D, PySem.W.listOf vs.toArray nn) :: REST) := by
  intro j
  induction j with
  | zero =>
    intro i ys vs nn k hV hl hD h0 h1 hk
    exact LCg.CompRest.zero (fin ys vs nn k hV (by omega) hD h0 (by omega))
  | succ j ih =>
    intro i ys vs nn k hV hl hD h0 h1 hk
    refine LCg.CompRest.succ ?_
    intro v I oI C oC D1 m₂ h tk E' _ hC _ F N off ne
    refine wpAny_mono (turn k vs nn I oI C oC D1 m₂ ys h tk E' hD h0 (by omega) hC F N off ne) (fun y s₂ hq => ?_) fun _ _ e => e
    obtain ⟨h', tk', nw, e, F', N', off', hS, vs', nn', hy, hD', rfl⟩ := hq
    refine ⟨h', tk', _, e, F', N', off', hS, ?_⟩
    refine ih (i + 1) _ vs' nn' (k + 1) ?_ (by rw [List.length_append, List.length_singleton]; omega) hD' (by omega) (by omega) (by rw [List.length_append, List.length_singleton]; omega)
    intro z hz
    rcases List.mem_append.mp hz with hz | hz
    · exact hV z hz
    · rw [List.mem_singleton.mp hz]; exact hy
theorem range_size {n : Nat} : Builtin.Range.rangeSize 0 (n : Int) 1 = ((n : Nat) : Int) := by
  unfold Builtin.Range.rangeSize
  rw [if_pos (by decide)]
  split
  · rw [Int.ediv_one]; omega
  · omega
theorem range_fits {n : Int} (h0 : 0 ≤ n) (h : n ≤ 100) : Builtin.Range.rangeFitsLong n = true := by
  unfold Builtin.Range.rangeFitsLong
  simp
  omega
theorem range_small {n : Nat} (h : n ≤ 100) : Builtin.Range.small 0 (n : Int) 1 = true := by
  unfold Builtin.Range.small
  rw [range_size]
  simp [range_fits (n := 0) (by omega) (by omega), range_fits (n := 1) (by omega) (by omega), range_fits (n := (n : Int)) (by omega) (by omega)]
theorem strs_of : ∀ {ys : List Value}, (∀ y ∈ ys, ∃ u tu, y = Value.str u tu ∧ (u = Str.ofString "a" ∨ u = Str.ofString "b")) → ∃ txs : List Str, StrsAre ys txs ∧ txs.length = ys.length ∧ ∀ u ∈ txs, u = Str.ofString "a" ∨ u = Str.ofString "b" := by
  intro ys
  induction ys with
  | nil => exact fun _ => ⟨[], .nil, rfl, fun _ h => nomatch h⟩
  | cons y ys ih =>
    intro h
    obtain ⟨txs, h1, h2, h3⟩ := ih fun z hz => h z (List.mem_cons_of_mem _ hz)
    obtain ⟨u, tu, rfl, hu⟩ := h y List.mem_cons_self
    exact ⟨u :: txs, .cons _ _ h1, by simp [h2], fun v hv => (List.mem_cons.mp hv).elim (fun e => e ▸ hu) (h3 v)⟩
theorem ab_flat : ∀ {txs : List Str}, (∀ u ∈ txs, u = Str.ofString "a" ∨ u = Str.ofString "b") → ((txs.map cds).flatten.length = txs.length) ∧ ∀ c ∈ (txs.map cds).flatten, c = 97 ∨ c = 98 := by
  intro txs
  induction txs with
  | nil => exact fun _ => ⟨rfl, fun _ h => nomatch h⟩
  | cons u txs ih =>
    intro h
    obtain ⟨h1, h2⟩ := ih fun z hz => h z (List.mem_cons_of_mem _ hz)
    have hu : cds u = [97] ∨ cds u = [98] := (h u List.mem_cons_self).elim (fun e => .inl (by rw [e]; exact cds_a)) (fun e => .inr (by rw [e]; exact cds_b))
    rw [List.map_cons, List.flatten_cons]
    refine ⟨?_, fun c hc => ?_⟩
    · rw [List.length_append, h1]; rcases hu with e | e <;> rw [e] <;> simp <;> omega
    · rcases List.mem_append.mp hc with hc | hc
      · rcases hu with e | e <;> rw [e] at hc <;> simp at hc <;> simp [hc]
      · exact h2 c hc
theorem ab_join {txs : List Str} (h : ∀ u ∈ txs, u = Str.ofString "a" ∨ u = Str.ofString "b") : AB (Txt.join (Str.ofString "") txs) ∧ (Txt.join (Str.ofString "") txs).length = txs.length := by
  obtain ⟨h1, h2⟩ := ab_flat h
  rw [← cds_join] at h1 h2
  refine ⟨fun i i0 i1 => ?_, by rw [← cds_len, h1]⟩
  obtain ⟨n, rfl⟩ : ∃ n : Nat, i = (n : Int) := ⟨i.toNat, by omega⟩
  have hn : n < (Txt.join (Str.ofString "") txs).length := by omega
  have hc := cds_item hn
  have hm : (cds (Txt.join (Str.ofString "") txs)).getD n 0 ∈ cds (Txt.join (Str.ofString "") txs) := by
    rw [List.getD_eq_getElem?_getD, List.getElem?_eq_getElem (by rw [cds_len]; exact hn)]
    exact List.getElem_mem _
  rcases h2 _ hm with e | e
  · exact .inl (str_of_cds (by rw [hc, e, cds_a]))
  · exact .inr (str_of_cds (by rw [hc, e, cds_b]))
def FlagOk (fl : Str) : Prop := fl = Str.ofString "" ∨ fl = Str.ofString "g" ∨ fl = Str.ofString "r" ∨ fl = Str.ofString "gr"
theorem item_fl {prog : Program} {w : World} {A : Around} {E : Value → Shared → Prop} {s : Shared} {value slice : PySem.Expr} {l : Addr} {a b c d : Tok} {k : Int} {u : Tok} {Q : Value → Shared → Prop}
    (hl : s.heap.IsList l [Value.str (Str.ofString "") a, .str (Str.ofString "g") b, .str (Str.ofString "r") c, .str (Str.ofString "gr") d].toArray) (h0 : 0 ≤ k) (h1 : k < 4) (h : ∀ fl t, FlagOk fl → Q (.str fl t) s)
    (hs : subscripted slice false (.ref l) (.int k u) = operate [.ref l, .int k u] (getItem (.ref l) (.int k u)) := by with_unfolding_all rfl) :
    wpAny (model prog w) A (subscriptTail value slice (.ref l) (.int k u)) Q E s := by
  have : k = 0 ∨ k = 1 ∨ k = 2 ∨ k = 3 := by omega
  rcases this with rfl | rfl | rfl | rfl
  · exact tail_any hl.typeIs slot_list_getitem.lookup (wpAny_getItem_list hl (by omega) (by omega) (by rfl) (h _ _ (.inl rfl))) hs
  · exact tail_any hl.typeIs slot_list_getitem.lookup (wpAny_getItem_list hl (by omega) (by omega) (by rfl) (h _ _ (.inr (.inl rfl)))) hs
  · exact tail_any hl.typeIs slot_list_getitem.lookup (wpAny_getItem_list hl (by omega) (by omega) (by rfl) (h _ _ (.inr (.inr (.inl rfl))))) hs
  · exact tail_any hl.typeIs slot_list_getitem.lookup (wpAny_getItem_list hl (by omega) (by omega) (by rfl) (h _ _ (.inr (.inr (.inr rfl))))) hs
theorem sizes_of {ys : List Value} (hl : ys.length = 8) (h : ∀ y ∈ ys, ∃ r tr, y = Value.int r tr ∧ 0 ≤ r ∧ r < 6) : ∃ sz : Nat → Int, SizesAre sz ys.toArray ∧ ∀ i, i < 8 → 0 ≤ sz i ∧ sz i ≤ 5 := by
  refine ⟨fun i => match ys[i]? with | some (.int r _) => r | _ => 0, ⟨by simpa using hl, fun i hi => ?_⟩, fun i hi => ?_⟩
  · have hb : i < ys.length := by omega
    obtain ⟨r, tr, e, _⟩ := h _ (List.getElem_mem hb)
    refine ⟨tr, ?_⟩
    simp [List.getElem?_eq_getElem hb, e]
  · have hb : i < ys.length := by omega
    obtain ⟨r, tr, e, h0, h1⟩ := h _ (List.getElem_mem hb)
    simp only [List.getElem?_eq_getElem hb, e]
    omega

section MCardS
theorem resetMCard : True := by
  w_top off
  trivial
local macro_rules | `(tactic| k_room) => `(tactic| ktr_room)
local macro_rules | `(tactic| walk_at "subscriptTail Name Constant ref int") => `(tactic| (k_here; (with_reducible show wpAny _ _ (subscriptTail _ _ (Value.ref _) (Value.int _ _)) _ _ _); (with_unfolding_all refine' item_litK ?k1 ?k2 ?k3 ?k4 ?_ ?k6; (case k1 => is_list); (case k2 => decide); (case k3 => decide); (case k4 => rfl); (case k6 => with_unfolding_all rfl); k_whole)))
local macro_rules | `(tactic| walk_at "binaryOp Mult ref int") => `(tactic| (k_here; (with_reducible show wpAny _ _ (binaryOp Operator.Mult (Value.ref _) (Value.int _ _)) _ _ _); k_dflt (refine' KMa.mul ?F ?N ?l ?lo ?hi ?z ?e ?_; (case F => k_asm); (case N => k_asm); (case l => is_list); (case lo => decide); (case hi => decide); (case z => exact Nat.le_of_ble_eq_true rfl); (case e => exact rfl); k_whole); intro D' h' F' N' l1; (try k_lt l1); (try k_sweep)))
local macro_rules | `(tactic| walk_at "exec While") => `(tactic| (k_here; (with_reducible show wpAny _ _ (exec (Stmt.While (Expr.Constant _ _ _) _ _ _) _) _ _ _); k_dflt (refine whl_start 100 ?_)))
local macro_rules | `(tactic| walk_at "subscriptTail") => `(tactic| (k_here; (with_reducible show wpAny _ _ (subscriptTail _ _ (Value.str _ _) (Value.int _ _)) _ _ _); (refine item_ab (by assumption) (by omega) (by omega) (by omega) ?_ ?_) <;> intro _))
section
variable {prog : Program} {w : World} {p : Program} {loose : List Str} {mean : ExcName → Option Value} {mg mb : Str → Option Value}
  {dp un : Nat} {gd : Option (List Code)} {cn : Str} {cs : Scope} {a : Addr} {ccd : Value} {cl : List (Str × Addr)} {outer : List Env} {A₀ : Around} {base h₀ : Heap} {L : Addr} {m : Str → Option Value} {s : Shared}
  {Q E : Value → Shared → Prop} {rest : List (Addr × Obj)}
  (B : Below A₀ base outer h₀) (F : Fr h₀ L s.heap m) (X : (hd.heap_39 w.params).In h₀) (T : Top p loose mean mg mb h₀) (hk : cs.kind = .function) (NR : News h₀ L s.heap rest)
include B F X T hk NR
theorem card_ok {D : Nat} {k many : Int} {t0 t1 : Tok} {xs : List Value} {ns : List Int} {n : Nat}
  (N : News h₀ L s.heap [(D, PySem.W.listOf (Value.int k t0 :: xs).toArray n)]) (hdis : ∀ b ∈ [D], ∀ q ∈ rest, q.1 ≠ b)
  (hi : IntsAre xs ns) (hlen : ns.length ≤ 24) (h0 : 0 ≤ k) (h1 : k ≤ 1000) (hm : 0 < many) (hm2 : many ≤ 12) (hd : dp + 5 < recursionLimit) (hu : un + 50 < cLine)
  (ret : ∀ r t t' h' tk n', 0 ≤ r → r < many → Fr h₀ L h' m → News h₀ L h' rest → News h₀ L h' [(D, PySem.W.listOf (Value.int (k+1) t' :: xs).toArray n')] → Q (.int r t) { s with heap := h', toks := tk }) :
  wpAny (model prog w) (ktrTop dp un gd cn cs L a ccd cl outer) (call (.ref 912) [.ref D, .int many t1]) Q E s := by
  refine wpAny_call ?_
  k_dflt (refine' code_rest NR ?kD ?k1 ?k2 ?k3 ?k4 ?k5 ?kA ?kF ?kK ?k6 ?k7 ?k8 ?k9 ?kB ?_ ?c2 ?c3 ?c4 ?c5)
  case kA => exact rfl
  case kF => exact rfl
  case kK => assumption
  case k1 => k_asm
  case k2 => k_asm
  case k3 => k_asm
  case k4 => exact N
  case kD => exact hdis
  case k5 => k_asm
  case k6 => k_dflt k_is
  case k7 => k_dflt k_is
  case k8 => ktr_room
  case k9 => k_dflt (first | exact BindsTo.of_eq rfl | exact binds_K (by k_in) rfl (by k_is) rfl rfl rfl)
  case c5 => decide
  case kB => exact locs rfl
  case c2 => exact rfl
  case c3 => exact rfl
  case c4 => exact rfl
  clear N
  intro g' L' h' FG' F' N' B' X' T'
  (try dsimp only)
  (try k_fold)
  k_steps
  all_goals exact ret _ _ _ _ _ _ (fmod_lo _ hm) (fmod_hi _ hm) (by assumption) (by assumption) (by assumption)
end

end MCardS
section MMatchS
theorem resetMMatch : True := by
  w_top off
  trivial
local macro_rules | `(tactic| walk_at "none") => `(tactic| fail "none")
local macro_rules | `(tactic| k_room) => `(tactic| ktr_room)
local macro_rules | `(tactic| walk_at "subscriptTail Name Constant ref int") => `(tactic| (k_here; (with_reducible show wpAny _ _ (subscriptTail _ _ (Value.ref _) (Value.int _ _)) _ _ _); (with_unfolding_all refine' item_litK ?k1 ?k2 ?k3 ?k4 ?_ ?k6; (case k1 => is_list); (case k2 => decide); (case k3 => decide); (case k4 => rfl); (case k6 => with_unfolding_all rfl); k_whole)))
local macro_rules | `(tactic| walk_at "binaryOp Mult ref int") => `(tactic| (k_here; (with_reducible show wpAny _ _ (binaryOp Operator.Mult (Value.ref _) (Value.int _ _)) _ _ _); k_dflt (refine' KMa.mul ?F ?N ?l ?lo ?hi ?z ?e ?_; (case F => k_asm); (case N => k_asm); (case l => is_list); (case lo => decide); (case hi => decide); (case z => exact Nat.le_of_ble_eq_true rfl); (case e => exact rfl); k_whole); intro D' h' F' N' l1; (try k_lt l1); (try k_sweep)))
local macro_rules | `(tactic| walk_at "exec While") => `(tactic| (k_here; (with_reducible show wpAny _ _ (exec (Stmt.While (Expr.Constant _ _ _) _ _ _) _) _ _ _); k_dflt (refine whl_start 100 ?_)))
local macro_rules | `(tactic| walk_at "subscriptTail") => `(tactic| (k_here; (with_reducible show wpAny _ _ (subscriptTail _ _ (Value.str _ _) (Value.int _ _)) _ _ _); (refine item_ab (by assumption) (by omega) (by omega) (by omega) ?_ ?_) <;> intro _))
section
variable {prog : Program} {w : World} {p : Program} {loose : List Str} {mean : ExcName → Option Value} {mg mb : Str → Option Value}
  {dp un : Nat} {gd : Option (List Code)} {cn : Str} {cs : Scope} {a : Addr} {ccd : Value} {cl : List (Str × Addr)} {outer : List Env} {A₀ : Around} {base h₀ : Heap} {L : Addr} {m : Str → Option Value} {s : Shared}
  {Q E : Value → Shared → Prop} {rest : List (Addr × Obj)}
  (B : Below A₀ base outer h₀) (F : Fr h₀ L s.heap m) (X : (hd.heap_39 w.params).In h₀) (T : Top p loose mean mg mb h₀) (hk : cs.kind = .function) (NR : News h₀ L s.heap rest)
include B F X T hk NR
theorem match_ok {R Rd W P Pd RL T1 T2 : Nat} {kt pt : Nat → Tok} {t : Str} {tt tl tm tst ts t1 t2 t3 t4 t5 : Tok} {vb va vr vg vreg vp vn : Value} {k st : Int} {oW : Obj} {nr : Nat}
  (N : News h₀ L s.heap [(R, instObj 626 Rd), (Rd, mrunD w kt (.ref P) (.str t tt) vb (.int 0 tl) (.int 1000000 tm) (.int k tst) va vr vg vreg vp), (W, oW), (P, instObj 901 Pd), (Pd, progD w pt (.ref RL) (.int 0 t1) (.int 0 t2) vn),
    (RL, PySem.W.listOf [.ref T1, .ref T2].toArray nr), (T1, tupOf [.str (Str.ofString "sign") t3, .str (Str.ofString "a") t4, .bool false]), (T2, tupOf [.str (Str.ofString "end") t5])])
  (hdis : ∀ b ∈ [R, Rd, W, P, Pd, RL, T1, T2], ∀ q ∈ rest, q.1 ≠ b) (hW : oW.IsDictOf (PySem.strKind prog w) wordsKvs)
  (l1 : Rd < R) (l2 : T1 < T2) (l3 : T2 < RL) (l4 : RL < Pd) (l5 : Pd < P) (l6 : P < Rd) (l7 : R < W)
  (h0 : 0 ≤ st) (h2 : t.length ≤ 8) (hx : AB t) (hk0 : 0 ≤ k) (hk1 : k ≤ 500)
  (hd : dp + 15 < recursionLimit) (hu : un + 100 < cLine)
  (retF : ∀ h' tk k' tst' va' vr' vg' vreg' vp', k ≤ k' → k' ≤ k + 2 → (st < (t.length : Int) → Txt.item t st = Str.ofString "b") → Fr h₀ L h' m → News h₀ L h' rest → News h₀ L h' [(R, instObj 626 Rd), (Rd, mrunD w kt (.ref P) (.str t tt) vb (.int 0 tl) (.int 1000000 tm) (.int k' tst') va' vr' vg' vreg' vp'), (W, oW), (P, instObj 901 Pd), (Pd, progD w pt (.ref RL) (.int 0 t1) (.int 0 t2) vn),
    (RL, PySem.W.listOf [.ref T1, .ref T2].toArray nr), (T1, tupOf [.str (Str.ofString "sign") t3, .str (Str.ofString "a") t4, .bool false]), (T2, tupOf [.str (Str.ofString "end") t5])] → Q (.bool false) { s with heap := h', toks := tk })
  (retT : ∀ h' tk k' tst' va' vr' vreg' vp' (G Tp : Nat) n u1 u2, k ≤ k' → k' ≤ k + 2 → st < (t.length : Int) → Txt.item t st = Str.ofString "a" → W < G → G < Tp → Fr h₀ L h' m → News h₀ L h' rest → News h₀ L h' [(Tp, tupOf [.int st u1, .int (st + 1) u2]), (G, PySem.W.listOf [.ref Tp].toArray n), (R, instObj 626 Rd), (Rd, mrunD w kt (.ref P) (.str t tt) vb (.int 0 tl) (.int 1000000 tm) (.int k' tst') va' vr' (.ref G) vreg' vp'), (W, oW), (P, instObj 901 Pd), (Pd, progD w pt (.ref RL) (.int 0 t1) (.int 0 t2) vn),
    (RL, PySem.W.listOf [.ref T1, .ref T2].toArray nr), (T1, tupOf [.str (Str.ofString "sign") t3, .str (Str.ofString "a") t4, .bool false]), (T2, tupOf [.str (Str.ofString "end") t5])] → Q (.bool true) { s with heap := h', toks := tk }) :
  wpAny (model prog w) (ktrTop dp un gd cn cs L a ccd cl outer) (call (.ref 810) [.ref R, .ref W, .int st ts]) Q E s := by
  refine wpAny_call ?_
  k_dflt (refine' code_rest NR ?kD ?k1 ?k2 ?k3 ?k4 ?k5 ?kA ?kF ?kK ?k6 ?k7 ?k8 ?k9 ?kB ?_ ?c2 ?c3 ?c4 ?c5)
  case kA => exact rfl
  case kF => exact rfl
  case kK => assumption
  case k1 => k_asm
  case k2 => k_asm
  case k3 => k_asm
  case k4 => exact N
  case kD => exact hdis
  case k5 => k_asm
  case k6 => k_dflt k_is
  case k7 => k_dflt k_is
  case k8 => ktr_room
  case k9 => exact BindsTo.of_eq rfl
  case c5 => decide
  case kB => exact locs rfl
  case c2 => exact rfl
  case c3 => exact rfl
  case c4 => exact rfl
  clear N
  intro g' L' h' FG' F' N' B' X' T'
  (try dsimp only)
  (try k_fold)
  k_steps
  all_goals (
    (rename News _ _ _ rest => NR9)
    (rename News _ _ _ (_ :: _) => kN9)
    (rename Fr h₀ L _ _ => kF9))
  · refine retF _ _ _ _ _ _ _ _ _ ?_ ?_ (fun h => by omega) kF9 NR9 (news_cons kN9 (List.Mem.tail _ (List.Mem.tail _ (List.Mem.tail _ (List.Mem.tail _ (List.Mem.tail _ (List.Mem.tail _ (List.Mem.head _))))))) (news_cons kN9 (List.Mem.tail _ (List.Mem.tail _ (List.Mem.tail _ (List.Mem.tail _ (List.Mem.tail _ (List.Mem.tail _ (List.Mem.tail _ (List.Mem.head _)))))))) (news_cons kN9 (List.Mem.tail _ (List.Mem.tail _ (List.Mem.tail _ (List.Mem.tail _ (List.Mem.tail _ (List.Mem.tail _ (List.Mem.tail _ (List.Mem.tail _ (List.Mem.head _))))))))) (news_cons kN9 (List.Mem.tail _ (List.Mem.tail _ (List.Mem.tail _ (List.Mem.tail _ (List.Mem.tail _ (List.Mem.tail _ (List.Mem.tail _ (List.Mem.tail _ (List.Mem.tail _ (List.Mem.head _)))))))))) (news_cons kN9 (List.Mem.tail _ (List.Mem.tail _ (List.Mem.tail _ (List.Mem.tail _ (List.Mem.tail _ (List.Mem.tail _ (List.Mem.tail _ (List.Mem.tail _ (List.Mem.tail _ (List.Mem.tail _ (List.Mem.head _))))))))))) (news_cons kN9 (List.Mem.tail _ (List.Mem.tail _ (List.Mem.tail _ (List.Mem.tail _ (List.Mem.tail _ (List.Mem.tail _ (List.Mem.tail _ (List.Mem.tail _ (List.Mem.tail _ (List.Mem.tail _ (List.Mem.tail _ (List.Mem.head _)))))))))))) (news_cons kN9 (List.Mem.tail _ (List.Mem.tail _ (List.Mem.tail _ (List.Mem.tail _ (List.Mem.tail _ (List.Mem.tail _ (List.Mem.tail _ (List.Mem.tail _ (List.Mem.tail _ (List.Mem.tail _ (List.Mem.tail _ (List.Mem.tail _ (List.Mem.head _))))))))))))) (news_cons kN9 (List.Mem.tail _ (List.Mem.tail _ (List.Mem.tail _ (List.Mem.tail _ (List.Mem.tail _ (List.Mem.tail _ (List.Mem.tail _ (List.Mem.tail _ (List.Mem.tail _ (List.Mem.tail _ (List.Mem.tail _ (List.Mem.tail _ (List.Mem.tail _ (List.Mem.head _)))))))))))))) News.nil))))))))
    all_goals ((have e0 : Int.fdiv (0 + 0) 20 = 0 := by decide); omega)
  · refine retT _ _ _ _ _ _ _ _ _ _ _ _ _ ?_ ?_ (by omega) (by assumption) ?_ ?_ kF9 NR9 (news_cons kN9 (List.Mem.head _) (news_cons kN9 (List.Mem.tail _ (List.Mem.tail _ (List.Mem.tail _ (List.Mem.head _)))) (news_cons kN9 (List.Mem.tail _ (List.Mem.tail _ (List.Mem.tail _ (List.Mem.tail _ (List.Mem.tail _ (List.Mem.tail _ (List.Mem.head _))))))) (news_cons kN9 (List.Mem.tail _ (List.Mem.tail _ (List.Mem.tail _ (List.Mem.tail _ (List.Mem.tail _ (List.Mem.tail _ (List.Mem.tail _ (List.Mem.head _)))))))) (news_cons kN9 (List.Mem.tail _ (List.Mem.tail _ (List.Mem.tail _ (List.Mem.tail _ (List.Mem.tail _ (List.Mem.tail _ (List.Mem.tail _ (List.Mem.tail _ (List.Mem.head _))))))))) (news_cons kN9 (List.Mem.tail _ (List.Mem.tail _ (List.Mem.tail _ (List.Mem.tail _ (List.Mem.tail _ (List.Mem.tail _ (List.Mem.tail _ (List.Mem.tail _ (List.Mem.tail _ (List.Mem.head _)))))))))) (news_cons kN9 (List.Mem.tail _ (List.Mem.tail _ (List.Mem.tail _ (List.Mem.tail _ (List.Mem.tail _ (List.Mem.tail _ (List.Mem.tail _ (List.Mem.tail _ (List.Mem.tail _ (List.Mem.tail _ (List.Mem.head _))))))))))) (news_cons kN9 (List.Mem.tail _ (List.Mem.tail _ (List.Mem.tail _ (List.Mem.tail _ (List.Mem.tail _ (List.Mem.tail _ (List.Mem.tail _ (List.Mem.tail _ (List.Mem.tail _ (List.Mem.tail _ (List.Mem.tail _ (List.Mem.head _)))))))))))) (news_cons kN9 (List.Mem.tail _ (List.Mem.tail _ (List.Mem.tail _ (List.Mem.tail _ (List.Mem.tail _ (List.Mem.tail _ (List.Mem.tail _ (List.Mem.tail _ (List.Mem.tail _ (List.Mem.tail _ (List.Mem.tail _ (List.Mem.tail _ (List.Mem.head _))))))))))))) (news_cons kN9 (List.Mem.tail _ (List.Mem.tail _ (List.Mem.tail _ (List.Mem.tail _ (List.Mem.tail _ (List.Mem.tail _ (List.Mem.tail _ (List.Mem.tail _ (List.Mem.tail _ (List.Mem.tail _ (List.Mem.tail _ (List.Mem.tail _ (List.Mem.tail _ (List.Mem.head _)))))))))))))) News.nil))))))))))
    all_goals ((have e0 : Int.fdiv (0 + 0) 20 = 0 := by decide); omega)
  · refine retF _ _ _ _ _ _ _ _ _ ?_ ?_ (fun h => by assumption) kF9 NR9 (news_cons kN9 (List.Mem.tail _ (List.Mem.tail _ (List.Mem.tail _ (List.Mem.tail _ (List.Mem.tail _ (List.Mem.tail _ (List.Mem.head _))))))) (news_cons kN9 (List.Mem.tail _ (List.Mem.tail _ (List.Mem.tail _ (List.Mem.tail _ (List.Mem.tail _ (List.Mem.tail _ (List.Mem.tail _ (List.Mem.head _)))))))) (news_cons kN9 (List.Mem.tail _ (List.Mem.tail _ (List.Mem.tail _ (List.Mem.tail _ (List.Mem.tail _ (List.Mem.tail _ (List.Mem.tail _ (List.Mem.tail _ (List.Mem.head _))))))))) (news_cons kN9 (List.Mem.tail _ (List.Mem.tail _ (List.Mem.tail _ (List.Mem.tail _ (List.Mem.tail _ (List.Mem.tail _ (List.Mem.tail _ (List.Mem.tail _ (List.Mem.tail _ (List.Mem.head _)))))))))) (news_cons kN9 (List.Mem.tail _ (List.Mem.tail _ (List.Mem.tail _ (List.Mem.tail _ (List.Mem.tail _ (List.Mem.tail _ (List.Mem.tail _ (List.Mem.tail _ (List.Mem.tail _ (List.Mem.tail _ (List.Mem.head _))))))))))) (news_cons kN9 (List.Mem.tail _ (List.Mem.tail _ (List.Mem.tail _ (List.Mem.tail _ (List.Mem.tail _ (List.Mem.tail _ (List.Mem.tail _ (List.Mem.tail _ (List.Mem.tail _ (List.Mem.tail _ (List.Mem.tail _ (List.Mem.head _)))))))))))) (news_cons kN9 (List.Mem.tail _ (List.Mem.tail _ (List.Mem.tail _ (List.Mem.tail _ (List.Mem.tail _ (List.Mem.tail _ (List.Mem.tail _ (List.Mem.tail _ (List.Mem.tail _ (List.Mem.tail _ (List.Mem.tail _ (List.Mem.tail _ (List.Mem.head _))))))))))))) (news_cons kN9 (List.Mem.tail _ (List.Mem.tail _ (List.Mem.tail _ (List.Mem.tail _ (List.Mem.tail _ (List.Mem.tail _ (List.Mem.tail _ (List.Mem.tail _ (List.Mem.tail _ (List.Mem.tail _ (List.Mem.tail _ (List.Mem.tail _ (List.Mem.tail _ (List.Mem.head _)))))))))))))) News.nil))))))))
    all_goals ((have e0 : Int.fdiv (0 + 0) 20 = 0 := by decide); omega)
end

end MMatchS
section MWordsS
theorem resetMWords : True := by
  w_top off
  trivial
local macro_rules | `(tactic| k_room) => `(tactic| ktr_room)
local macro_rules | `(tactic| walk_at "subscriptTail Name Constant ref int") => `(tactic| (k_here; (with_reducible show wpAny _ _ (subscriptTail _ _ (Value.ref _) (Value.int _ _)) _ _ _); (with_unfolding_all refine' item_litK ?k1 ?k2 ?k3 ?k4 ?_ ?k6; (case k1 => is_list); (case k2 => decide); (case k3 => decide); (case k4 => rfl); (case k6 => with_unfolding_all rfl); k_whole)))
local macro_rules | `(tactic| walk_at "binaryOp Mult ref int") => `(tactic| (k_here; (with_reducible show wpAny _ _ (binaryOp Operator.Mult (Value.ref _) (Value.int _ _)) _ _ _); k_dflt (refine' KMa.mul ?F ?N ?l ?lo ?hi ?z ?e ?_; (case F => k_asm); (case N => k_asm); (case l => is_list); (case lo => decide); (case hi => decide); (case z => exact Nat.le_of_ble_eq_true rfl); (case e => exact rfl); k_whole); intro D' h' F' N' l1; (try k_lt l1); (try k_sweep)))
local macro_rules | `(tactic| walk_at "exec While") => `(tactic| (k_here; (with_reducible show wpAny _ _ (exec (Stmt.While (Expr.Constant _ _ _) _ _ _) _) _ _ _); k_dflt (refine whl_start 100 ?_)))
local macro_rules | `(tactic| walk_at "subscriptTail") => `(tactic| (k_here; (with_reducible show wpAny _ _ (subscriptTail _ _ (Value.str _ _) (Value.int _ _)) _ _ _); (refine item_ab (by assumption) (by omega) (by omega) (by omega) ?_ ?_) <;> intro _))
section
variable {prog : Program} {w : World} {p : Program} {loose : List Str} {mean : ExcName → Option Value} {mg mb : Str → Option Value}
  {dp un : Nat} {gd : Option (List Code)} {cn : Str} {cs : Scope} {a : Addr} {ccd : Value} {cl : List (Str × Addr)} {outer : List Env} {A₀ : Around} {base h₀ : Heap} {L : Addr} {m : Str → Option Value} {s : Shared}
  {Q E : Value → Shared → Prop} {rest : List (Addr × Obj)}
  (B : Below A₀ base outer h₀) (F : Fr h₀ L s.heap m) (X : (hd.heap_39 w.params).In h₀) (T : Top p loose mean mg mb h₀) (hk : cs.kind = .function) (NR : News h₀ L s.heap rest)
include B F X T hk NR
theorem words_ok (hd : dp + 5 < recursionLimit) (hu : un + 50 < cLine) 
  (ret : ∀ (W : Nat) oW h' tk, oW.IsDictOf (PySem.strKind prog w) wordsKvs → (∀ q ∈ rest, q.1 < W) → Fr h₀ L h' m → News h₀ L h' rest → News h₀ L h' [(W, oW)] → Q (.ref W) { s with heap := h', toks := tk }) :
  wpAny (model prog w) (ktrTop dp un gd cn cs L a ccd cl outer) (call (.ref 789) []) Q E s := by
  have N : News h₀ L s.heap rest := NR
  refine wpAny_call ?_
  k_dflt (refine' code_def ?k1 ?k2 ?k3 ?k4 ?k5 ?kA ?kF ?kK ?k6 ?k7 ?k8 ?k9 ?kB ?_ ?c2 ?c3 ?c4 ?c5)
  case kA => exact rfl
  case kF => exact rfl
  case kK => assumption
  case k1 => k_asm
  case k2 => k_asm
  case k3 => k_asm
  case k4 => exact N
  case k5 => k_asm
  case k6 => k_dflt k_is
  case k7 => k_dflt k_is
  case k8 => ktr_room
  case k9 => k_dflt (first | exact BindsTo.of_eq rfl | exact binds_K (by k_in) rfl (by k_is) rfl rfl rfl)
  case c5 => decide
  case kB => exact locs rfl
  case c2 => exact rfl
  case c3 => exact rfl
  case c4 => exact rfl
  clear N
  intro g' L' h' FG' F' N' B' X' T'
  (try dsimp only)
  (try k_fold)
  iterate 3 walk1
  refine' dict19 (kvs := wordsKvs) ?q1 ?q2 ?q3 ?q4 ?q5 ?q6 ?q7 ?q8 ?q9 ?q10
  case q5 => exact F'
  case q6 => exact N'
  case q1 => exact rfl
  case q2 => exact rfl
  case q3 => exact rfl
  case q4 => exact rfl
  case q7 =>
    have hm := modules_low (Top.nolimit T')
    have h1 : L' < h'.objs.size := F'.ns.lt
    have h2 : g'.objs.size ≤ L' := F'.above
    have h3 := Nat.lt_trans hm (Nat.lt_of_le_of_lt h2 h1)
    exact ⟨beq_eq_false_iff_ne.mpr (Nat.ne_of_gt h3), beq_eq_false_iff_ne.mpr (Nat.ne_of_gt (Nat.lt_succ_of_lt h3))⟩
  case q8 =>
    unfold wordsKvs
    iterate 19 (refine pairs_step X' (topRead_of T') (by k_dflt k_is) rfl rfl (by decide) ?_)
    exact pairs_nil
  case q9 => decide +kernel
  case q10 =>
    intro d h' tk o F' N' l1 hW
    (try dsimp only)
    k_steps
    (rename News _ _ _ (_ :: _) => kN9)
    (rename Fr h₀ L _ _ => kF9)
    exact ret d _ _ _ hW l1 kF9 (fun q hq => kN9 q (List.mem_cons_of_mem _ hq)) (fun q hq => kN9 q (by rw [List.mem_singleton.mp hq]; exact List.mem_cons_self))
end

end MWordsS
section MNextS
theorem resetMNext : True := by
  w_top off
  trivial
local macro_rules | `(tactic| k_room) => `(tactic| ktr_room)
local macro_rules | `(tactic| walk_at "subscriptTail Name Constant ref int") => `(tactic| (k_here; (with_reducible show wpAny _ _ (subscriptTail _ _ (Value.ref _) (Value.int _ _)) _ _ _); (with_unfolding_all refine' item_litK ?k1 ?k2 ?k3 ?k4 ?_ ?k6; (case k1 => is_list); (case k2 => decide); (case k3 => decide); (case k4 => rfl); (case k6 => with_unfolding_all rfl); k_whole)))
local macro_rules | `(tactic| walk_at "binaryOp Mult ref int") => `(tactic| (k_here; (with_reducible show wpAny _ _ (binaryOp Operator.Mult (Value.ref _) (Value.int _ _)) _ _ _); k_dflt (refine' KMa.mul ?F ?N ?l ?lo ?hi ?z ?e ?_; (case F => k_asm); (case N => k_asm); (case l => is_list); (case lo => decide); (case hi => decide); (case z => exact Nat.le_of_ble_eq_true rfl); (case e => exact rfl); k_whole); intro D' h' F' N' l1; (try k_lt l1); (try k_sweep)))
local macro_rules | `(tactic| walk_at "exec While") => `(tactic| (k_here; (with_reducible show wpAny _ _ (exec (Stmt.While (Expr.Constant _ _ _) _ _ _) _) _ _ _); k_dflt (refine whl_start 100 ?_)))
local macro_rules | `(tactic| walk_at "subscriptTail") => `(tactic| (k_here; (with_reducible show wpAny _ _ (subscriptTail _ _ (Value.str _ _) (Value.int _ _)) _ _ _); (refine item_ab (by assumption) (by omega) (by omega) (by omega) ?_ ?_) <;> intro _))
local macro_rules | `(tactic| walk_at "call ref") => `(tactic| (k_here; (with_reducible show wpAny _ _ (call (Value.ref 789) _) _ _ _); k_dflt (refine' words_ok ?B ?F ?X ?T ?hk ?N ?hd ?hu ?ret; (case B => k_asm); (case F => k_asm); (case X => k_asm); (case T => k_asm); (case hk => exact rfl); (case N => k_asm); (case hd => ktr_room); (case hu => ktr_units)); intro W' oW' h' tk' hW' l1 F' NR' N'; (replace N' := news_join N' NR'); clear NR'; (try simp only [List.cons_append, List.nil_append] at N'); (try k_lt l1); (try k_sweep)))
local macro_rules | `(tactic| walk_at "exec While BoolOp") => `(tactic| (k_here; (refine whl_start 0 ?_); (refine stop_in ?_)))
local macro_rules | `(tactic| walk_at "call ref") => `(tactic| (k_here; (with_reducible show wpAny _ _ (call (Value.ref 810) _) _ _ _); (with_reducible rename News _ _ _ (_ :: _) => N9); k_dflt (refine' match_ok ?B ?F ?X ?T ?hk ?NR ?N ?hdis ?hW ?l1 ?l2 ?l3 ?l4 ?l5 ?l6 ?l7 ?h0 ?h2 ?hx ?hk0 ?hk1 ?hd ?hu ?retF ?retT; (case B => k_asm); (case F => k_asm); (case X => k_asm); (case T => k_asm); (case hk => exact rfl); (case N => exact (news_cons N9 (List.Mem.head _) (news_cons N9 (List.Mem.tail _ (List.Mem.head _)) (news_cons N9 (List.Mem.tail _ (List.Mem.tail _ (List.Mem.head _))) (news_cons N9 (List.Mem.tail _ (List.Mem.tail _ (List.Mem.tail _ (List.Mem.head _)))) (news_cons N9 (List.Mem.tail _ (List.Mem.tail _ (List.Mem.tail _ (List.Mem.tail _ (List.Mem.head _))))) (news_cons N9 (List.Mem.tail _ (List.Mem.tail _ (List.Mem.tail _ (List.Mem.tail _ (List.Mem.tail _ (List.Mem.head _)))))) (news_cons N9 (List.Mem.tail _ (List.Mem.tail _ (List.Mem.tail _ (List.Mem.tail _ (List.Mem.tail _ (List.Mem.tail _ (List.Mem.head _))))))) (news_cons N9 (List.Mem.tail _ (List.Mem.tail _ (List.Mem.tail _ (List.Mem.tail _ (List.Mem.tail _ (List.Mem.tail _ (List.Mem.tail _ (List.Mem.head _)))))))) News.nil))))))))); (case NR => exact (news_cons N9 (List.Mem.tail _ (List.Mem.tail _ (List.Mem.tail _ (List.Mem.tail _ (List.Mem.tail _ (List.Mem.tail _ (List.Mem.tail _ (List.Mem.tail _ (List.Mem.head _))))))))) (news_cons N9 (List.Mem.tail _ (List.Mem.tail _ (List.Mem.tail _ (List.Mem.tail _ (List.Mem.tail _ (List.Mem.tail _ (List.Mem.tail _ (List.Mem.tail _ (List.Mem.tail _ (List.Mem.head _)))))))))) (news_cons N9 (List.Mem.tail _ (List.Mem.tail _ (List.Mem.tail _ (List.Mem.tail _ (List.Mem.tail _ (List.Mem.tail _ (List.Mem.tail _ (List.Mem.tail _ (List.Mem.tail _ (List.Mem.tail _ (List.Mem.head _))))))))))) News.nil)))); (case hdis => (repeat' first | exact List.forall_mem_nil _ | refine List.forall_mem_cons.mpr ⟨?_, ?_⟩ | (refine neN ?_; (try dsimp only); omega))); (case hW => assumption); (case l1 => omega); (case l2 => omega); (case l3 => omega); (case l4 => omega); (case l5 => omega); (case l6 => omega); (case l7 => omega); (case h0 => omega); (case h2 => omega); (case hx => assumption); (case hk0 => omega); (case hk1 => omega); (case hd => ktr_room); (case hu => ktr_units)); clear N9; all_goals ((first | intro h' tk' k2' tst' va' vr' vreg' vp' G' Tp' n' u1' u2' hk1' hk2' hst' ha' hG' hT' F' NR' N' | intro h' tk' k2' tst' va' vr' vg' vreg' vp' hk1' hk2' hb' F' NR' N'); (replace N' := news_join N' NR'); clear NR'; (try simp only [List.cons_append, List.nil_append] at N'); (try k_sweep))))
local macro_rules | `(tactic| walk_at "eval IfExp") => `(tactic| (k_here; (with_reducible show wpAny _ _ (PySem.eval (PySem.Expr.IfExp (PySem.Expr.Compare (PySem.Expr.Name (Str.ofString "begin") _) _ _ _) _ _ _) _) _ _ _); (refine cut_all ?_ (fun HB => stop_in ?_))))
section
variable {prog : Program} {w : World} {p : Program} {loose : List Str} {mean : ExcName → Option Value} {mg mb : Str → Option Value}
  {dp un : Nat} {gd : Option (List Code)} {cn : Str} {cs : Scope} {a : Addr} {ccd : Value} {cl : List (Str × Addr)} {outer : List Env} {A₀ : Around} {base h₀ : Heap} {L : Addr} {m : Str → Option Value} {s : Shared}
  {Q E : Value → Shared → Prop} {rest : List (Addr × Obj)}
  (B : Below A₀ base outer h₀) (F : Fr h₀ L s.heap m) (X : (hd.heap_39 w.params).In h₀) (T : Top p loose mean mg mb h₀) (hk : cs.kind = .function) (NR : News h₀ L s.heap rest)
include B F X T hk NR
theorem next_ok {P Pd RL T1 T2 LM LMd SP : Nat} {pt lt : Nat → Tok} {t : Str} {tt tm tst ta t1 t2 t3 t4 t5 : Tok} {vn vb vw vd vt vi : Value} {k at0 : Int} {nr ns : Nat}
  (N : News h₀ L s.heap [(SP, PySem.W.listOf [.int k tst].toArray ns), (P, instObj 901 Pd), (Pd, progD w pt (.ref RL) (.int 0 t1) (.int 0 t2) vn),
    (RL, PySem.W.listOf [.ref T1, .ref T2].toArray nr), (T1, tupOf [.str (Str.ofString "sign") t3, .str (Str.ofString "a") t4, .bool false]), (T2, tupOf [.str (Str.ofString "end") t5]),
    (LM, instObj 880 LMd), (LMd, limD w lt vw vd (.int 1000000 tm) vt vi)])
  (hdis : ∀ b ∈ [SP, P, Pd, RL, T1, T2, LM, LMd], ∀ q ∈ rest, q.1 ≠ b)
  (l1 : LMd < LM) (l2 : LM < T1) (l3 : T1 < T2) (l4 : T2 < RL) (l5 : RL < Pd) (l6 : Pd < P) (l7 : P < SP)
  (h0 : 0 ≤ at0) (h1 : at0 ≤ (t.length : Int)) (h2 : t.length ≤ 8) (hx : AB t) (hk0 : 0 ≤ k) (hk1 : k ≤ 300) (hvb : vb = .none ∨ ∃ b tb, vb = .int b tb)
  (retN : ∀ h' tk k' tsk nsp, (∀ i : Int, at0 ≤ i → i < (t.length : Int) → Txt.item t i = Str.ofString "b") → k ≤ k' → k' ≤ k + 20 → Fr h₀ L h' m → News h₀ L h' rest → News h₀ L h' [(SP, PySem.W.listOf [.int k' tsk].toArray nsp), (P, instObj 901 Pd), (Pd, progD w pt (.ref RL) (.int 0 t1) (.int 0 t2) vn),
    (RL, PySem.W.listOf [.ref T1, .ref T2].toArray nr), (T1, tupOf [.str (Str.ofString "sign") t3, .str (Str.ofString "a") t4, .bool false]), (T2, tupOf [.str (Str.ofString "end") t5]),
    (LM, instObj 880 LMd), (LMd, limD w lt vw vd (.int 1000000 tm) vt vi)] → Q .none { s with heap := h', toks := tk })
  (retG : ∀ h' tk k' tsk nsp st (G Tp : Nat) n u1 u2, at0 ≤ st → st < (t.length : Int) → Txt.item t st = Str.ofString "a" → (∀ i : Int, at0 ≤ i → i < st → Txt.item t i = Str.ofString "b") → SP < G → G < Tp → k ≤ k' → k' ≤ k + 20 → Fr h₀ L h' m → News h₀ L h' rest →
    News h₀ L h' [(Tp, tupOf [.int st u1, .int (st + 1) u2]), (G, PySem.W.listOf [.ref Tp].toArray n), (SP, PySem.W.listOf [.int k' tsk].toArray nsp), (P, instObj 901 Pd), (Pd, progD w pt (.ref RL) (.int 0 t1) (.int 0 t2) vn),
    (RL, PySem.W.listOf [.ref T1, .ref T2].toArray nr), (T1, tupOf [.str (Str.ofString "sign") t3, .str (Str.ofString "a") t4, .bool false]), (T2, tupOf [.str (Str.ofString "end") t5]),
    (LM, instObj 880 LMd), (LMd, limD w lt vw vd (.int 1000000 tm) vt vi)] → Q (.ref G) { s with heap := h', toks := tk })
  (hd : dp + 20 < recursionLimit) (hu : un + 150 < cLine) :
  wpAny (model prog w) (ktrTop dp un gd cn cs L a ccd cl outer) (call (.ref 826) [.ref P, .str t tt, .int at0 ta, .bool false, .ref LM, vb, .ref SP]) Q E s := by
  refine wpAny_call ?_
  k_dflt (refine' code_rest NR ?kD ?k1 ?k2 ?k3 ?k4 ?k5 ?kA ?kF ?kK ?k6 ?k7 ?k8 ?k9 ?kB ?_ ?c2 ?c3 ?c4 ?c5)
  case kA => exact rfl
  case kF => exact rfl
  case kK => assumption
  case k1 => k_asm
  case k2 => k_asm
  case k3 => k_asm
  case k4 => exact N
  case kD => exact hdis
  case k5 => k_asm
  case k6 => k_dflt k_is
  case k7 => k_dflt k_is
  case k8 => ktr_room
  case k9 => k_dflt (first | exact BindsTo.of_eq rfl | exact binds_K (by k_in) rfl (by k_is) rfl rfl rfl)
  case c5 => decide
  case kB => exact locs rfl
  case c2 => exact rfl
  case c3 => exact rfl
  case c4 => exact rfl
  clear N
  intro g' L' h' FG' F' N' B' X' T'
  (try dsimp only)
  (try k_fold)
  k_steps
  · rename_i g7 L7 _ _ _ _ _ _ _ _ _ R7 Rd7 _ la7 lb7 _ _ _ _ _ _ _ _ _ _ _ _ _ _ _ _ _ _ _ _ _ _ _ _ _ _ _ _ _ _ _ _ _ _ _ _ W7 oW7 _ _ hW7 lc7 _ h7 F7 N7
    unfold Stop
    have e7 : ∃ (kt7 : Nat → Tok) (vb7 : Value) (tl7 tm7 ts7 : Tok) (va7 vr7 vg7 vreg7 vp7 : Value), News g7 L7 h7 [(R7, instObj 626 Rd7), (Rd7, mrunD w kt7 (.ref P) (.str t tt) vb7 (.int 0 tl7) (.int 1000000 tm7) (.int k ts7) va7 vr7 vg7 vreg7 vp7), (W7, oW7), (P, instObj 901 Pd), (Pd, progD w pt (.ref RL) (.int 0 t1) (.int 0 t2) vn),
    (RL, PySem.W.listOf [.ref T1, .ref T2].toArray nr), (T1, tupOf [.str (Str.ofString "sign") t3, .str (Str.ofString "a") t4, .bool false]), (T2, tupOf [.str (Str.ofString "end") t5]),
        (SP, PySem.W.listOf [.int k tst].toArray ns), (LM, instObj 880 LMd), (LMd, limD w lt vw vd (.int 1000000 tm) vt vi)] :=
      ⟨ktOf [_, _, _, _, _, _, _, _, _, _, _], _, _, _, _, _, _, _, _, _, (news_cons N7 (List.Mem.tail _ (List.Mem.tail _ (List.Mem.tail _ (List.Mem.tail _ (List.Mem.head _))))) (news_cons N7 (List.Mem.tail _ (List.Mem.tail _ (List.Mem.tail _ (List.Mem.tail _ (List.Mem.tail _ (List.Mem.head _)))))) (news_cons N7 (List.Mem.head _) (news_cons N7 (List.Mem.tail _ (List.Mem.tail _ (List.Mem.tail _ (List.Mem.tail _ (List.Mem.tail _ (List.Mem.tail _ (List.Mem.tail _ (List.Mem.head _)))))))) (news_cons N7 (List.Mem.tail _ (List.Mem.tail _ (List.Mem.tail _ (List.Mem.tail _ (List.Mem.tail _ (List.Mem.tail _ (List.Mem.tail _ (List.Mem.tail _ (List.Mem.head _))))))))) (news_cons N7 (List.Mem.tail _ (List.Mem.tail _ (List.Mem.tail _ (List.Mem.tail _ (List.Mem.tail _ (List.Mem.tail _ (List.Mem.tail _ (List.Mem.tail _ (List.Mem.tail _ (List.Mem.head _)))))))))) (news_cons N7 (List.Mem.tail _ (List.Mem.tail _ (List.Mem.tail _ (List.Mem.tail _ (List.Mem.tail _ (List.Mem.tail _ (List.Mem.tail _ (List.Mem.tail _ (List.Mem.tail _ (List.Mem.tail _ (List.Mem.head _))))))))))) (news_cons N7 (List.Mem.tail _ (List.Mem.tail _ (List.Mem.tail _ (List.Mem.tail _ (List.Mem.tail _ (List.Mem.tail _ (List.Mem.tail _ (List.Mem.tail _ (List.Mem.tail _ (List.Mem.tail _ (List.Mem.tail _ (List.Mem.head _)))))))))))) (news_cons N7 (List.Mem.tail _ (List.Mem.tail _ (List.Mem.tail _ (List.Mem.tail _ (List.Mem.tail _ (List.Mem.tail _ (List.Mem.head _))))))) (news_cons N7 (List.Mem.tail _ (List.Mem.tail _ (List.Mem.tail _ (List.Mem.tail _ (List.Mem.tail _ (List.Mem.tail _ (List.Mem.tail _ (List.Mem.tail _ (List.Mem.tail _ (List.Mem.tail _ (List.Mem.tail _ (List.Mem.tail _ (List.Mem.head _))))))))))))) (news_cons N7 (List.Mem.tail _ (List.Mem.tail _ (List.Mem.tail _ (List.Mem.tail _ (List.Mem.tail _ (List.Mem.tail _ (List.Mem.tail _ (List.Mem.tail _ (List.Mem.tail _ (List.Mem.tail _ (List.Mem.tail _ (List.Mem.tail _ (List.Mem.tail _ (List.Mem.head _)))))))))))))) News.nil)))))))))))⟩
    clear N7
    have hs1 : @LT.lt Nat _ SP Rd7 := by omega
    have hs2 : @LT.lt Nat _ Rd7 R7 := by omega
    have hs3 : @LT.lt Nat _ R7 W7 := by omega
    clear la7 lb7 lc7
    repeat (rename (_ ∧ _) => hx9; clear hx9)
    obtain ⟨kt7, vb7, tl7, tm7, ts7, va7, vr7, vg7, vreg7, vp7, N7⟩ := e7
    refine' whl_st (σ := SrchSt) (s := s) (fun m8 c y => if y = Str.ofString "start" then some (Value.int c.st c.tst) else m8 y)
      (fun c => [(R7, instObj 626 Rd7), (Rd7, mrunD w kt7 (.ref P) (.str t tt) vb7 (.int 0 tl7) (.int 1000000 tm7) (.int c.k c.tk) c.va c.vr c.vg c.vreg c.vp), (W7, oW7), (P, instObj 901 Pd), (Pd, progD w pt (.ref RL) (.int 0 t1) (.int 0 t2) vn),
    (RL, PySem.W.listOf [.ref T1, .ref T2].toArray nr), (T1, tupOf [.str (Str.ofString "sign") t3, .str (Str.ofString "a") t4, .bool false]), (T2, tupOf [.str (Str.ofString "end") t5]),
        (SP, PySem.W.listOf [.int k tst].toArray ns), (LM, instObj 880 LMd), (LMd, limD w lt vw vd (.int 1000000 tm) vt vi)])
      (fun c => at0 ≤ c.st ∧ c.st ≤ (t.length : Int) + 1 ∧ (∀ i : Int, at0 ≤ i → i < c.st → i < (t.length : Int) → Txt.item t i = Str.ofString "b") ∧ k ≤ c.k ∧ c.k ≤ k + 2 * (c.st - at0))
      (fun c => ((t.length : Int) + 1 - c.st).toNat) (c₀ := ⟨at0, _, k, ts7, va7, vr7, vg7, vreg7, vp7⟩) ?F ?N ?P ?E ?turn
    case F => exact F7
    case N => exact N7
    case P => exact ⟨Int.le_refl _, by show at0 ≤ _; omega, fun i h1 h2 _ => by (have h2' : i < at0 := h2); omega, Int.le_refl _, by show k ≤ k + 2 * (at0 - at0); omega⟩
    case E => first | passes_own | with_unfolding_all passes_own
    case turn =>
      clear F7 N7
      rintro ⟨st, tst8, k8, tk8, va8, vr8, vg8, vreg8, vp8⟩ h8 tk88 F8 N8 ⟨p1, p2, p3, p4, p5⟩
      dsimp only at F8 N8 p1 p2 p3 p4 p5 ⊢
      (try k_fold)
      k_steps
      · rename_i hle h9 tk9 k9 tst9 va9 vr9 vg9 vreg9 vp9 hk19 hk29 hb9 h10 F9 N9
        dsimp only
        refine ⟨⟨st + 1, _, k9, tst9, va9, vr9, vg9, vreg9, vp9⟩, _, _, rfl, fr_over F9, N9, ⟨?_, ?_, fun i h1 h2 h3 => ?_, ?_, ?_⟩, ?_⟩
        · show at0 ≤ st + 1; omega
        · show st + 1 ≤ (t.length : Int) + 1; omega
        · have h2' : i < st + 1 := h2
          rcases Int.lt_or_le i st with q | q
          · exact p3 i h1 q h3
          · have e : i = st := by omega
            rw [e] at h3 ⊢
            exact hb9 h3
        · show k ≤ k9; omega
        · show k9 ≤ k + 2 * (st + 1 - at0); omega
        · show ((t.length : Int) + 1 - (st + 1)).toNat < ((t.length : Int) + 1 - st).toNat; omega
      · (rename News h₀ L _ rest => NR9)
        (rename News h₀ L _ (_ :: _) => N9)
        (rename Fr h₀ L _ _ => F9)
        refine retG _ _ _ _ _ _ _ _ _ _ _ p1 (by assumption) (by assumption) (fun i h1 h2 => p3 i h1 h2 (by omega)) ?_ ?_ ?_ ?_ F9 NR9 (news_cons N9 (List.Mem.head _) (news_cons N9 (List.Mem.tail _ (List.Mem.head _)) (news_cons N9 (List.Mem.tail _ (List.Mem.tail _ (List.Mem.tail _ (List.Mem.tail _ (List.Mem.tail _ (List.Mem.tail _ (List.Mem.tail _ (List.Mem.tail _ (List.Mem.tail _ (List.Mem.tail _ (List.Mem.head _))))))))))) (news_cons N9 (List.Mem.tail _ (List.Mem.tail _ (List.Mem.tail _ (List.Mem.tail _ (List.Mem.tail _ (List.Mem.head _)))))) (news_cons N9 (List.Mem.tail _ (List.Mem.tail _ (List.Mem.tail _ (List.Mem.tail _ (List.Mem.tail _ (List.Mem.tail _ (List.Mem.head _))))))) (news_cons N9 (List.Mem.tail _ (List.Mem.tail _ (List.Mem.tail _ (List.Mem.tail _ (List.Mem.tail _ (List.Mem.tail _ (List.Mem.tail _ (List.Mem.head _)))))))) (news_cons N9 (List.Mem.tail _ (List.Mem.tail _ (List.Mem.tail _ (List.Mem.tail _ (List.Mem.tail _ (List.Mem.tail _ (List.Mem.tail _ (List.Mem.tail _ (List.Mem.head _))))))))) (news_cons N9 (List.Mem.tail _ (List.Mem.tail _ (List.Mem.tail _ (List.Mem.tail _ (List.Mem.tail _ (List.Mem.tail _ (List.Mem.tail _ (List.Mem.tail _ (List.Mem.tail _ (List.Mem.head _)))))))))) (news_cons N9 (List.Mem.tail _ (List.Mem.tail _ (List.Mem.tail _ (List.Mem.tail _ (List.Mem.tail _ (List.Mem.tail _ (List.Mem.tail _ (List.Mem.tail _ (List.Mem.tail _ (List.Mem.tail _ (List.Mem.tail _ (List.Mem.head _)))))))))))) (news_cons N9 (List.Mem.tail _ (List.Mem.tail _ (List.Mem.tail _ (List.Mem.tail _ (List.Mem.tail _ (List.Mem.tail _ (List.Mem.tail _ (List.Mem.tail _ (List.Mem.tail _ (List.Mem.tail _ (List.Mem.tail _ (List.Mem.tail _ (List.Mem.head _))))))))))))) News.nil))))))))))
        all_goals omega
      · (rename News h₀ L _ rest => NR9)
        (rename News h₀ L _ (_ :: _) => N9)
        (rename Fr h₀ L _ _ => F9)
        refine retN _ _ _ _ _ (fun i h1 h2 => p3 i h1 (by omega) h2) ?_ ?_ F9 NR9 (news_cons N9 (List.Mem.tail _ (List.Mem.tail _ (List.Mem.tail _ (List.Mem.tail _ (List.Mem.tail _ (List.Mem.tail _ (List.Mem.tail _ (List.Mem.tail _ (List.Mem.head _))))))))) (news_cons N9 (List.Mem.tail _ (List.Mem.tail _ (List.Mem.tail _ (List.Mem.head _)))) (news_cons N9 (List.Mem.tail _ (List.Mem.tail _ (List.Mem.tail _ (List.Mem.tail _ (List.Mem.head _))))) (news_cons N9 (List.Mem.tail _ (List.Mem.tail _ (List.Mem.tail _ (List.Mem.tail _ (List.Mem.tail _ (List.Mem.head _)))))) (news_cons N9 (List.Mem.tail _ (List.Mem.tail _ (List.Mem.tail _ (List.Mem.tail _ (List.Mem.tail _ (List.Mem.tail _ (List.Mem.head _))))))) (news_cons N9 (List.Mem.tail _ (List.Mem.tail _ (List.Mem.tail _ (List.Mem.tail _ (List.Mem.tail _ (List.Mem.tail _ (List.Mem.tail _ (List.Mem.head _)))))))) (news_cons N9 (List.Mem.tail _ (List.Mem.tail _ (List.Mem.tail _ (List.Mem.tail _ (List.Mem.tail _ (List.Mem.tail _ (List.Mem.tail _ (List.Mem.tail _ (List.Mem.tail _ (List.Mem.head _)))))))))) (news_cons N9 (List.Mem.tail _ (List.Mem.tail _ (List.Mem.tail _ (List.Mem.tail _ (List.Mem.tail _ (List.Mem.tail _ (List.Mem.tail _ (List.Mem.tail _ (List.Mem.tail _ (List.Mem.tail _ (List.Mem.head _))))))))))) News.nil))))))))
        all_goals omega
  · unfold Stop
    rename_i HB
    rcases hvb with rfl | ⟨bv, tb, rfl⟩
    all_goals (
      clear NR
      with_reducible refine IfExp_ ?_
      repeat (first | exact HB _ | walk1 | (dsimp only; walk1)))
end

end MNextS
section MSpecS
theorem resetMSpec : True := by
  w_top off
  trivial
local macro_rules | `(tactic| k_room) => `(tactic| ktr_room)
local macro_rules | `(tactic| walk_at "subscriptTail Name Constant ref int") => `(tactic| (k_here; (with_reducible show wpAny _ _ (subscriptTail _ _ (Value.ref _) (Value.int _ _)) _ _ _); (with_unfolding_all refine' item_litK ?k1 ?k2 ?k3 ?k4 ?_ ?k6; (case k1 => is_list); (case k2 => decide); (case k3 => decide); (case k4 => rfl); (case k6 => with_unfolding_all rfl); k_whole)))
local macro_rules | `(tactic| walk_at "binaryOp Mult ref int") => `(tactic| (k_here; (with_reducible show wpAny _ _ (binaryOp Operator.Mult (Value.ref _) (Value.int _ _)) _ _ _); k_dflt (refine' KMa.mul ?F ?N ?l ?lo ?hi ?z ?e ?_; (case F => k_asm); (case N => k_asm); (case l => is_list); (case lo => decide); (case hi => decide); (case z => exact Nat.le_of_ble_eq_true rfl); (case e => exact rfl); k_whole); intro D' h' F' N' l1; (try k_lt l1); (try k_sweep)))
local macro_rules | `(tactic| walk_at "exec While") => `(tactic| (k_here; (with_reducible show wpAny _ _ (exec (Stmt.While (Expr.Constant _ _ _) _ _ _) _) _ _ _); k_dflt (refine whl_start 100 ?_)))
local macro_rules | `(tactic| walk_at "subscriptTail") => `(tactic| (k_here; (with_reducible show wpAny _ _ (subscriptTail _ _ (Value.str _ _) (Value.int _ _)) _ _ _); (refine item_ab (by assumption) (by omega) (by omega) (by omega) ?_ ?_) <;> intro _))
/-- the contract of the law's own `replace`: LedR r is all that it reads and changes -/
def ReplSpec (prog : Program) (w : World) (p : Program) (loose : List Str) (mean : ExcName → Option Value) (mg mb : Str → Option Value) (xs : Int → Str) (sz : Nat → Int) (RF : Nat) {ρ : Type} (LedR : ρ → List (Addr × Obj)) (PR : Nat → ρ → Prop) : Prop :=
  ∀ {dp un : Nat} {gd : Option (List Code)} {cn : Str} {cs : Scope} {a : Addr} {ccd : Value} {cl : List (Str × Addr)} {outer : List Env} {A₀ : Around} {base h₀ : Heap} {L : Addr} {m : Str → Option Value} {s : Shared}
    {Q E : Value → Shared → Prop} {rest : List (Addr × Obj)} {k : Nat} {r : ρ},
    Below A₀ base outer h₀ → Fr h₀ L s.heap m → (hd.heap_39 w.params).In h₀ → Top p loose mean mg mb h₀ → cs.kind = .function → News h₀ L s.heap rest →
    News h₀ L s.heap (LedR r) → (∀ b ∈ LedR r, ∀ q ∈ rest, q.1 ≠ b.1) → PR k r → k < 8 → dp + 10 < recursionLimit → un + 50 < cLine →
    (∀ h' tk r' tx, PR (k + 1) r' → Fr h₀ L h' m → News h₀ L h' rest → News h₀ L h' (LedR r') → Q (.str (xs (sz k)) tx) { s with heap := h', toks := tk }) →
    wpAny (model prog w) (ktrTop dp un gd cn cs L a ccd cl outer) (call (.ref RF) []) Q E s
/-- the dict of a Die('Out of memory!') -/
@[reducible] def dieD (w : World) (dt : Nat → Tok) : Obj := dictOf [ent w "text" (dt 0) (.str (Str.ofString "died") (dt 2)), ent w "value" (dt 1) (.str (Str.ofString "Out of memory!") (dt 3))] 2
/-- the contract of a callable that replaced_text hands to substitute: Fix is read alone, Led c changes with c -/
def PutSpec (prog : Program) (w : World) (p : Program) (loose : List Str) (mean : ExcName → Option Value) (mg mb : Str → Option Value) (xs : Int → Str) (sz : Nat → Int) (most : Int) (PF : Nat) (Fix : List (Addr × Obj)) {σ : Type} (Led : σ → List (Addr × Obj)) (Ok : Nat → Int → σ → Prop) : Prop :=
  ∀ {dp un : Nat} {gd : Option (List Code)} {cn : Str} {cs : Scope} {a : Addr} {ccd : Value} {cl : List (Str × Addr)} {outer : List Env} {A₀ : Around} {base h₀ : Heap} {L : Addr} {m : Str → Option Value} {s : Shared}
    {Q E : Value → Shared → Prop} {rest : List (Addr × Obj)} {k : Nat} {z : Int} {c : σ} {G : Nat},
    Below A₀ base outer h₀ → Fr h₀ L s.heap m → (hd.heap_39 w.params).In h₀ → Top p loose mean mg mb h₀ → cs.kind = .function → News h₀ L s.heap rest →
    News h₀ L s.heap (Fix ++ Led c) → (∀ b ∈ Fix ++ Led c, ∀ q ∈ rest, q.1 ≠ b.1) → Ok k z c → k < 8 → 0 ≤ z → z ≤ most → dp + 30 < recursionLimit → un + 150 < cLine →
    (∀ h' tk c' tx, z + sz k ≤ most → Ok (k + 1) (z + sz k) c' → Fr h₀ L h' m → News h₀ L h' rest → News h₀ L h' (Fix ++ Led c') → Q (.str (xs (sz k)) tx) { s with heap := h', toks := tk }) →
    (∀ h' tk c' e t vs D g' dt, most < z + sz k → Ok (k + 1) (z + sz k) c' → Fr h₀ L g' m → g'.UpToSlots h' → DictIs e D h' →
      RaisedK base (envX cn cs L a ccd cl :: outer) e (.ref 532) t vs ((D, dieD w dt) :: Led c') h' → E (.ref e) { s with heap := h', toks := tk }) →
    wpAny (model prog w) (ktrTop dp un gd cn cs L a ccd cl outer) (call (.ref PF) [.ref G]) Q E s
/-- run.saves and run.patterns before and behind the first put -/
def SavedAs (prog : Program) (w : World) (k : Nat) (vm : Value) (sv : List Value) (oPT : Obj) : Prop := (k = 0 ∧ sv = [] ∧ vm = .none ∧ PatObj prog w 389 oPT none) ∨ (0 < k ∧ (∃ x, sv = [x]) ∧ ∃ v, PatObj prog w 389 oPT (some v))
/-- what changes while put is called -/
structure PutSt (ρ : Type) where
  z : Int
  tz : Tok
  ni : Nat
  rt : Nat → Tok
  vm : Value
  sv : List Value
  nsv : Nat
  oPT : Obj
  r : ρ
theorem in_strG {prog : Program} {w : World} {A : Around} {E : Value → Shared → Prop} {s : Shared} {x y : Str} {t u : Tok} {b : Bool} {Q : Value → Shared → Prop} (e : (!(Builtin.Str.occurrences x y 0 x.length 1).isEmpty) = b) (h : Q (.bool b) s) : wpAny (model prog w) A (compareOp .In (.str y u) (.str x t)) Q E s := PyProof.Rows.in_str (by rw [e]; exact h)
theorem news_eqHead {h₀ h : Heap} {L a : Addr} {o : Obj} {r : List (Addr × Obj)} (N : News h₀ L h ((a, o) :: r)) : ∃ o', o = o' ∧ News h₀ L h ((a, o') :: r) := ⟨o, rfl, N⟩

end MSpecS
section MDieS
theorem resetMDie : True := by
  w_top off
  trivial
local macro_rules | `(tactic| walk_at "none") => `(tactic| fail "none")
local macro_rules | `(tactic| k_room) => `(tactic| ktr_room)
local macro_rules | `(tactic| walk_at "subscriptTail Name Constant ref int") => `(tactic| (k_here; (with_reducible show wpAny _ _ (subscriptTail _ _ (Value.ref _) (Value.int _ _)) _ _ _); (with_unfolding_all refine' item_litK ?k1 ?k2 ?k3 ?k4 ?_ ?k6; (case k1 => is_list); (case k2 => decide); (case k3 => decide); (case k4 => rfl); (case k6 => with_unfolding_all rfl); k_whole)))
local macro_rules | `(tactic| walk_at "binaryOp Mult ref int") => `(tactic| (k_here; (with_reducible show wpAny _ _ (binaryOp Operator.Mult (Value.ref _) (Value.int _ _)) _ _ _); k_dflt (refine' KMa.mul ?F ?N ?l ?lo ?hi ?z ?e ?_; (case F => k_asm); (case N => k_asm); (case l => is_list); (case lo => decide); (case hi => decide); (case z => exact Nat.le_of_ble_eq_true rfl); (case e => exact rfl); k_whole); intro D' h' F' N' l1; (try k_lt l1); (try k_sweep)))
local macro_rules | `(tactic| walk_at "exec While") => `(tactic| (k_here; (with_reducible show wpAny _ _ (exec (Stmt.While (Expr.Constant _ _ _) _ _ _) _) _ _ _); k_dflt (refine whl_start 100 ?_)))
local macro_rules | `(tactic| walk_at "subscriptTail") => `(tactic| (k_here; (with_reducible show wpAny _ _ (subscriptTail _ _ (Value.str _ _) (Value.int _ _)) _ _ _); (refine item_ab (by assumption) (by omega) (by omega) (by omega) ?_ ?_) <;> intro _))
theorem meta_Exception : typeOf (.type "Exception") = pure (.type "type") := by kernel_rfl
local macro_rules | `(tactic| walk_at "getMethod type:Exception") => `(tactic| (k_here; refine' method_type ?F ?X ?m (by decide +kernel) ?e ?h ?_; (case F => k_asm); (case X => k_asm); (case m => exact meta_Exception); (case e => k_dflt k_is); (case h => k_handed)))
local macro_rules | `(tactic| walk_at "call builtin:Exception.__init__") => `(tactic| (k_here; k_dflt (refine' exc_initK (C := 532) (C2 := 512) ?F ?X ?N ?a ?b ?c ?d ?e ?f ?g ?i ?_; (case F => k_asm); (case X => k_asm); (case N => k_asm); (case a => exact rfl); (case b => exact rfl); (case c => exact rfl); (case d => k_is); (case e => exact rfl); (case f => exact rfl); (case g => exact rfl); (case i => assumption)); intro h' F' N' l1; (try k_lt l1); (try k_sweep)))
local macro_rules | `(tactic| walk_at "setAttr ref") => `(tactic| (k_here; k_dflt (refine' set_newE (C := 532) (C2 := 512) ?F ?X ?N ?s ?a ?b ?c ?d ?e ?f ?g ?i ?j ?_; (case F => k_asm); (case X => k_asm); (case N => k_asm); (case a => exact rfl); (case b => exact rfl); (case c => exact rfl); (case s => k_is); (case d => k_is); (case e => exact rfl); (case f => exact rfl); (case g => k_is); (case i => k_ne); (case j => assumption)); intro h' F' N' l1 f1; (try k_lt l1); (try k_sweep)))
local macro_rules | `(tactic| walk_at "setAttr ref") => `(tactic| (k_here; k_dflt (refine' set_dictE (C := 532) (C2 := 512) ?F ?X ?N ?s ?a ?b ?c ?d ?e ?f ?g ?i ?j ?k ?l ?m ?_; (case F => k_asm); (case X => k_asm); (case N => k_asm); (case a => exact rfl); (case b => exact rfl); (case c => exact rfl); (case s => k_is); (case d => k_is); (case e => exact rfl); (case f => exact rfl); (case g => k_is); (case i => exact rfl); (case j => assumption); (case k => exact rfl); (case l => exact rfl); (case m => exact Nat.le_of_ble_eq_true rfl)); intro h' F' N'; (try k_sweep)))
def dieCd : ClassData := { name := Str.ofString "Die", bases := [.ref 512], mro := [.ref 532, .ref 512, .type "Exception", .type "BaseException", .type "object"], ns := 531, qualname := Str.ofString "Die", hasDict := true, slotNames := [], subclasses := [], abstract := false, collection := none, hasDel := false }
@[reducible] def exObj (t : Nat) : Obj := { cls := .ref 532, data := .fields #[.ref t, .none, .none, .none, .bool false, .none] }
section
variable {prog : Program} {w : World} {p : Program} {loose : List Str} {mean : ExcName → Option Value} {mg mb : Str → Option Value}
  {dp un : Nat} {gd : Option (List Code)} {cn : Str} {cs : Scope} {a : Addr} {ccd : Value} {cl : List (Str × Addr)} {outer : List Env} {A₀ : Around} {base h₀ : Heap} {L : Addr} {m : Str → Option Value} {s : Shared}
  {Q E : Value → Shared → Prop} {rest : List (Addr × Obj)}
  (B : Below A₀ base outer h₀) (F : Fr h₀ L s.heap m) (X : (hd.heap_39 w.params).In h₀) (T : Top p loose mean mg mb h₀) (hk : cs.kind = .function) (NR : News h₀ L s.heap rest)
include B F X T hk NR
theorem die_ok {om : Str} {tom : Tok}
  (hd : dp + 10 < recursionLimit) (hu : un + 50 < cLine)
  (ret : ∀ (e t D : Nat) h' tk (kt : Nat → Tok), Fr h₀ L h' m → News h₀ L h' rest → News h₀ L h' [(e, { exObj t with dict := some D }), (t, tupOf [.str (Str.ofString "died") (kt 2)]), (D, dictOf [ent w "text" (kt 0) (.str (Str.ofString "died") (kt 2)), ent w "value" (kt 1) (.str om tom)] 2)] →
     (∀ q ∈ rest, q.1 < e ∧ q.1 < t ∧ q.1 < D) → e ≠ t → e ≠ D → t ≠ D → Q (.ref e) { s with heap := h', toks := tk }) :
  wpAny (model prog w) (ktrTop dp un gd cn cs L a ccd cl outer) (call (.ref 532) [.str om tom]) Q E s := by
  obtain ⟨hp, gn, dr, tks, os⟩ := s
  have X₁ := X.keeps F.keep
  have hC := X₁ 532 _ (by rfl)
  have N₀ : News h₀ L hp rest := NR
  have hi : Looks (model prog w) hp (typeLookup (.ref 532) "__init__") (some (.ref 529)) := looks_findIn X₁ (by rfl)
  have TH : TailHas "Exception" [.ref 512, .type "Exception", .type "BaseException", .type "object"] := ⟨by decide, by decide, by decide⟩
  have F₂ := (F.push { cls := .type "tuple", data := .seq [Value.str om tom].toArray }).push { cls := .ref 532, data := .fields #[.ref hp.objs.size, .none, .none, .none, .bool false, .none] }
  have N₁ := (News.push F N₀ { cls := .type "tuple", data := .seq [Value.str om tom].toArray })
  have N₂ := News.push (F.push { cls := .type "tuple", data := .seq [Value.str om tom].toArray }) N₁ { cls := .ref 532, data := .fields #[.ref hp.objs.size, .none, .none, .none, .bool false, .none] }
  rw [Heap.size_push] at N₂
  have hlt : AllLt hp.objs.size rest := allLt_of fun q hq => Heap.lt_size (N₀ q hq).1
  refine exc_call PySem.F.excBase_Exception TH hC hi (fun self => bind_fn X₁ self (by rfl)) ?_
  dsimp only at F₂ N₂ ⊢
  clear N₁ N₀ hi TH hC X₁
  generalize hp.objs.size = t at *
  generalize hh : (hp.push { cls := .type "tuple", data := .seq [Value.str om tom].toArray }).push { cls := .ref 532, data := .fields #[.ref t, .none, .none, .none, .bool false, .none] } = h2 at *
  have hfr : ∀ p ∈ ((t, { cls := .type "tuple", data := .seq [Value.str om tom].toArray }) :: rest : List (Addr × Obj)), p.1 ≠ t + 1 := by
    intro p hp
    rcases List.mem_cons.mp hp with rfl | hp
    · exact Nat.ne_of_lt (Nat.lt_succ_self _)
    · exact Nat.ne_of_lt (Nat.lt_succ_of_lt (lt_of_allLt hlt p hp))
  clear F NR hh
  refine wpAny_call ?_
  k_dflt (refine' code_def ?k1 ?k2 ?k3 ?k4 ?k5 ?kA ?kF ?kK ?k6 ?k7 ?k8 ?k9 ?kB ?_ ?c2 ?c3 ?c4 ?c5)
  case kA => exact rfl
  case kF => exact rfl
  case kK => assumption
  case k1 => k_asm
  case k2 => k_asm
  case k3 => k_asm
  case k4 => exact N₂
  case k5 => k_asm
  case k6 => k_dflt k_is
  case k7 => k_dflt k_is
  case k8 => ktr_room
  case k9 => k_dflt (first | exact BindsTo.of_eq rfl | exact binds_K (by k_in) rfl (by k_is) rfl rfl rfl)
  case c5 => decide
  case kB => exact locs rfl
  case c2 => exact rfl
  case c3 => exact rfl
  case c4 => exact rfl
  clear N₂
  intro g' L' h' FG' F' N' B' X' T'
  (try dsimp only)
  (try k_fold)
  k_steps
  (with_reducible rename News h₀ L _ _ => N9)
  (with_reducible rename Fr h₀ L _ _ => F9)
  (with_reducible rename (_ ∧ _ ∧ _ ∧ AllLt _ rest) => la)
  have hS := lt_of_allLt la.2.2.2
  have ht := lt_of_allLt hlt
  have la' := la.1
  have la2 := la.2.1
  clear la
  (with_reducible rename (_ ∧ _ ∧ AllLt _ rest) => lb)
  have hS1 := lt_of_allLt lb.2.2
  have lb' := lb.1
  refine ret _ _ _ _ _ (ktOf [_, _, _]) F9 (fun q hq => N9 q (List.Mem.tail _ (List.Mem.tail _ (List.Mem.tail _ (List.Mem.tail _ hq))))) (news_cons N9 (List.Mem.tail _ (List.Mem.head _)) (news_cons N9 (List.Mem.tail _ (List.Mem.tail _ (List.Mem.head _))) (news_cons N9 (List.Mem.head _) News.nil))) ?_ ?_ ?_ ?_
  · exact fun q hq => ⟨Nat.lt_succ_of_lt (ht q hq), hS1 q hq, hS q hq⟩
  · exact Nat.ne_of_lt lb'
  · exact Nat.ne_of_lt la2
  · exact Nat.ne_of_lt la'
end

section
variable {prog : Program} {w : World} {A : Around} {E : Value → Shared → Prop} {s : Shared} {env : Env} {Q : Flow → Shared → Prop}
theorem raise_die {e : PySem.Expr} {pos : Pos} (hh : A.handled = none)
    (h : wpAny (model prog w) A (eval e env) (fun v s₁ => ∃ (e t : Nat) (od : Option Addr), v = .ref e ∧ (hd.heap_39 w.params).In s₁.heap ∧ s₁.heap.get? e = some { exObj t with dict := od } ∧ E (.ref e) s₁) E s) :
    wpAny (model prog w) A (exec (.Raise (some e) none pos) env) Q E s := by
  show wpAny (model prog w) A (do standAt pos; raiseStmt env (some (do let v ← eval e env; standAt pos; pure v)) none) Q E s
  refine wpAny_bind (wpAny_standAt ?_)
  refine' raise_made_d (C := 532) (bm := [.ref 512, .type "Exception", .type "BaseException", .type "object"]) (by decide) hh ?hgoal
  case hgoal =>
  refine wpAny_bind (wpAny_mono h (fun v s₁ h₁ => ?_) fun _ _ x => x)
  obtain ⟨e, t, od, rfl, X, he, hE⟩ := h₁
  exact wpAny_bind (wpAny_standAt (wpAny_pure ⟨e, t, od, rfl, X 532 _ (by rfl), he, hE⟩))
end

end MDieS
section MCard2S
theorem resetMCard2 : True := by
  w_top off
  trivial
local macro_rules | `(tactic| k_room) => `(tactic| ktr_room)
local macro_rules | `(tactic| walk_at "subscriptTail Name Constant ref int") => `(tactic| (k_here; (with_reducible show wpAny _ _ (subscriptTail _ _ (Value.ref _) (Value.int _ _)) _ _ _); (with_unfolding_all refine' item_litK ?k1 ?k2 ?k3 ?k4 ?_ ?k6; (case k1 => is_list); (case k2 => decide); (case k3 => decide); (case k4 => rfl); (case k6 => with_unfolding_all rfl); k_whole)))
local macro_rules | `(tactic| walk_at "binaryOp Mult ref int") => `(tactic| (k_here; (with_reducible show wpAny _ _ (binaryOp Operator.Mult (Value.ref _) (Value.int _ _)) _ _ _); k_dflt (refine' KMa.mul ?F ?N ?l ?lo ?hi ?z ?e ?_; (case F => k_asm); (case N => k_asm); (case l => is_list); (case lo => decide); (case hi => decide); (case z => exact Nat.le_of_ble_eq_true rfl); (case e => exact rfl); k_whole); intro D' h' F' N' l1; (try k_lt l1); (try k_sweep)))
local macro_rules | `(tactic| walk_at "exec While") => `(tactic| (k_here; (with_reducible show wpAny _ _ (exec (Stmt.While (Expr.Constant _ _ _) _ _ _) _) _ _ _); k_dflt (refine whl_start 100 ?_)))
local macro_rules | `(tactic| walk_at "subscriptTail") => `(tactic| (k_here; (with_reducible show wpAny _ _ (subscriptTail _ _ (Value.str _ _) (Value.int _ _)) _ _ _); (refine item_ab (by assumption) (by omega) (by omega) (by omega) ?_ ?_) <;> intro _))
section
variable {prog : Program} {w : World} {p : Program} {loose : List Str} {mean : ExcName → Option Value} {mg mb : Str → Option Value}
  {dp un : Nat} {gd : Option (List Code)} {cn : Str} {cs : Scope} {a : Addr} {ccd : Value} {cl : List (Str × Addr)} {outer : List Env} {A₀ : Around} {base h₀ : Heap} {L : Addr} {m : Str → Option Value} {s : Shared}
  {Q E : Value → Shared → Prop} {rest : List (Addr × Obj)}
  (B : Below A₀ base outer h₀) (F : Fr h₀ L s.heap m) (X : (hd.heap_39 w.params).In h₀) (T : Top p loose mean mg mb h₀) (hk : cs.kind = .function) (NR : News h₀ L s.heap rest)
include B F X T hk NR
theorem card2 {D : Nat} {k many : Int} {t1 : Tok} {vs : List Value} {ns : List Int} {n : Nat} (hD : DeckAre vs ns k)
  (N : News h₀ L s.heap [(D, PySem.W.listOf vs.toArray n)]) (hdis : ∀ b ∈ [D], ∀ q ∈ rest, q.1 ≠ b)
  (hlen : ns.length ≤ 24) (h0 : 0 ≤ k) (h1 : k ≤ 1000) (hm : 0 < many) (hm2 : many ≤ 12) (hd : dp + 5 < recursionLimit) (hu : un + 50 < cLine)
  (ret : ∀ r t vs' h' tk n', DeckAre vs' ns (k + 1) → 0 ≤ r → r < many → Fr h₀ L h' m → News h₀ L h' ((D, PySem.W.listOf vs'.toArray n') :: rest) → Q (.int r t) { s with heap := h', toks := tk }) :
  wpAny (model prog w) (ktrTop dp un gd cn cs L a ccd cl outer) (call (.ref 912) [.ref D, .int many t1]) Q E s := by
  obtain ⟨t0, xs, rfl, hi⟩ := hD
  exact card_ok B F X T hk NR N hdis hi hlen h0 h1 hm hm2 hd hu fun r t t' h' tk n' a b F' NR' N' => ret r t _ h' tk n' ⟨_, _, rfl, hi⟩ a b F' fun p hp => (List.mem_cons.mp hp).elim (fun e => e ▸ N' _ (.head _)) (NR' p)
end

end MCard2S
section MSubS
theorem resetMSub : True := by
  w_top off
  trivial
local macro_rules | `(tactic| k_room) => `(tactic| ktr_room)
local macro_rules | `(tactic| walk_at "subscriptTail Name Constant ref int") => `(tactic| (k_here; (with_reducible show wpAny _ _ (subscriptTail _ _ (Value.ref _) (Value.int _ _)) _ _ _); (with_unfolding_all refine' item_litK ?k1 ?k2 ?k3 ?k4 ?_ ?k6; (case k1 => is_list); (case k2 => decide); (case k3 => decide); (case k4 => rfl); (case k6 => with_unfolding_all rfl); k_whole)))
local macro_rules | `(tactic| walk_at "binaryOp Mult ref int") => `(tactic| (k_here; (with_reducible show wpAny _ _ (binaryOp Operator.Mult (Value.ref _) (Value.int _ _)) _ _ _); k_dflt (refine' KMa.mul ?F ?N ?l ?lo ?hi ?z ?e ?_; (case F => k_asm); (case N => k_asm); (case l => is_list); (case lo => decide); (case hi => decide); (case z => exact Nat.le_of_ble_eq_true rfl); (case e => exact rfl); k_whole); intro D' h' F' N' l1; (try k_lt l1); (try k_sweep)))
local macro_rules | `(tactic| walk_at "exec While") => `(tactic| (k_here; (with_reducible show wpAny _ _ (exec (Stmt.While (Expr.Constant _ _ _) _ _ _) _) _ _ _); k_dflt (refine whl_start 100 ?_)))
local macro_rules | `(tactic| walk_at "subscriptTail") => `(tactic| (k_here; (with_reducible show wpAny _ _ (subscriptTail _ _ (Value.str _ _) (Value.int _ _)) _ _ _); (refine item_ab (by assumption) (by omega) (by omega) (by omega) ?_ ?_) <;> intro _))
theorem cast_succ (n : Nat) : (n : Int) + 1 = ((n + 1 : Nat) : Int) := rfl
def Ok9 (_ : Nat) : Prop := True
structure GSt where
  G : Nat
  Tp : Nat
  st : Nat
  u1 : Tok
  u2 : Tok
  n : Nat
def gobj : Option GSt → List (Addr × Obj)
  | none => []
  | some g => [(g.Tp, tupOf [.int (g.st : Int) g.u1, .int ((g.st : Int) + 1) g.u2]), (g.G, PySem.W.listOf [.ref g.Tp].toArray g.n)]
def gval : Option GSt → Value
  | none => .none
  | some g => .ref g.G
def GrOk (t : Str) (SP d : Nat) : Option GSt → Prop
  | none => ∀ i : Int, (d : Int) ≤ i → i < (t.length : Int) → Txt.item t i = Str.ofString "b"
  | some g => d ≤ g.st ∧ g.st < t.length ∧ Txt.item t (g.st : Int) = Str.ofString "a" ∧ (∀ i : Int, (d : Int) ≤ i → i < (g.st : Int) → Txt.item t i = Str.ofString "b") ∧ SP < g.G ∧ g.G < g.Tp
theorem news_ins {h₀ h : Heap} {L : Addr} {x : Addr × Obj} {l r : List (Addr × Obj)} (NR : News h₀ L h (x :: r)) (N : News h₀ L h l) : News h₀ L h (x :: (l ++ r)) := fun p hp => by
  rcases List.mem_cons.mp hp with rfl | hp
  · exact NR _ (.head _)
  · exact (List.mem_append.mp hp).elim (N p) fun h => NR p (.tail _ h)
section
variable {prog : Program} {w : World} {p : Program} {loose : List Str} {mean : ExcName → Option Value} {mg mb : Str → Option Value}
  {dp un : Nat} {gd : Option (List Code)} {cn : Str} {cs : Scope} {a : Addr} {ccd : Value} {cl : List (Str × Addr)} {outer : List Env} {A₀ : Around} {base h₀ : Heap} {L : Addr} {m : Str → Option Value} {s : Shared}
  {Q E : Value → Shared → Prop} {rest : List (Addr × Obj)}
  (B : Below A₀ base outer h₀) (F : Fr h₀ L s.heap m) (X : (hd.heap_39 w.params).In h₀) (T : Top p loose mean mg mb h₀) (hk : cs.kind = .function) (NR : News h₀ L s.heap rest)
include B F X T hk NR
theorem next_both {P Pd RL T1 T2 LM LMd SP d : Nat} {pt lt : Nat → Tok} {t : Str} {tt tm tst ta t1 t2 t3 t4 t5 : Tok} {vn vb vw vd vt vi : Value} {k at0 : Int} {nr ns : Nat} (hat : at0 = (d : Int))
  (N : News h₀ L s.heap [(SP, PySem.W.listOf [.int k tst].toArray ns), (P, instObj 901 Pd), (Pd, progD w pt (.ref RL) (.int 0 t1) (.int 0 t2) vn), (RL, PySem.W.listOf [.ref T1, .ref T2].toArray nr), (T1, tupOf [.str (Str.ofString "sign") t3, .str (Str.ofString "a") t4, .bool false]), (T2, tupOf [.str (Str.ofString "end") t5]),
    (LM, instObj 880 LMd), (LMd, limD w lt vw vd (.int 1000000 tm) vt vi)])
  (hdis : ∀ b ∈ [SP, P, Pd, RL, T1, T2, LM, LMd], ∀ q ∈ rest, q.1 ≠ b)
  (l1 : LMd < LM) (l2 : LM < T1) (l3 : T1 < T2) (l4 : T2 < RL) (l5 : RL < Pd) (l6 : Pd < P) (l7 : P < SP)
  (h1 : d ≤ t.length) (h2 : t.length ≤ 8) (hx : AB t) (hk0 : 0 ≤ k) (hk1 : k ≤ 300) (hvb : vb = .none ∨ ∃ b tb, vb = .int b tb)
  (ret : ∀ h' tk k' tsk nsp gr, GrOk t SP d gr → k ≤ k' → k' ≤ k + 20 → Fr h₀ L h' m → News h₀ L h' rest → News h₀ L h' (gobj gr ++ [(SP, PySem.W.listOf [.int k' tsk].toArray nsp), (P, instObj 901 Pd), (Pd, progD w pt (.ref RL) (.int 0 t1) (.int 0 t2) vn), (RL, PySem.W.listOf [.ref T1, .ref T2].toArray nr), (T1, tupOf [.str (Str.ofString "sign") t3, .str (Str.ofString "a") t4, .bool false]), (T2, tupOf [.str (Str.ofString "end") t5]),
    (LM, instObj 880 LMd), (LMd, limD w lt vw vd (.int 1000000 tm) vt vi)]) → Q (gval gr) { s with heap := h', toks := tk })
  (hd : dp + 20 < recursionLimit) (hu : un + 150 < cLine) :
  wpAny (model prog w) (ktrTop dp un gd cn cs L a ccd cl outer) (call (.ref 826) [.ref P, .str t tt, .int at0 ta, .bool false, .ref LM, vb, .ref SP]) Q E s := by
  subst hat
  refine next_ok B F X T hk NR N hdis l1 l2 l3 l4 l5 l6 l7 (by omega) (by omega) h2 hx hk0 hk1 hvb (fun h' tk k' tsk nsp hb k1 k2 F' NR' N' => ret h' tk k' tsk nsp none hb k1 k2 F' NR' N') (fun h' tk k' tsk nsp st G Tp n u1 u2 a1 a2 a3 a4 a5 a6 k1 k2 F' NR' N' => ?_) hd hu
  obtain ⟨st, rfl⟩ : ∃ q : Nat, st = (q : Int) := ⟨st.toNat, by omega⟩
  exact ret h' tk k' tsk nsp (some ⟨G, Tp, st, u1, u2, n⟩) ⟨(by show d ≤ st; omega), (by show st < t.length; omega), a3, a4, a5, a6⟩ k1 k2 F' NR' N'
end
/-- what a turn of substitute's loop changes -/
structure SubSt (σ : Type) where
  d : Nat
  td : Tok
  tk : Tok
  ps : Array Value
  np : Nat
  st : Int
  tst : Tok
  nsp : Nat
  c : σ
  gr : Option GSt
  vf : Option Value
  ve : Option Value
theorem fr_five {h₀ h : Heap} {L : Addr} {m : Str → Option Value} (n1 n2 n3 n4 n5 : Str) (F : Fr h₀ L h m) : Fr h₀ L h (fun y => if y = n1 then m n1 else if y = n2 then m n2 else if y = n3 then m n3 else if y = n4 then m n4 else if y = n5 then m n5 else m y) :=
  fr_congr F fun y => by
    by_cases e1 : y = n1
    · rw [if_pos e1, e1]
    rw [if_neg e1]
    by_cases e2 : y = n2
    · rw [if_pos e2, e2]
    rw [if_neg e2]
    by_cases e3 : y = n3
    · rw [if_pos e3, e3]
    rw [if_neg e3]
    by_cases e4 : y = n4
    · rw [if_pos e4, e4]
    rw [if_neg e4]
    by_cases e5 : y = n5
    · rw [if_pos e5, e5]
    rw [if_neg e5]
theorem fr_end {h₀ h : Heap} {L : Addr} {m mb : Str → Option Value} {n1 n2 n3 n4 n5 : Str} {v1 v2 v3 v4 v5 : Option Value} (F : Fr h₀ L h m) (a1 : m n1 = v1) (a2 : m n2 = v2) (a3 : m n3 = v3) (a4 : m n4 = v4) (a5 : m n5 = v5)
    (e : ∀ y, y ≠ n1 → y ≠ n2 → y ≠ n3 → y ≠ n4 → y ≠ n5 → m y = mb y) : Fr h₀ L h (fun y => if y = n1 then v1 else if y = n2 then v2 else if y = n3 then v3 else if y = n4 then v4 else if y = n5 then v5 else mb y) :=
  fr_congr F fun y => by
    by_cases e1 : y = n1
    · rw [if_pos e1, e1, a1]
    rw [if_neg e1]
    by_cases e2 : y = n2
    · rw [if_pos e2, e2, a2]
    rw [if_neg e2]
    by_cases e3 : y = n3
    · rw [if_pos e3, e3, a3]
    rw [if_neg e3]
    by_cases e4 : y = n4
    · rw [if_pos e4, e4, a4]
    rw [if_neg e4]
    by_cases e5 : y = n5
    · rw [if_pos e5, e5, a5]
    rw [if_neg e5]
    exact e y e1 e2 e3 e4 e5
local macro_rules | `(tactic| k_all) => `(tactic| exact OwnBelow.ne (by with_reducible assumption) (by (try dsimp only); omega))
local macro_rules | `(tactic| walk_at "call ref") => `(tactic| (k_here; (with_reducible show wpAny _ _ (call (Value.ref 826) _) _ _ _); (with_reducible rename News _ _ _ (_ :: _) => N9); first | ((with_reducible show wpAny _ _ (call (Value.ref 826) [_, _, _, _, _, Value.int _ _, _]) _ _ _); (k_dflt (refine' next_both (d := 0) ?B ?F ?X ?T ?hk (news_join (news_cons N9 (List.Mem.tail _ (List.Mem.head _)) (news_cons N9 (List.Mem.tail _ (List.Mem.tail _ (List.Mem.tail _ (List.Mem.tail _ (List.Mem.tail _ (List.Mem.tail _ (List.Mem.tail _ (List.Mem.tail _ (List.Mem.tail _ (List.Mem.head _)))))))))) News.nil)) (SplitTl.tl (SplitTl.cons (SplitTl.cons (SplitTl.cons (SplitTl.cons (SplitTl.cons (SplitTl.cons (SplitTl.cons (SplitTl.cons (SplitTl.cons (SplitTl.cons SplitTl.nil)))))))))) N9)) rfl (news_cons N9 (List.Mem.head _) (news_cons N9 (List.Mem.tail _ (List.Mem.tail _ (List.Mem.head _))) (news_cons N9 (List.Mem.tail _ (List.Mem.tail _ (List.Mem.tail _ (List.Mem.head _)))) (news_cons N9 (List.Mem.tail _ (List.Mem.tail _ (List.Mem.tail _ (List.Mem.tail _ (List.Mem.head _))))) (news_cons N9 (List.Mem.tail _ (List.Mem.tail _ (List.Mem.tail _ (List.Mem.tail _ (List.Mem.tail _ (List.Mem.head _)))))) (news_cons N9 (List.Mem.tail _ (List.Mem.tail _ (List.Mem.tail _ (List.Mem.tail _ (List.Mem.tail _ (List.Mem.tail _ (List.Mem.head _))))))) (news_cons N9 (List.Mem.tail _ (List.Mem.tail _ (List.Mem.tail _ (List.Mem.tail _ (List.Mem.tail _ (List.Mem.tail _ (List.Mem.tail _ (List.Mem.head _)))))))) (news_cons N9 (List.Mem.tail _ (List.Mem.tail _ (List.Mem.tail _ (List.Mem.tail _ (List.Mem.tail _ (List.Mem.tail _ (List.Mem.tail _ (List.Mem.tail _ (List.Mem.head _))))))))) News.nil)))))))) ?hdis ?l1 ?l2 ?l3 ?l4 ?l5 ?l6 ?l7 ?h1 ?h2 ?hx ?hk0 ?hk1 ?hvb ?_ ?hd ?hu; (case B => k_asm); (case F => k_asm); (case X => k_asm); (case T => k_asm); (case hk => exact rfl); (case hdis => ((simp only [List.cons_append, List.nil_append]); (repeat' first | exact List.forall_mem_nil _ | refine List.forall_mem_cons.mpr ⟨?_, ?_⟩ | ((try dsimp only); k_all) | (refine neN ?_; (try dsimp only); omega)))); (case l1 => omega); (case l2 => omega); (case l3 => omega); (case l4 => omega); (case l5 => omega); (case l6 => omega); (case l7 => omega); (case h1 => omega); (case h2 => omega); (case hx => assumption); (case hk0 => omega); (case hk1 => omega); (case hvb => first | exact .inl rfl | exact .inr ⟨_, _, rfl⟩); (case hd => ktr_room); (case hu => ktr_units)); intro h' tk' k2' ts2' nsp' gr' hg' hk1' hk2' F' NR' N'; (replace N' := news_ins NR' N'); clear NR'; (try k_sweep))) | ((with_reducible show wpAny _ _ (call (Value.ref 826) [_, _, _, Value.bool false, _, Value.none, _]) _ _ _); (k_dflt (refine' next_both ?B ?F ?X ?T ?hk (news_join (news_cons N9 (List.Mem.head _) (news_cons N9 (List.Mem.tail _ (List.Mem.tail _ (List.Mem.tail _ (List.Mem.tail _ (List.Mem.tail _ (List.Mem.tail _ (List.Mem.tail _ (List.Mem.tail _ (List.Mem.tail _ (List.Mem.tail _ (List.Mem.tail _ (List.Mem.head _)))))))))))) News.nil)) (SplitTl.tl (SplitTl.cons (SplitTl.cons (SplitTl.cons (SplitTl.cons (SplitTl.cons (SplitTl.cons (SplitTl.cons (SplitTl.cons (SplitTl.cons (SplitTl.cons (SplitTl.cons (SplitTl.cons SplitTl.nil)))))))))))) N9)) (cast_succ _) (news_cons N9 (List.Mem.tail _ (List.Mem.tail _ (List.Mem.tail _ (List.Mem.head _)))) (news_cons N9 (List.Mem.tail _ (List.Mem.tail _ (List.Mem.tail _ (List.Mem.tail _ (List.Mem.head _))))) (news_cons N9 (List.Mem.tail _ (List.Mem.tail _ (List.Mem.tail _ (List.Mem.tail _ (List.Mem.tail _ (List.Mem.head _)))))) (news_cons N9 (List.Mem.tail _ (List.Mem.tail _ (List.Mem.tail _ (List.Mem.tail _ (List.Mem.tail _ (List.Mem.tail _ (List.Mem.head _))))))) (news_cons N9 (List.Mem.tail _ (List.Mem.tail _ (List.Mem.tail _ (List.Mem.tail _ (List.Mem.tail _ (List.Mem.tail _ (List.Mem.tail _ (List.Mem.head _)))))))) (news_cons N9 (List.Mem.tail _ (List.Mem.tail _ (List.Mem.tail _ (List.Mem.tail _ (List.Mem.tail _ (List.Mem.tail _ (List.Mem.tail _ (List.Mem.tail _ (List.Mem.head _))))))))) (news_cons N9 (List.Mem.tail _ (List.Mem.tail _ (List.Mem.tail _ (List.Mem.tail _ (List.Mem.tail _ (List.Mem.tail _ (List.Mem.tail _ (List.Mem.tail _ (List.Mem.tail _ (List.Mem.head _)))))))))) (news_cons N9 (List.Mem.tail _ (List.Mem.tail _ (List.Mem.tail _ (List.Mem.tail _ (List.Mem.tail _ (List.Mem.tail _ (List.Mem.tail _ (List.Mem.tail _ (List.Mem.tail _ (List.Mem.tail _ (List.Mem.head _))))))))))) News.nil)))))))) ?hdis ?l1 ?l2 ?l3 ?l4 ?l5 ?l6 ?l7 ?h1 ?h2 ?hx ?hk0 ?hk1 ?hvb ?_ ?hd ?hu; (case B => k_asm); (case F => k_asm); (case X => k_asm); (case T => k_asm); (case hk => exact rfl); (case hdis => ((simp only [List.cons_append, List.nil_append]); (repeat' first | exact List.forall_mem_nil _ | refine List.forall_mem_cons.mpr ⟨?_, ?_⟩ | ((try dsimp only); k_all) | (refine neN ?_; (try dsimp only); omega)))); (case l1 => omega); (case l2 => omega); (case l3 => omega); (case l4 => omega); (case l5 => omega); (case l6 => omega); (case l7 => omega); (case h1 => omega); (case h2 => omega); (case hx => assumption); (case hk0 => omega); (case hk1 => omega); (case hvb => first | exact .inl rfl | exact .inr ⟨_, _, rfl⟩); (case hd => ktr_room); (case hu => ktr_units)); intro h' tk' k2' ts2' nsp' gr' hg' hk1' hk2' F' NR' N'; (replace N' := news_ins NR' N'); clear NR'; (try k_sweep))) | (refine stop_in ?_)))
local macro_rules | `(tactic| walk_at "exec While Compare") => `(tactic| (k_here; (refine whl_start 0 ?_); (refine stop_in ?_)))
local macro_rules | `(tactic| walk_at "call ref") => `(tactic| (k_here; (with_reducible show wpAny _ _ (call (Value.ref _) [Value.ref _]) _ _ _); (with_reducible rename PutSpec _ _ _ _ _ _ _ _ _ _ _ _ _ _ => hP9); (with_reducible rename News _ _ _ (_ :: _) => N9); k_dflt (refine' hP9 ?B ?F ?X ?T ?hk (SplitTl.pre (SplitTl.cons (SplitTl.cons (SplitTl.cons (SplitTl.cons (SplitTl.cons (SplitTl.cons (SplitTl.cons (SplitTl.cons (SplitTl.cons SplitTl.nil))))))))) N9) (SplitTl.tl (SplitTl.cons (SplitTl.cons (SplitTl.cons (SplitTl.cons (SplitTl.cons (SplitTl.cons (SplitTl.cons (SplitTl.cons (SplitTl.cons SplitTl.nil))))))))) N9) ?dis ?ok ?k8 ?z0 ?z1 ?hd ?hu ?_ ?_; (case B => k_asm); (case F => k_asm); (case X => k_asm); (case T => k_asm); (case hk => exact rfl); (case dis => (refine dis_of ?_; (repeat' first | exact List.forall_mem_nil _ | refine List.forall_mem_cons.mpr ⟨?_, ?_⟩ | refine forall_append ?_ ?_ | ((try dsimp only); k_all) | (refine neN ?_; (try dsimp only); omega)))); (case ok => with_reducible assumption); (case k8 => with_reducible assumption); (case z0 => with_reducible assumption); (case z1 => with_reducible assumption); (case hd => ktr_room); (case hu => ktr_units)); all_goals (first | (intro h' tk' c' tx' hz' ok' F' NR' N'; (have hO8 := OffAll.at (by with_reducible assumption) c'); (have hB8 := BelAll.at (by with_reducible assumption) c'); (replace N' := news_join NR' N'); clear NR'; (try simp only [List.append_eq, List.cons_append, List.nil_append] at N'); (try k_sweep)) | (intro h' tk' c' e' t' vs' D' g' dt' hz' ok' F' U' D9' R'; refine stop_in ?_))))
local macro_rules | `(tactic| walk_at "call builtin:str.join") => `(tactic| (k_here; (with_reducible rename StrsAre _ _ => hS9); (refine join_listW (by is_list) (by with_reducible assumption) (by decide) (by with_reducible assumption) ?_; intro t' tk')))
local macro_rules | `(tactic| walk_at "call builtin:str.join") => `(tactic| (k_here; (with_reducible show wpAny _ _ (call (Value.builtin "str.join") [Value.str _ _, Value.ref _]) _ _ _); (with_reducible rename Ok9 _ => hX9); (refine stop_in ?_)))
local macro_rules | `(tactic| walk_at "binaryOp Add str str") => `(tactic| (k_here; (with_reducible show wpAny _ _ (binaryOp Operator.Add (Value.str _ _) (Value.str _ _)) _ _ _); (refine PyProof.Rows.add_str ?_ ?hsz); (case hsz => (rw [sizeLine_eq]; omega)); intro _ _))
local macro_rules | `(tactic| walk_at "call builtin:list.append") => `(tactic| (k_here; (with_reducible show wpAny _ _ (call (Value.builtin _) [Value.ref _, _]) _ _ _); k_dflt (refine' append_K ?k1 ?k2 ?k3 ?_ ?z; (case k1 => k_asm); (case k2 => k_asm); (case k3 => k_upd); (case z => ((try simp only [Array.size_push]); rw [sizeLine_eq]; omega)); k_whole); intro h' F' N'; (try k_sweep)))
section
variable {prog : Program} {w : World} {p : Program} {loose : List Str} {mean : ExcName → Option Value} {mg mb : Str → Option Value}
  {dp un : Nat} {gd : Option (List Code)} {cn : Str} {cs : Scope} {a : Addr} {ccd : Value} {cl : List (Str × Addr)} {outer : List Env} {A₀ : Around} {base h₀ : Heap} {L : Addr} {m : Str → Option Value} {s : Shared}
  {Q E : Value → Shared → Prop} {rest : List (Addr × Obj)}
  (B : Below A₀ base outer h₀) (F : Fr h₀ L s.heap m) (X : (hd.heap_39 w.params).In h₀) (T : Top p loose mean mg mb h₀) (hk : cs.kind = .function) (NR : News h₀ L s.heap rest)
include B F X T hk NR
theorem sub_ok {σ : Type} {Led : σ → List (Addr × Obj)} {Ok : Nat → Int → σ → Prop} {xs : Int → Str} {sz : Nat → Int} {c₀ : σ} {P Pd RL T1 T2 LM LMd PF : Nat} {pt lt : Nat → Tok} {t : Str} {g : Bool} {tt tm tmo tb t1 t2 t3 t4 t5 : Tok} {vn vw vd vi : Value} {most : Int} {nr : Nat} {ofc : Value} {ofd : Option Addr} {fdd : FuncData} {ofs : Array (Option Value)}
  (hput : PutSpec prog w p loose mean mg mb xs sz most PF [(LM, instObj 880 LMd), (LMd, limD w lt vw vd (.int 1000000 tm) (.int most tmo) vi), (PF, (⟨ofc, ofd, .func fdd, ofs⟩ : Obj))] Led Ok) (hOk : Ok 0 0 c₀)
  (N : News h₀ L s.heap ([(P, instObj 901 Pd), (Pd, progD w pt (.ref RL) (.int 0 t1) (.int 0 t2) vn), (RL, PySem.W.listOf [.ref T1, .ref T2].toArray nr), (T1, tupOf [.str (Str.ofString "sign") t3, .str (Str.ofString "a") t4, .bool false]), (T2, tupOf [.str (Str.ofString "end") t5]), (LM, instObj 880 LMd), (LMd, limD w lt vw vd (.int 1000000 tm) (.int most tmo) vi), (PF, (⟨ofc, ofd, .func fdd, ofs⟩ : Obj))] ++ Led c₀)) (hdis : ∀ b ∈ [(P, instObj 901 Pd), (Pd, progD w pt (.ref RL) (.int 0 t1) (.int 0 t2) vn), (RL, PySem.W.listOf [.ref T1, .ref T2].toArray nr), (T1, tupOf [.str (Str.ofString "sign") t3, .str (Str.ofString "a") t4, .bool false]), (T2, tupOf [.str (Str.ofString "end") t5]), (LM, instObj 880 LMd), (LMd, limD w lt vw vd (.int 1000000 tm) (.int most tmo) vi), (PF, (⟨ofc, ofd, .func fdd, ofs⟩ : Obj))] ++ Led c₀, ∀ q ∈ rest, q.1 ≠ b.1)
  (hOff : OffAll Led [P, Pd, RL, T1, T2, LM, LMd]) (hBel : BelAll Led PF) (hCd : CodeHd h₀ 840 836)
  (l1 : LMd < LM) (l2 : LM < T1) (l3 : T1 < T2) (l4 : T2 < RL) (l5 : RL < Pd) (l6 : Pd < P) (l7 : P < PF)
  (h2 : t.length ≤ 8) (hx : AB t) (hm1 : 1 ≤ most) (hm2 : most ≤ 12)
  (hsz : ∀ i, i < 8 → 0 ≤ sz i ∧ sz i ≤ 5) (hxs : ∀ n, 0 ≤ n → n ≤ 5 → ((xs n).length : Int) = n)
  (hd : dp + 50 < recursionLimit) (hu : un + 250 < cLine)
  (ret : ∀ h' tk c' (TP : Nat) x tx tk2, cds x = (due xs sz g (cds t)).x → (due xs sz g (cds t)).z ≤ most → Ok (due xs sz g (cds t)).k (due xs sz g (cds t)).z c' → PF < TP → Fr h₀ L h' m → News h₀ L h' rest →
    News h₀ L h' ((TP, tupOf [.str x tx, .int ((due xs sz g (cds t)).k : Int) tk2]) :: ([(P, instObj 901 Pd), (Pd, progD w pt (.ref RL) (.int 0 t1) (.int 0 t2) vn), (RL, PySem.W.listOf [.ref T1, .ref T2].toArray nr), (T1, tupOf [.str (Str.ofString "sign") t3, .str (Str.ofString "a") t4, .bool false]), (T2, tupOf [.str (Str.ofString "end") t5]), (LM, instObj 880 LMd), (LMd, limD w lt vw vd (.int 1000000 tm) (.int most tmo) vi), (PF, (⟨ofc, ofd, .func fdd, ofs⟩ : Obj))] ++ Led c')) → Q (.ref TP) { s with heap := h', toks := tk })
  (raise : ∀ h' tk c' e t' vs D g' dt (i : Nat), i < t.length → (due xs sz g ((cds t).take i)).z ≤ most → most < (due xs sz g ((cds t).take (i + 1))).z → Ok (due xs sz g ((cds t).take (i + 1))).k (due xs sz g ((cds t).take (i + 1))).z c' →
    Fr h₀ L g' m → g'.UpToSlots h' → DictIs e D h' → RaisedK base (envX cn cs L a ccd cl :: outer) e (.ref 532) t' vs ((D, dieD w dt) :: Led c') h' → E (.ref e) { s with heap := h', toks := tk }) :
  wpAny (model prog w) (ktrTop dp un gd cn cs L a ccd cl outer) (call (.ref 834) [.ref P, .str t tt, .ref PF, .bool g, .ref LM, .int 0 tb]) Q E s := by
  have hO0 := OffAll.at hOff c₀
  have hB0 := BelAll.at hBel c₀
  have hOk1 : Ok (due xs sz g ((cds t).take 0)).k (due xs sz g ((cds t).take 0)).z c₀ := hOk
  simp only [List.cons_append, List.nil_append] at N
  refine wpAny_call ?_
  k_dflt (refine' code_restI NR hdis ?k1 ?k2 ?k3 N ?k5 ?kA ?kF ?kK ?k6 ?k7 ?k8 ?k9 ?kB ?_ ?c2 ?c3 ?c4 ?c5)
  case kA => exact rfl
  case kF => exact rfl
  case kK => assumption
  case k1 => k_asm
  case k2 => k_asm
  case k3 => k_asm
  case k5 => k_asm
  case k6 => k_dflt k_is
  case k7 => k_dflt k_is
  case k8 => ktr_room
  case k9 => k_dflt (first | exact BindsTo.of_eq rfl | exact binds_K (by k_in) rfl (by k_is) rfl rfl rfl)
  case c5 => decide
  case kB => exact locs rfl
  case c2 => exact rfl
  case c3 => exact rfl
  case c4 => exact rfl
  clear N
  intro g' L' h' FG' F' N' B' X' T' hL1
  have BG := B'
  have FGp := FG'
  simp only [List.cons_append, List.nil_append] at N'
  (try dsimp only)
  (try k_fold)
  k_steps
  rename_i pl _ lp1 _ _ _ _ sl _ ls1 _ _ _ tk7 k0' ts0 nsp0 gr0 hg0 hk10 hk20 h7 F7 N7
  unfold Stop
  have q0 : @LT.lt Nat _ P pl := by omega
  have q1 : @LT.lt Nat _ PF pl := by omega
  have q2 : @LT.lt Nat _ pl sl := ls1.1
  clear lp1 ls1 hOk hO0 hB0
  refine' whl_st (σ := SubSt σ) (s := s) (fun m8 c y => if y = Str.ofString "groups" then some (gval c.gr) else if y = Str.ofString "count" then some (Value.int ((due xs sz g ((cds t).take c.d)).k : Int) c.tk) else if y = Str.ofString "done" then some (Value.int (c.d : Int) c.td) else if y = Str.ofString "first" then c.vf else if y = Str.ofString "end" then c.ve else m8 y)
    (fun c => (pl, PySem.W.listOf c.ps c.np) :: ((gobj c.gr ++ [(sl, PySem.W.listOf [.int c.st c.tst].toArray c.nsp), (P, instObj 901 Pd), (Pd, progD w pt (.ref RL) (.int 0 t1) (.int 0 t2) vn), (RL, PySem.W.listOf [.ref T1, .ref T2].toArray nr), (T1, tupOf [.str (Str.ofString "sign") t3, .str (Str.ofString "a") t4, .bool false]), (T2, tupOf [.str (Str.ofString "end") t5]), (LM, instObj 880 LMd), (LMd, limD w lt vw vd (.int 1000000 tm) (.int most tmo) vi)]) ++ ([(PF, (⟨ofc, ofd, .func fdd, ofs⟩ : Obj))] ++ Led c.c)))
    (fun c => c.d ≤ t.length ∧ GrOk t sl c.d c.gr ∧ Ok (due xs sz g ((cds t).take c.d)).k (due xs sz g ((cds t).take c.d)).z c.c ∧ (due xs sz g ((cds t).take c.d)).z ≤ most ∧ (∃ txs, StrsAre c.ps.toList txs ∧ (txs.map cds).flatten = (due xs sz g ((cds t).take c.d)).x ∧ txs.length ≤ 2 * c.d) ∧ 0 ≤ c.st ∧ c.st ≤ 20 * ((c.d : Int) + 1) ∧ (g = false → (due xs sz g ((cds t).take c.d)).k = 0))
    (fun c => t.length + 1 - c.d) (c₀ := ⟨0, _, _, #[], _, k0', ts0, nsp0, c₀, gr0, none, none⟩) ?F ?N ?P ?E ?turn
  case F => exact fr_five _ _ _ _ _ F7
  case N => exact N7
  case P => exact ⟨Nat.zero_le _, hg0, hOk1, (by show (0 : Int) ≤ most; omega), ⟨[], .nil, rfl, Nat.le_refl _⟩, hk10, (by show k0' ≤ 20 * (((0 : Nat) : Int) + 1); omega), fun _ => rfl⟩
  case E => first | passes_own | with_unfolding_all passes_own
  case turn =>
    clear F7 N7 hg0 hk10 hk20 hOk1
    rintro ⟨d, td, tkc, ps, np, st8, tst8, nsp8, c8, gr8, vf8, ve8⟩ h8 tk88 F8 N8 ⟨p1, p2, p3, p4, ⟨txs, p5, p6, p7⟩, p8, p9, p10⟩
    dsimp only at F8 N8 p1 p2 p3 p4 p5 p6 p7 p8 p9 p10 ⊢
    have hO8 := OffAll.at hOff c8
    have hB8 := BelAll.at hBel c8
    have z0 : 0 ≤ (due xs sz g ((cds t).take d)).z := due_z_nonneg (fun i h => (hsz i h).1) _ (by rw [List.length_take, cds_len]; omega)
    have kl : (due xs sz g ((cds t).take d)).k ≤ d := Nat.le_trans (due_k_le _) (by rw [List.length_take]; omega)
    have xl : (due xs sz g ((cds t).take d)).x.length ≤ 5 * d := Nat.le_trans (due_x_le hsz hxs _ (by rw [List.length_take, cds_len]; omega)) (by rw [List.length_take]; omega)
    have hw8 : (txs.map (·.length)).sum + txs.length ≤ 1048576 := by rw [sum_len, p6]; omega
    have hj8 : (Txt.join (Str.ofString "") txs).length ≤ 40 := by rw [← cds_len, cds_join, p6]; omega
    have hps8 : ps.size ≤ 16 := by (have q := p5.length); rw [Array.length_toList] at q; omega
    rcases gr8 with _ | ⟨G8, Tp8, st9, u18, u28, n8⟩
    · simp only [gobj, gval, List.cons_append, List.nil_append] at N8 F8
      (try k_fold)
      k_steps
      have hT := due_rest (xs := xs) (sz := sz) (g := g) p1 (.inl p2)
      rw [hT] at ret
      dsimp only at ret
      (with_reducible rename News h₀ L _ rest => NR9)
      (with_reducible rename News h₀ L _ (_ :: _) => N9)
      (with_reducible rename Fr h₀ L _ _ => F9)
      (with_reducible rename (@LT.lt _ _ pl _ ∧ _) => lt9)
      have lt8 := lt9.1
      exact ret _ _ _ _ _ _ _ (by rw [cds_append, cds_join, p6, cds_from p1]) p4 p3 (Nat.lt_trans q1 lt8) F9 NR9 (news_cons N9 (List.Mem.head _) (news_join (news_cons N9 (List.Mem.tail _ (List.Mem.tail _ (List.Mem.tail _ (List.Mem.head _)))) (news_cons N9 (List.Mem.tail _ (List.Mem.tail _ (List.Mem.tail _ (List.Mem.tail _ (List.Mem.head _))))) (news_cons N9 (List.Mem.tail _ (List.Mem.tail _ (List.Mem.tail _ (List.Mem.tail _ (List.Mem.tail _ (List.Mem.head _)))))) (news_cons N9 (List.Mem.tail _ (List.Mem.tail _ (List.Mem.tail _ (List.Mem.tail _ (List.Mem.tail _ (List.Mem.tail _ (List.Mem.head _))))))) (news_cons N9 (List.Mem.tail _ (List.Mem.tail _ (List.Mem.tail _ (List.Mem.tail _ (List.Mem.tail _ (List.Mem.tail _ (List.Mem.tail _ (List.Mem.head _)))))))) (news_cons N9 (List.Mem.tail _ (List.Mem.tail _ (List.Mem.tail _ (List.Mem.tail _ (List.Mem.tail _ (List.Mem.tail _ (List.Mem.tail _ (List.Mem.tail _ (List.Mem.head _))))))))) (news_cons N9 (List.Mem.tail _ (List.Mem.tail _ (List.Mem.tail _ (List.Mem.tail _ (List.Mem.tail _ (List.Mem.tail _ (List.Mem.tail _ (List.Mem.tail _ (List.Mem.tail _ (List.Mem.head _)))))))))) (news_cons N9 (List.Mem.tail _ (List.Mem.tail _ (List.Mem.tail _ (List.Mem.tail _ (List.Mem.tail _ (List.Mem.tail _ (List.Mem.tail _ (List.Mem.tail _ (List.Mem.tail _ (List.Mem.tail _ (List.Mem.head _))))))))))) News.nil)))))))) (SplitTl.tl (tl := Led _) (by repeat (first | exact SplitTl.nil | apply SplitTl.cons)) N9)))
    · simp only [gobj, gval, List.cons_append, List.nil_append] at N8 F8
      obtain ⟨g1, g2, g3, g4, g5, g6⟩ := p2
      dsimp only at g1 g2 g3 g4 g5 g6
      have hX9 : Ok9 0 := True.intro
      have k8 : (due xs sz g ((cds t).take d)).k < 8 := by omega
      have hk9 : ¬ ((due xs sz g ((cds t).take st9)).k = 1 ∧ g = false) := by
        rw [due_upto g1 (Nat.le_of_lt g2) g4]
        rintro ⟨h1, h2⟩
        dsimp only at h1
        have := p10 h2
        omega
      have hA2 := due_at (xs := xs) (sz := sz) (g := g) g2 g3 hk9
      have hz9 : (due xs sz g ((cds t).take st9)).z ≤ most := by rw [due_upto g1 (Nat.le_of_lt g2) g4]; exact p4
      rw [due_upto g1 (Nat.le_of_lt g2) g4] at hA2
      dsimp only at hA2
      (try k_fold)
      k_steps
      · unfold Stop
        rw [show ((st9 : Int) == (st9 : Int) + 1) = false from beq_eq_false_iff_ne.mpr (by omega)]
        k_steps
        dsimp only
        (with_reducible rename Fr g' L' _ _ => F9)
        (with_reducible rename News g' L' _ (_ :: _) => N9)
        (with_reducible rename GrOk _ _ _ _ => hg9)
        (with_reducible rename Ok _ _ _ => ok9)
        (with_reducible rename (_ ≤ st8 + 20) => hs2)
        (with_reducible rename (st8 ≤ _) => hs1)
        (with_reducible rename (_ + sz _ ≤ most) => hzm)
        (with_reducible rename (g = true) => hgt)
        have hAk : (due xs sz g ((cds t).take (st9 + 1))).k = (due xs sz g ((cds t).take d)).k + 1 := by rw [hA2]
        refine ⟨⟨st9 + 1, _, _, _, _, _, _, _, _, _, _, _⟩, _, _, rfl, fr_end F9 rfl (congrArg (fun (n : Nat) => some (Value.int (n : Int) _)) hAk.symm) rfl rfl rfl (fun y h1 h2 h3 h4 h5 => by simp only [h1, h2, h3, h4, h5, if_false]), N9, ⟨?_, hg9, ?_, ?_, ⟨txs ++ [Txt.slice t (some (d : Int)) (some (st9 : Int))] ++ [xs (sz (due xs sz g ((cds t).take d)).k)], ?_, ?_, ?_⟩, ?_, ?_, ?_⟩, ?_⟩
        · show st9 + 1 ≤ t.length; omega
        · show Ok (due xs sz g ((cds t).take (st9 + 1))).k _ _; rw [hA2]; exact ok9
        · show (due xs sz g ((cds t).take (st9 + 1))).z ≤ most; rw [hA2]; exact hzm
        · exact push2 p5
        · show _ = (due xs sz g ((cds t).take (st9 + 1))).x; rw [hA2]; simp only [List.map_append, List.map_cons, List.map_nil, List.flatten_append, List.flatten_cons, List.flatten_nil, List.append_nil, p6, cds_slice g1 (Nat.le_of_lt g2)]
        · show _ ≤ 2 * (st9 + 1); simp only [List.length_append, List.length_singleton]; omega
        · dsimp only; omega
        · dsimp only; omega
        · intro h; rw [hgt] at h; cases h
        · show t.length + 1 - (st9 + 1) < t.length + 1 - d; omega
      · unfold Stop
        (with_reducible rename Ok _ _ _ => ok9)
        (with_reducible rename (_ + sz _ ≤ most) => hzm)
        (with_reducible rename (g = false) => hgt)
        have hfl : ((txs ++ [Txt.slice t (some (d : Int)) (some (st9 : Int))] ++ [xs (sz (due xs sz g ((cds t).take d)).k)]).map cds).flatten = (due xs sz g ((cds t).take (st9 + 1))).x := by
          rw [hA2]; simp only [List.map_append, List.map_cons, List.map_nil, List.flatten_append, List.flatten_cons, List.flatten_nil, List.append_nil, p6, cds_slice g1 (Nat.le_of_lt g2)]
        have hxl : (due xs sz g ((cds t).take (st9 + 1))).x.length ≤ 40 := Nat.le_trans (due_x_le hsz hxs _ (by rw [List.length_take, cds_len]; omega)) (by rw [List.length_take]; omega)
        have hj9 : (Txt.join (Str.ofString "") (txs ++ [Txt.slice t (some (d : Int)) (some (st9 : Int))] ++ [xs (sz (due xs sz g ((cds t).take d)).k)])).length ≤ 40 := by rw [← cds_len, cds_join, hfl]; exact hxl
        refine join_listW (ys := txs ++ [Txt.slice t (some (d : Int)) (some (st9 : Int))] ++ [xs (sz (due xs sz g ((cds t).take d)).k)]) (by is_list) (push2 p5) (by decide) (by rw [sum_len, hfl]; simp only [List.length_append, List.length_singleton]; omega) ?_
        intro t' tk'
        k_steps
        have hk1 : (due xs sz g ((cds t).take (st9 + 1))).k = 1 := by rw [hA2]; dsimp only; have := p10 hgt; omega
        have hT := due_rest (xs := xs) (sz := sz) (g := g) (t := t) (d := st9 + 1) (by omega) (.inr ⟨hk1, hgt⟩)
        rw [hT] at ret
        dsimp only at ret
        have hAk : (due xs sz g ((cds t).take (st9 + 1))).k = (due xs sz g ((cds t).take d)).k + 1 := by rw [hA2]
        (with_reducible rename News h₀ L _ rest => NR9)
        (with_reducible rename News h₀ L _ (_ :: _) => N9)
        (with_reducible rename Fr h₀ L _ _ => F9)
        (with_reducible rename (@LT.lt _ _ pl _ ∧ _) => lt9)
        have lt8 := lt9.1
        rw [hAk] at ret
        exact ret _ _ _ _ _ _ _ (by rw [cds_append, cds_join, hfl]; exact congrArg _ (cds_from (x := t) (i := st9 + 1) (by omega))) (by rw [hA2]; exact hzm) (by rw [hA2]; exact ok9) (Nat.lt_trans q1 lt8) F9 NR9 (news_cons N9 (List.Mem.head _) (news_join (news_cons N9 (List.Mem.tail _ (List.Mem.tail _ (List.Mem.tail _ (List.Mem.tail _ (List.Mem.tail _ (List.Mem.head _)))))) (news_cons N9 (List.Mem.tail _ (List.Mem.tail _ (List.Mem.tail _ (List.Mem.tail _ (List.Mem.tail _ (List.Mem.tail _ (List.Mem.head _))))))) (news_cons N9 (List.Mem.tail _ (List.Mem.tail _ (List.Mem.tail _ (List.Mem.tail _ (List.Mem.tail _ (List.Mem.tail _ (List.Mem.tail _ (List.Mem.head _)))))))) (news_cons N9 (List.Mem.tail _ (List.Mem.tail _ (List.Mem.tail _ (List.Mem.tail _ (List.Mem.tail _ (List.Mem.tail _ (List.Mem.tail _ (List.Mem.tail _ (List.Mem.head _))))))))) (news_cons N9 (List.Mem.tail _ (List.Mem.tail _ (List.Mem.tail _ (List.Mem.tail _ (List.Mem.tail _ (List.Mem.tail _ (List.Mem.tail _ (List.Mem.tail _ (List.Mem.tail _ (List.Mem.head _)))))))))) (news_cons N9 (List.Mem.tail _ (List.Mem.tail _ (List.Mem.tail _ (List.Mem.tail _ (List.Mem.tail _ (List.Mem.tail _ (List.Mem.tail _ (List.Mem.tail _ (List.Mem.tail _ (List.Mem.tail _ (List.Mem.head _))))))))))) (news_cons N9 (List.Mem.tail _ (List.Mem.tail _ (List.Mem.tail _ (List.Mem.tail _ (List.Mem.tail _ (List.Mem.tail _ (List.Mem.tail _ (List.Mem.tail _ (List.Mem.tail _ (List.Mem.tail _ (List.Mem.tail _ (List.Mem.head _)))))))))))) (news_cons N9 (List.Mem.tail _ (List.Mem.tail _ (List.Mem.tail _ (List.Mem.tail _ (List.Mem.tail _ (List.Mem.tail _ (List.Mem.tail _ (List.Mem.tail _ (List.Mem.tail _ (List.Mem.tail _ (List.Mem.tail _ (List.Mem.tail _ (List.Mem.head _))))))))))))) News.nil)))))))) (SplitTl.tl (tl := Led _) (by repeat (first | exact SplitTl.nil | apply SplitTl.cons)) N9)))
      · unfold Stop
        (with_reducible rename DictIs _ _ _ => D9)
        (with_reducible rename RaisedK _ _ _ _ _ _ _ _ => R9)
        (with_reducible rename Heap.UpToSlots _ _ => U9)
        (with_reducible rename Fr g' L' _ _ => F9)
        (with_reducible rename Ok _ _ _ => ok9)
        (with_reducible rename (most < _) => hzm)
        show wpAny (model prog w) _ (leaving _ (Value.ref _)) _ _ _
        refine wpAny_mono (later_leaves (Q := fun s => E (.ref _) s) BG F9 R9 U9 D9 ?_) (fun _ _ h => h) (fun _ _ h => h)
        intro h9 R8 U8 D8
        exact raise h9 _ _ _ _ _ _ _ _ st9 g2 hz9 (by rw [hA2]; exact hzm) (by rw [hA2]; exact ok9) FGp U8 D8 R8
end

end MSubS
section MDueS
theorem resetMDue : True := by
  w_top off
  trivial
local macro_rules | `(tactic| walk_at "none") => `(tactic| fail "none")
local macro_rules | `(tactic| k_room) => `(tactic| ktr_room)
local macro_rules | `(tactic| walk_at "subscriptTail Name Constant ref int") => `(tactic| (k_here; (with_reducible show wpAny _ _ (subscriptTail _ _ (Value.ref _) (Value.int _ _)) _ _ _); (with_unfolding_all refine' item_litK ?k1 ?k2 ?k3 ?k4 ?_ ?k6; (case k1 => is_list); (case k2 => decide); (case k3 => decide); (case k4 => rfl); (case k6 => with_unfolding_all rfl); k_whole)))
local macro_rules | `(tactic| walk_at "binaryOp Mult ref int") => `(tactic| (k_here; (with_reducible show wpAny _ _ (binaryOp Operator.Mult (Value.ref _) (Value.int _ _)) _ _ _); k_dflt (refine' KMa.mul ?F ?N ?l ?lo ?hi ?z ?e ?_; (case F => k_asm); (case N => k_asm); (case l => is_list); (case lo => decide); (case hi => decide); (case z => exact Nat.le_of_ble_eq_true rfl); (case e => exact rfl); k_whole); intro D' h' F' N' l1; (try k_lt l1); (try k_sweep)))
local macro_rules | `(tactic| walk_at "exec While") => `(tactic| (k_here; (with_reducible show wpAny _ _ (exec (Stmt.While (Expr.Constant _ _ _) _ _ _) _) _ _ _); k_dflt (refine whl_start 100 ?_)))
local macro_rules | `(tactic| walk_at "subscriptTail") => `(tactic| (k_here; (with_reducible show wpAny _ _ (subscriptTail _ _ (Value.str _ _) (Value.int _ _)) _ _ _); (refine item_ab (by assumption) (by omega) (by omega) (by omega) ?_ ?_) <;> intro _))
theorem in_strN {prog : Program} {w : World} {A : Around} {E : Value → Shared → Prop} {s : Shared} {x y : Str} {t u : Tok} {b : Bool} {Q : Value → Shared → Prop} (e : (!(Builtin.Str.occurrences x y 0 x.length 1).isEmpty) = b) (h : Q (.bool (!b)) s) : wpAny (model prog w) A (compareOp .NotIn (.str y u) (.str x t)) Q E s := PyProof.Rows.notIn_str (by rw [e]; exact h)
local macro_rules | `(tactic| walk_at "compareOp NotIn str str") => `(tactic| (k_here; refine in_strN (by with_reducible assumption) ?_))
local macro_rules | `(tactic| walk_at "exec For Name Name cons nil") => `(tactic| (k_here; (rename Fr _ _ _ _ => lF'); (with_unfolding_all refine' For_invVF lF' ?k1 ?k2 ?_; (case k1 => exact rfl); (case k2 => exact rfl); k_whole)))
local macro_rules | `(tactic| walk_at "pyIter str") => `(tactic| (k_here; (refine stop_in ?_)))
local macro_rules | `(tactic| walk_at "binaryOp Mult str int") => `(tactic| (k_here; (with_reducible show wpAny _ _ (binaryOp Operator.Mult (Value.str _ _) (Value.int _ _)) _ _ _); (refine SB.mul (mulOk_x _ (by omega) (by omega)) ?_); intro _ _))
local macro_rules | `(tactic| walk_at "subscriptTail") => `(tactic| (k_here; (with_reducible show wpAny _ _ (subscriptTail _ _ (Value.ref _) (Value.int _ _)) _ _ _); (with_reducible rename SizesAre _ _ => hZ9); (with_unfolding_all refine' item_sz ?k1 hZ9 ?k3 ?_ ?k6; (case k1 => is_list); (case k3 => omega); (case k6 => with_unfolding_all rfl); k_whole); intro _))
local macro_rules | `(tactic| walk_at "InvEndN") => `(tactic| (refine stop_in ?_))
local macro_rules | `(tactic| walk_at "binaryOp Add str str") => `(tactic| (k_here; (with_reducible show wpAny _ _ (binaryOp Operator.Add (Value.str _ _) (Value.str _ _)) _ _ _); (refine PyProof.Rows.add_str ?_ ?hsz); (case hsz => (rw [sizeLine_eq]; first | omega | (simp only [Str.length, List.size_toArray, List.length_cons, List.length_nil] at *; omega))); intro _ _))
structure DueSt where
  k : Nat
  z : Int
  x : Str
  t1 : Tok
  t2 : Tok
  t3 : Tok
section
variable {prog : Program} {w : World} {p : Program} {loose : List Str} {mean : ExcName → Option Value} {mg mb : Str → Option Value}
  {dp un : Nat} {gd : Option (List Code)} {cn : Str} {cs : Scope} {a : Addr} {ccd : Value} {cl : List (Str × Addr)} {outer : List Env} {A₀ : Around} {base h₀ : Heap} {L : Addr} {m : Str → Option Value} {s : Shared}
  {Q E : Value → Shared → Prop} {rest : List (Addr × Obj)}
  (B : Below A₀ base outer h₀) (F : Fr h₀ L s.heap m) (X : (hd.heap_39 w.params).In h₀) (T : Top p loose mean mg mb h₀) (hk : cs.kind = .function) (NR : News h₀ L s.heap rest)
include B F X T hk NR
theorem due_ok {SZ : Nat} {sv : Array Value} {nz : Nat} {sz : Nat → Int} {t fl : Str} {fG : Bool} {tt tfl tmo : Tok} {most : Int}
  (N : News h₀ L s.heap [(SZ, PySem.W.listOf sv nz)]) (hdis : ∀ b ∈ [(SZ, PySem.W.listOf sv nz)], ∀ q ∈ rest, q.1 ≠ b.1)
  (hsv : SizesAre sz sv) (h2 : t.length ≤ 8) (hm1 : 1 ≤ most) (hm2 : most ≤ 12) (hsz : ∀ i, i < 8 → 0 ≤ sz i ∧ sz i ≤ 5)
  (hfG : (!(Builtin.Str.occurrences fl (Str.ofString "g") 0 fl.length 1).isEmpty) = fG)
  (hd : dp + 10 < recursionLimit) (hu : un + 50 < cLine)
  (ret : ∀ h' tk (TP : Nat) k v tk2, DueOut sz fG most t k v → SZ < TP → Fr h₀ L h' m → News h₀ L h' rest → News h₀ L h' [(TP, tupOf [.int (k : Int) tk2, v]), (SZ, PySem.W.listOf sv nz)] → Q (.ref TP) { s with heap := h', toks := tk }) :
  wpAny (model prog w) (ktrTop dp un gd cn cs L a ccd cl outer) (call (.ref 919) [.str t tt, .int most tmo, .str fl tfl, .ref SZ]) Q E s := by
  refine wpAny_call ?_
  k_dflt (refine' code_restI NR hdis ?k1 ?k2 ?k3 N ?k5 ?kA ?kF ?kK ?k6 ?k7 ?k8 ?k9 ?kB ?_ ?c2 ?c3 ?c4 ?c5)
  case kA => exact rfl
  case kF => exact rfl
  case kK => assumption
  case k1 => k_asm
  case k2 => k_asm
  case k3 => k_asm
  case k5 => k_asm
  case k6 => k_dflt k_is
  case k7 => k_dflt k_is
  case k8 => ktr_room
  case k9 => k_dflt (first | exact BindsTo.of_eq rfl | exact binds_K (by k_in) rfl (by k_is) rfl rfl rfl)
  case c5 => decide
  case kB => exact locs rfl
  case c2 => exact rfl
  case c3 => exact rfl
  case c4 => exact rfl
  clear N
  intro g' L' h' FG' F' N' B' X' T' hL1
  (try dsimp only)
  (try k_fold)
  k_steps
  unfold Stop
  rename_i tk9 D9 hA l1a hB hC hDD hE lF9 N9
  have N8 : News g' L' hE [(SZ, PySem.W.listOf sv nz)] := fun p hp => N9 p (List.mem_cons_of_mem _ hp)
  clear N9
  refine KStt.kst_text (σ := DueSt) (fun _ => [(SZ, PySem.W.listOf sv nz)]) (fun c => [(Str.ofString "asked", Value.int (c.k : Int) c.t1), (Str.ofString "put_in", Value.int c.z c.t2), (Str.ofString "new", Value.str c.x c.t3)]) (fun _ => True) []
    (fun pre c => c.k = (due xsM sz fG (pre.map Int.toNat)).k ∧ c.z = (due xsM sz fG (pre.map Int.toNat)).z ∧ cds c.x = (due xsM sz fG (pre.map Int.toNat)).x ∧ (due xsM sz fG (pre.map Int.toNat)).z ≤ most) ⟨0, 0, Str.ofString "", tk9, tk9 + 1, tk9 + 1 + 1⟩ rfl lF9 N8 True.intro ?hk ?hp ?turn ?done
  case hk =>
    intro p hp
    rcases List.mem_cons.mp hp with rfl | hp
    · rfl
    rcases List.mem_cons.mp hp with rfl | hp
    · rfl
    rcases List.mem_cons.mp hp with rfl | hp
    · rfl
    cases hp
  case hp => exact ⟨rfl, rfl, (by show cds (Str.ofString "") = []; decide), by show (0 : Int) ≤ most; omega⟩
  case turn =>
    clear lF9 N8
    rintro ⟨k, z, x, q1, q2, q3⟩ pre post n t9 u h9 tk8 own hcod hoff - ⟨p1, p2, p3, p4⟩ F8 N8
    dsimp only at p1 p2 p3 F8 N8 ⊢
    have hlen : pre.length < t.length := by (have e := congrArg List.length hcod); rw [KStt.codes_length, List.length_append, List.length_cons] at e; omega
    have hk8 : k < 8 := by (have e := due_k_le (xs := xsM) (sz := sz) (g := fG) (pre.map Int.toNat)); rw [List.length_map] at e; omega
    obtain ⟨s1, s2⟩ := hsz k hk8
    have z0 : 0 ≤ z := by rw [p2]; exact due_z_nonneg (fun i h => (hsz i h).1) _ (by rw [List.length_map]; omega)
    have zm : z ≤ most := by rw [p2]; exact p4
    have xl : x.length ≤ 40 := by (have e := due_x_le (g := fG) hsz xsM_len (pre.map Int.toNat) (by rw [List.length_map]; omega)); rw [← p3, cds_len, List.length_map] at e; omega
    have ml : ((Txt.mul (Str.ofString "x") (sz k)).length : Int) = sz k := xsM_len _ s1 s2
    have hsn : (⟨#[n]⟩ : Str).length = 1 := rfl
    have hp9 : due xsM sz fG ((pre ++ [(n : Int)]).map Int.toNat) = dstep xsM sz fG (due xsM sz fG (pre.map Int.toNat)) n := by rw [List.map_append, ← due_snoc]; simp
    obtain ⟨tc1, tc2, -⟩ := take_codes hcod
    (try k_fold)
    k_steps
    · unfold Stop
      (with_reducible rename Fr g' L' _ _ => F9)
      (with_reducible rename News g' L' _ _ => N9)
      (with_reducible rename (_ = true) => hbb)
      have hs9 := dstep_b (xs := xsM) (sz := sz) (g := fG) (d := due xsM sz fG (pre.map Int.toNat)) (c := n) (.inl (code_b hbb))
      rw [hs9] at hp9
      refine InvEndN.intro F9 N9 ⟨⟨k, z, x ++ ⟨#[n]⟩, _, _, _⟩, rfl, True.intro, List.forall_mem_cons.mpr ⟨rfl, List.forall_mem_cons.mpr ⟨rfl, List.forall_mem_cons.mpr ⟨rfl, List.forall_mem_nil _⟩⟩⟩, (fun y h1 h2 _ => by
          have a1 := h2 _ (List.Mem.head _)
          have a2 := h2 _ (List.Mem.tail _ (List.Mem.head _))
          have a3 := h2 _ (List.Mem.tail _ (List.Mem.tail _ (List.Mem.head _)))
          dsimp only at a1 a2 a3
          simp only [h1, a1, a2, a3, if_false, kstB]
          rfl), ?_⟩ rfl (fun p hp => List.mem_append_left _ hp) (fun p hp => List.mem_append_right _ hp)
      dsimp only
      rw [hp9]
      exact ⟨p1, p2, (by dsimp only; rw [cds_append, p3]; rfl), p4⟩
    · rename_i lt9 _ _ _ _ _
      (with_reducible rename News h₀ L _ rest => NR9)
      (with_reducible rename News h₀ L _ (_ :: _) => N9)
      (with_reducible rename Fr h₀ L _ _ => F9)
      (with_reducible rename (most < _) => hnm)
      (with_reducible rename (fG = true) => hgf)
      (with_reducible rename ((_ == Str.ofString "b") = false) => hbb)
      have hs9 := dstep_a (xs := xsM) (sz := sz) (g := fG) (d := due xsM sz fG (pre.map Int.toNat)) (c := n) (fun h => h.elim (code_nb hbb) (fun h => by rw [hgf] at h; cases h.2))
      rw [hs9] at hp9
      refine ret _ _ _ (k + 1) _ _ (.inl ⟨.inl ⟨pre.length, hlen, by rw [tc1]; exact p4, ?_, ?_⟩, rfl⟩) (lt9 _ (List.Mem.head _)) F9 NR9 (news_cons N9 (List.Mem.head _) (news_cons N9 (List.Mem.tail _ (List.Mem.head _)) News.nil))
      · rw [tc2, due_snoc, hs9]; dsimp only; rw [← p2, ← p1]; exact hnm
      · rw [tc2, due_snoc, hs9]; dsimp only; rw [p1]
    · unfold Stop
      (with_reducible rename Fr g' L' _ _ => F9)
      (with_reducible rename News g' L' _ _ => N9)
      (with_reducible rename (fG = true) => hgf)
      (with_reducible rename ((_ == Str.ofString "b") = false) => hbb)
      have hs9 := dstep_a (xs := xsM) (sz := sz) (g := fG) (d := due xsM sz fG (pre.map Int.toNat)) (c := n) (fun h => h.elim (code_nb hbb) (fun h => by rw [hgf] at h; cases h.2))
      rw [hs9] at hp9
      refine InvEndN.intro F9 N9 ⟨⟨k + 1, z + sz k, x ++ Txt.mul (Str.ofString "x") (sz k), _, _, _⟩, rfl, True.intro, List.forall_mem_cons.mpr ⟨rfl, List.forall_mem_cons.mpr ⟨rfl, List.forall_mem_cons.mpr ⟨rfl, List.forall_mem_nil _⟩⟩⟩, (fun y h1 h2 _ => by
          have a1 := h2 _ (List.Mem.head _)
          have a2 := h2 _ (List.Mem.tail _ (List.Mem.head _))
          have a3 := h2 _ (List.Mem.tail _ (List.Mem.tail _ (List.Mem.head _)))
          dsimp only at a1 a2 a3
          simp only [h1, a1, a2, a3, if_false, kstB]
          rfl), ?_⟩ rfl (fun p hp => List.mem_append_left _ hp) (fun p hp => List.mem_append_right _ hp)
      dsimp only
      rw [hp9]
      (with_reducible rename (¬ most < _) => hnm)
      refine ⟨(by dsimp only; rw [p1]), (by dsimp only; rw [p2, p1]), (by dsimp only; rw [cds_append, p3, p1]; rfl), ?_⟩
      dsimp only
      rw [← p2, ← p1]
      omega
    · unfold Stop
      (with_reducible rename Fr g' L' _ _ => F9)
      (with_reducible rename News g' L' _ _ => N9)
      (with_reducible rename (fG = false) => hgf)
      (with_reducible rename ((k : Int) = 1) => hk1)
      have hs9 := dstep_b (xs := xsM) (sz := sz) (g := fG) (d := due xsM sz fG (pre.map Int.toNat)) (c := n) (.inr ⟨by omega, hgf⟩)
      rw [hs9] at hp9
      refine InvEndN.intro F9 N9 ⟨⟨k, z, x ++ ⟨#[n]⟩, _, _, _⟩, rfl, True.intro, List.forall_mem_cons.mpr ⟨rfl, List.forall_mem_cons.mpr ⟨rfl, List.forall_mem_cons.mpr ⟨rfl, List.forall_mem_nil _⟩⟩⟩, (fun y h1 h2 _ => by
          have a1 := h2 _ (List.Mem.head _)
          have a2 := h2 _ (List.Mem.tail _ (List.Mem.head _))
          have a3 := h2 _ (List.Mem.tail _ (List.Mem.tail _ (List.Mem.head _)))
          dsimp only at a1 a2 a3
          simp only [h1, a1, a2, a3, if_false, kstB]
          rfl), ?_⟩ rfl (fun p hp => List.mem_append_left _ hp) (fun p hp => List.mem_append_right _ hp)
      dsimp only
      rw [hp9]
      exact ⟨p1, p2, (by dsimp only; rw [cds_append, p3]; rfl), p4⟩
    · rename_i lt9 _ _ _ _ _
      (with_reducible rename News h₀ L _ rest => NR9)
      (with_reducible rename News h₀ L _ (_ :: _) => N9)
      (with_reducible rename Fr h₀ L _ _ => F9)
      (with_reducible rename (most < _) => hnm)
      (with_reducible rename ((k : Int) ≠ 1) => hk1)
      (with_reducible rename ((_ == Str.ofString "b") = false) => hbb)
      have hs9 := dstep_a (xs := xsM) (sz := sz) (g := fG) (d := due xsM sz fG (pre.map Int.toNat)) (c := n) (fun h => h.elim (code_nb hbb) (fun h => by omega))
      rw [hs9] at hp9
      refine ret _ _ _ (k + 1) _ _ (.inl ⟨.inl ⟨pre.length, hlen, by rw [tc1]; exact p4, ?_, ?_⟩, rfl⟩) (lt9 _ (List.Mem.head _)) F9 NR9 (news_cons N9 (List.Mem.head _) (news_cons N9 (List.Mem.tail _ (List.Mem.head _)) News.nil))
      · rw [tc2, due_snoc, hs9]; dsimp only; rw [← p2, ← p1]; exact hnm
      · rw [tc2, due_snoc, hs9]; dsimp only; rw [p1]
    · unfold Stop
      (with_reducible rename Fr g' L' _ _ => F9)
      (with_reducible rename News g' L' _ _ => N9)
      (with_reducible rename ((k : Int) ≠ 1) => hk1)
      (with_reducible rename ((_ == Str.ofString "b") = false) => hbb)
      have hs9 := dstep_a (xs := xsM) (sz := sz) (g := fG) (d := due xsM sz fG (pre.map Int.toNat)) (c := n) (fun h => h.elim (code_nb hbb) (fun h => by omega))
      rw [hs9] at hp9
      refine InvEndN.intro F9 N9 ⟨⟨k + 1, z + sz k, x ++ Txt.mul (Str.ofString "x") (sz k), _, _, _⟩, rfl, True.intro, List.forall_mem_cons.mpr ⟨rfl, List.forall_mem_cons.mpr ⟨rfl, List.forall_mem_cons.mpr ⟨rfl, List.forall_mem_nil _⟩⟩⟩, (fun y h1 h2 _ => by
          have a1 := h2 _ (List.Mem.head _)
          have a2 := h2 _ (List.Mem.tail _ (List.Mem.head _))
          have a3 := h2 _ (List.Mem.tail _ (List.Mem.tail _ (List.Mem.head _)))
          dsimp only at a1 a2 a3
          simp only [h1, a1, a2, a3, if_false, kstB]
          rfl), ?_⟩ rfl (fun p hp => List.mem_append_left _ hp) (fun p hp => List.mem_append_right _ hp)
      dsimp only
      rw [hp9]
      (with_reducible rename (¬ most < _) => hnm)
      refine ⟨(by dsimp only; rw [p1]), (by dsimp only; rw [p2, p1]), (by dsimp only; rw [cds_append, p3, p1]; rfl), ?_⟩
      dsimp only
      rw [← p2, ← p1]
      omega
  case done =>
    clear lF9 N8
    rintro ⟨k, z, x, q1, q2, q3⟩ u h9 tk8 - ⟨p1, p2, p3, p4⟩ F8 N8
    dsimp only at p1 p2 p3 F8 N8 ⊢
    have xl : x.length ≤ 40 := by (have e := due_x_le (g := fG) hsz xsM_len ((KStt.codes t).map Int.toNat) (by rw [List.length_map, KStt.codes_length]; omega)); rw [← p3, cds_len, List.length_map, KStt.codes_length] at e; omega
    (try k_fold)
    k_steps
    · (with_reducible rename News h₀ L _ rest => NR9)
      (with_reducible rename News h₀ L _ (_ :: _) => N9)
      (with_reducible rename Fr h₀ L _ _ => F9)
      (rename (@LT.lt _ _ SZ _) => lt9)
      (with_reducible rename (_ ≤ most) => hm9)
      rw [codes_map] at p1 p2 p3 p4
      exact ret _ _ _ k _ _ (.inr ⟨p4, by rw [← p3, cds_len]; exact hm9, p1, _, _, rfl, p3⟩) lt9 F9 NR9 (news_cons N9 (List.Mem.head _) (news_cons N9 (List.Mem.tail _ (List.Mem.head _)) News.nil))
    · (with_reducible rename News h₀ L _ rest => NR9)
      (with_reducible rename News h₀ L _ (_ :: _) => N9)
      (with_reducible rename Fr h₀ L _ _ => F9)
      (rename (@LT.lt _ _ SZ _) => lt9)
      (with_reducible rename (¬ _ ≤ most) => hm9)
      rw [codes_map] at p1 p2 p3 p4
      exact ret _ _ _ k _ _ (.inl ⟨.inr ⟨p4, by rw [← p3, cds_len]; omega, p1⟩, rfl⟩) lt9 F9 NR9 (news_cons N9 (List.Mem.head _) (news_cons N9 (List.Mem.tail _ (List.Mem.head _)) News.nil))
end

end MDueS
section MRep2S
theorem resetMRep2 : True := by
  w_top off
  trivial
local macro_rules | `(tactic| k_room) => `(tactic| ktr_room)
local macro_rules | `(tactic| walk_at "subscriptTail Name Constant ref int") => `(tactic| (k_here; (with_reducible show wpAny _ _ (subscriptTail _ _ (Value.ref _) (Value.int _ _)) _ _ _); (with_unfolding_all refine' item_litK ?k1 ?k2 ?k3 ?k4 ?_ ?k6; (case k1 => is_list); (case k2 => decide); (case k3 => decide); (case k4 => rfl); (case k6 => with_unfolding_all rfl); k_whole)))
local macro_rules | `(tactic| walk_at "binaryOp Mult ref int") => `(tactic| (k_here; (with_reducible show wpAny _ _ (binaryOp Operator.Mult (Value.ref _) (Value.int _ _)) _ _ _); k_dflt (refine' KMa.mul ?F ?N ?l ?lo ?hi ?z ?e ?_; (case F => k_asm); (case N => k_asm); (case l => is_list); (case lo => decide); (case hi => decide); (case z => exact Nat.le_of_ble_eq_true rfl); (case e => exact rfl); k_whole); intro D' h' F' N' l1; (try k_lt l1); (try k_sweep)))
local macro_rules | `(tactic| walk_at "exec While") => `(tactic| (k_here; (with_reducible show wpAny _ _ (exec (Stmt.While (Expr.Constant _ _ _) _ _ _) _) _ _ _); k_dflt (refine whl_start 100 ?_)))
local macro_rules | `(tactic| walk_at "subscriptTail") => `(tactic| (k_here; (with_reducible show wpAny _ _ (subscriptTail _ _ (Value.str _ _) (Value.int _ _)) _ _ _); (refine item_ab (by assumption) (by omega) (by omega) (by omega) ?_ ?_) <;> intro _))
local macro_rules | `(tactic| k_all) => `(tactic| exact OwnBelow.ne (by with_reducible assumption) (by (try dsimp only); omega))
local macro_rules | `(tactic| walk_at "getMethod ref") => `(tactic| (k_here; (with_reducible show wpAny _ _ (getMethod (Value.ref _) _ _) _ _ _); (with_reducible rename PatObj _ _ _ _ _ => hP9); k_dflt (refine' pat_method ?k ?N ?p hP9 ?_; (case N => k_asm); (case p => k_mem); (case k => exact pat_key (by k_asm) (by k_asm) (by rfl)); k_whole)))
local macro_rules | `(tactic| walk_at "call builtin:dict.get") => `(tactic| (k_here; (with_reducible show wpAny _ _ (call (Value.builtin "dict.get") [Value.ref _, Value.ref _]) _ _ _); (with_reducible rename PatObj _ _ _ _ _ => hP9); k_dflt (refine' pat_get ?u ?k ?N ?p hP9 ?s ?_; (case N => k_asm); (case p => k_mem); (case k => exact pat_key (by k_asm) (by k_asm) (by rfl)); (case u => ktr_units); (case s => with_reducible assumption); k_whole)))
local macro_rules | `(tactic| walk_at "setItem ref ref") => `(tactic| (k_here; (with_reducible rename PatObj _ _ _ _ _ => hP9); k_dflt (refine' pat_set ?u ?k ?F ?N ?U hP9 ?_; (case F => k_asm); (case N => k_asm); (case U => k_updF); (case k => exact pat_key (by k_asm) (by k_asm) (by rfl)); (case u => ktr_units); k_whole); intro h' o' F' N' P'; (try k_sweep)))
local macro_rules | `(tactic| walk_at "call ref") => `(tactic| (k_here; (with_reducible show wpAny _ _ (call (Value.ref _) []) _ _ _); (with_reducible rename ReplSpec _ _ _ _ _ _ _ _ _ _ _ _ => hR9); (with_reducible rename News _ _ _ (_ :: _) => N9); k_dflt (refine' hR9 ?B ?F ?X ?T ?hk (SplitTl.pre ?S N9) (SplitTl.tl ?S N9) ?dis ?pr ?k8 ?hd ?hu ?_; (case B => k_asm); (case F => k_asm); (case X => k_asm); (case T => k_asm); (case hk => exact rfl); (case S => (repeat (first | exact SplitTl.nil | apply SplitTl.cons))); (case dis => (refine dis_of ?_; (repeat' first | exact List.forall_mem_nil _ | refine List.forall_mem_cons.mpr ⟨?_, ?_⟩ | ((try dsimp only); k_all)))); (case pr => with_reducible assumption); (case k8 => omega); (case hd => ktr_room); (case hu => ktr_units)); intro h' tk' r' tx' P' F' NR' N'; (have hO8 := OffAll.at (by with_reducible assumption) r'); (have hB8 := BelAll.at (by with_reducible assumption) r'); (replace N' := news_join NR' N'); clear NR'; (try simp only [List.cons_append, List.nil_append] at N'); (try k_sweep)))
local macro_rules | `(tactic| walk_at "exec Raise some none") => `(tactic| (k_here; (refine raise_die rfl ?_)))
local macro_rules | `(tactic| walk_at "call ref") => `(tactic| (k_here; (with_reducible show wpAny _ _ (call (Value.ref 532) _) _ _ _); (with_reducible rename News _ _ _ (_ :: _) => N9); k_dflt (refine' die_ok ?B ?F ?X ?T ?hk N9 ?hd ?hu ?_; (case B => k_asm); (case F => k_asm); (case X => k_asm); (case T => k_asm); (case hk => exact rfl); (case hd => ktr_room); (case hu => ktr_units)); intro e' t' D' h' tk' kt' F' NR' N' lt' n1' n2' n3'; refine stop_in ?_))
local macro_rules | `(tactic| walk_at "callWith ref") => `(tactic| (k_here; (with_reducible show wpAny _ _ (callWith _ (Value.ref _) _ (backTo _ (starEach [] _)) []) _ _ _); (with_reducible rename FnAll _ _ => hF9); (with_reducible rename News _ _ _ (_ :: _) => N9); k_dflt (refine' callWith_F0 (FnAll.at hF9 N9 ?S) ?_; (case S => (repeat (first | exact SplitTl.nil | apply SplitTl.cons))); k_whole; (try dsimp only [List.nil_append, List.cons_append]))))
local macro_rules | `(tactic| walk_at "call ref") => `(tactic| (k_here; (with_reducible show wpAny _ _ (call (Value.ref 834) _) _ _ _); (refine stop_in ?_)))
local macro_rules | `(tactic| walk_at "call builtin:dict.pop") => `(tactic| (k_here; (with_reducible show wpAny _ _ (call (Value.builtin "dict.pop") [Value.ref _, Value.int _ _, Value.none]) _ _ _); k_dflt (refine' pop_none ?N ?p ?d ?l ?_; (case N => k_asm); (case p => k_mem); (case d => with_reducible assumption); (case l => with_reducible assumption); k_whole)))
local macro_rules | `(tactic| walk_at "compareOp In str str") => `(tactic| (k_here; refine in_strG (by with_reducible assumption) ?_))
theorem off_of {ρ : Type} {Led : ρ → List (Addr × Obj)} {adr : List Addr} {b : Addr} (h : OffAll Led adr) (hb : b ∈ adr) : ∀ r, ∀ p ∈ Led r, p.1 ≠ b := fun r p hp => h r p hp b hb
theorem led_open {ρ : Type} {Led LedQ : ρ → List (Addr × Obj)} {x : Addr × Obj} (e : LedQ = fun r => x :: Led r) (r : ρ) : LedQ r = x :: Led r := congrFun e r
theorem fn_more {ρ : Type} {Led LedQ : ρ → List (Addr × Obj)} {x : Addr × Obj} {f : Nat} (h : FnAll f Led) (e : LedQ = fun r => x :: Led r) : FnAll f LedQ := by
  subst e
  exact fun r => let ⟨a, b, c, d, q⟩ := h r; ⟨a, b, c, d, List.Mem.tail _ q⟩
theorem bel_more {ρ : Type} {Led LedQ : ρ → List (Addr × Obj)} {x : Addr × Obj} {b : Nat} (h : BelAll Led b) (e : LedQ = fun r => x :: Led r) (hx : @LT.lt Nat _ x.1 b) : BelAll LedQ b := by
  subst e
  exact fun r p hp => (List.mem_cons.mp hp).elim (fun q => by rw [q]; exact hx) (h r p)
theorem off_more {ρ : Type} {Led LedQ : ρ → List (Addr × Obj)} {x : Addr × Obj} {adr : List Addr} {b : Addr} (h : OffAll Led (adr ++ [b])) (e : LedQ = fun r => x :: Led r) (hx : ∀ a ∈ adr, x.1 ≠ a) : OffAll LedQ adr := by
  subst e
  exact fun r p hp a ha => (List.mem_cons.mp hp).elim (fun q => by rw [q]; exact hx a ha) (fun q => h r p q a (List.mem_append_left _ ha))
theorem repl_more {prog : Program} {w : World} {p : Program} {loose : List Str} {mean : ExcName → Option Value} {mg mb : Str → Option Value} {xs : Int → Str} {sz : Nat → Int} {RF : Nat} {ρ : Type} {Led LedQ : ρ → List (Addr × Obj)} {PR : Nat → ρ → Prop} {x : Addr × Obj}
    (h : ReplSpec prog w p loose mean mg mb xs sz RF Led PR) (ho : ∀ r, ∀ p ∈ Led r, p.1 ≠ x.1) (e : LedQ = fun r => x :: Led r) : ReplSpec prog w p loose mean mg mb xs sz RF LedQ PR := by
  subst e
  intro dp un gd cn cs a ccd cl outer A₀ base h₀ L m s Q E rest k r B F X T hk NR N hdis hP hk8 hd hu ret
  refine h (rest := x :: rest) B F X T hk (news_cons N (List.Mem.head _) NR) (fun p hp => N p (List.Mem.tail _ hp)) (fun b hb q hq => ?_) hP hk8 hd hu (fun h' tk r' tx hP' F' NR' N' => ?_)
  · rcases List.mem_cons.mp hq with rfl | hq
    · exact fun z => ho r b hb z.symm
    · exact hdis b (List.Mem.tail _ hb) q hq
  · exact ret h' tk r' tx hP' F' (fun p hp => NR' p (List.Mem.tail _ hp)) (news_cons NR' (List.Mem.head _) N')
section
variable {prog : Program} {w : World} {p : Program} {loose : List Str} {mean : ExcName → Option Value} {mg mb : Str → Option Value}
  {dp un : Nat} {gd : Option (List Code)} {cn : Str} {cs : Scope} {a : Addr} {ccd : Value} {cl : List (Str × Addr)} {outer : List Env} {A₀ : Around} {base h₀ : Heap} {L : Addr} {m : Str → Option Value} {s : Shared}
  {Q E : Value → Shared → Prop} {rest : List (Addr × Obj)}
  (B : Below A₀ base outer h₀) (F : Fr h₀ L s.heap m) (X : (hd.heap_39 w.params).In h₀) (T : Top p loose mean mg mb h₀) (hk : cs.kind = .function) (NR : News h₀ L s.heap rest)
include B F X T hk NR
theorem rep_ok {ρ : Type} {LedR : ρ → List (Addr × Obj)} {PR : Nat → ρ → Prop} {xs : Int → Str} {sz : Nat → Int} {r0 : ρ} {RF RN RNd CT CTd PL EM SC SCd SV PT P Pd RL T1 T2 LM LMd : Nat} {rt ct st pt lt : Nat → Tok} {t fl : Str} {fG fR : Bool} {tt tm tmo tnum t1 t2 t3 t4 t5 tfl : Tok} {vheap v2 v4 v5 v6 v7 v8 v9 v10 v12 v15 v16 v17 v18 vdes c1 c2 c3 c4 c5 vn vw vd vi : Value} {oPL oEM oPT : Obj} {num most : Int} {nr nsv : Nat}
  (hFn : FnAll RF LedR) (hRep : ReplSpec prog w p loose mean mg mb xs sz RF LedR PR) (hPR : PR 0 r0)
  (N : News h₀ L s.heap ([(RN, instObj 858 RNd), (RNd, runD w rt vheap (.ref CT) v2 (.ref LM) v4 v5 v6 v7 v8 v9 v10 (.ref SV) v12 .none (.ref PT) v15 v16 v17 v18), (CT, instObj 356 CTd), (CTd, cntD w ct vheap vdes (.ref PL) (.ref EM)), (PL, oPL), (EM, oEM),
    (SC, instObj 66 SCd), (SCd, scaD w st (.int num tnum) c1 c2 c3 c4 c5 (.str t tt) .none), (SV, PySem.W.listOf [].toArray nsv), (PT, oPT),
    (P, instObj 901 Pd), (Pd, progD w pt (.ref RL) (.int 0 t1) (.int 0 t2) vn),
    (RL, PySem.W.listOf [.ref T1, .ref T2].toArray nr), (T1, tupOf [.str (Str.ofString "sign") t3, .str (Str.ofString "a") t4, .bool false]), (T2, tupOf [.str (Str.ofString "end") t5]),
    (LM, instObj 880 LMd), (LMd, limD w lt vw vd (.int 1000000 tm) (.int most tmo) vi), (836, tabObj #[])] ++ LedR r0))
  (hdis : ∀ b ∈ [RN, RNd, CT, CTd, PL, EM, SC, SCd, SV, PT, P, Pd, RL, T1, T2, LM, LMd, 836], ∀ q ∈ rest, q.1 ≠ b) (hC : CodeHd h₀ 840 836)
  (hOff : OffAll LedR [RN, RNd, CT, CTd, PL, EM, SC, SCd, SV, PT, P, Pd, RL, T1, T2, LM, LMd, 836]) (hBel : BelAll LedR P)
  (hPL : oPL.IsDictOf (PySem.intKind prog w) []) (hEM : oEM.IsDictOf (PySem.intKind prog w) []) (hPT : oPT.IsDictOf (PySem.strKind prog w) [])
  (sPL : ((PL : Addr) == sysModules) = false) (sEM : ((EM : Addr) == sysModules) = false) (sPT : ((PT : Addr) == sysModules) = false)
  (l0 : 836 < LMd) (l1 : LMd < LM) (la : LM < CTd) (lb : CTd < CT) (lc : CT < PL) (ld : PL < EM) (le : EM < RNd) (lf : RNd < RN) (lg : RN < SV) (lh : SV < PT) (li : PT < SCd) (lj : SCd < SC) (lk : SC < T1) (l3 : T1 < T2) (l4 : T2 < RL) (l5 : RL < Pd) (l6 : Pd < P)
  (h2 : t.length ≤ 8) (hx : AB t) (hm1 : 1 ≤ most) (hm2 : most ≤ 12) (hn1 : 0 ≤ num) (hn2 : num ≤ 1000)
  (hsz : ∀ i, i < 8 → 0 ≤ sz i ∧ sz i ≤ 5) (hxs : ∀ n, 0 ≤ n → n ≤ 5 → ((xs n).length : Int) = n)
  (hfG : (!(Builtin.Str.occurrences fl (Str.ofString "g") 0 fl.length 1).isEmpty) = fG) (hfR : (!(Builtin.Str.occurrences fl (Str.ofString "r") 0 fl.length 1).isEmpty) = fR)
    (ret : ∀ h' tk r' v x' tx st' ps, RepOut xs sz fG fR t v x' → (due xs sz fG (cds t)).z ≤ most → ((due xs sz fG (cds t)).x.length : Int) ≤ most → PR (due xs sz fG (cds t)).k r' → Fr h₀ L h' m →
    News h₀ L h' ([(SC, instObj 66 SCd), (SCd, scaD w st' (.int num tnum) c1 c2 c3 c4 c5 (.str x' tx) .none)] ++ (836, tabObj ps) :: LedR r') → Q v { s with heap := h', toks := tk })
  (raise : ∀ h' tk r' e t' vs D g' dt k ps, RepDie xs sz fG most t k → PR k r' → Fr h₀ L g' m → g'.UpToSlots h' → DictIs e D h' →
    RaisedK base (envX cn cs L a ccd cl :: outer) e (.ref 532) t' vs ((D, dieD w dt) :: ([(SC, instObj 66 SCd), (SCd, scaD w st (.int num tnum) c1 c2 c3 c4 c5 (.str t tt) .none)] ++ (836, tabObj ps) :: LedR r')) h' → E (.ref e) { s with heap := h', toks := tk })
  (hd : dp + 70 < recursionLimit) (hu : un + 450 < cLine) :
  wpAny (model prog w) (ktrTop dp un gd cn cs L a ccd cl outer) (call (.ref 841) [.ref RN, .ref SC, .ref P, .str fl tfl, .ref RF]) Q E s := by
  have hOff0 := hOff r0
  have hBel0 := hBel r0
  simp only [List.cons_append, List.nil_append] at N
  refine wpAny_call ?_
  k_dflt (refine' code_restC ?k1 ?k2 ?k3 ?k4 ?k5 ?kA ?kF ?kK ?k6 ?k7 ?k8 ?k9 ?kB ?kN ?_ ?c2 ?c3 ?c4)
  case kA => exact rfl
  case kF => exact rfl
  case kK => assumption
  case k1 => k_asm
  case k2 => k_asm
  case k3 => k_asm
  case k4 => exact N
  case k5 => k_asm
  case k6 => k_dflt k_is
  case k7 => k_dflt k_is
  case k8 => ktr_room
  case k9 => k_dflt (first | exact BindsTo.of_eq rfl | exact binds_K (by k_in) rfl (by k_is) rfl rfl rfl)
  case kB => exact rfl
  case kN => decide +kernel
  case c2 => exact rfl
  case c3 => exact rfl
  case c4 => exact rfl
  clear N
  intro g' L' h' tk' cells' FG' F' N' Y' B' X' T' st' l1'
  k_lt l1'
  obtain ⟨oc1, oc2, oc3, oc4, oc5, oc6, hE', dc1, dc2, dc3, dc4, dc5, dc6⟩ := cells_six Y'
  subst hE'
  clear Y'
  have hC' : CodeHd g' 840 836 := hC.keeps st'
  (try simp only [List.cons_append, List.nil_append] at N')
  (try dsimp only)
  (try k_fold)
  k_steps
  unfold Stop
  rename_i o6 d6 tkA hA o4 d4 tkB l' hB l1a hC o5 d5 tkD f' c' oc' vs' tq ct' dc' hE tkE d1' d2' l1b l2b h5 F5 N5 g5 L5 h6 FG5 F6 N6 B6 X6 T6 kF kN Tc5 kX5
  obtain ⟨oF, eF, kN'⟩ := news_eqHead kN
  have m1 : @LT.lt Nat _ P L' := by omega
  have m2 : @LT.lt Nat _ (L' + 1 + 1 + 1 + 1 + 1 + 1) l' := l1a.1
  have m3 : @LT.lt Nat _ l' c' := l1b.1
  have m4 : @LT.lt Nat _ c' f' := l2b
  have dd4 : oc4.data = Data.cell (some (.ref RF)) := dc4
  have dd5 : oc5.data = Data.cell (some (.ref P)) := dc5
  have dd6 : oc6.data = Data.cell (some (.ref RN)) := dc6
  clear F5 N5 FG5 F6 N6 kN B6 X6 T6 dc1 dc2 dc3 dc4 dc5 dc6
  obtain ⟨psT, hT⟩ : ∃ psT, News g' L' h6 [(836, tabObj psT)] := ⟨_, news_cons kN' (List.Mem.tail _ (List.Mem.tail _ (List.Mem.tail _ (List.Mem.tail _ (List.Mem.tail _ (List.Mem.tail _ (List.Mem.tail _ (List.Mem.tail _ (List.Mem.tail _ (List.Mem.tail _ (List.Mem.tail _ (List.Mem.tail _ (List.Mem.tail _ (List.Mem.tail _ (List.Mem.tail _ (List.Mem.tail _ (List.Mem.tail _ (List.Mem.tail _ (List.Mem.tail _ (List.Mem.tail _ (List.Mem.tail _ (List.Mem.tail _ (List.Mem.tail _ (List.Mem.tail _ (List.Mem.tail _ (List.Mem.tail _ (List.Mem.head _))))))))))))))))))))))))))) News.nil⟩
  have hTail : News g' L' h6 (LedR r0) := SplitTl.tl (tl := LedR r0) (by repeat (first | exact SplitTl.nil | apply SplitTl.cons)) kN'
  obtain ⟨LedQ, eQ⟩ : ∃ LedQ : ρ → List (Addr × Obj), LedQ = fun r => (836, tabObj psT) :: LedR r := ⟨_, rfl⟩
  have hFnQ : FnAll RF LedQ := fn_more hFn eQ
  have hRepQ : ReplSpec prog w p loose mean mg mb xs sz RF LedQ PR := repl_more hRep (off_of hOff (by k_memK)) eQ
  have hOffQ : OffAll LedQ [RN, RNd, CT, CTd, PL, EM, SC, SCd, SV, PT, P, Pd, RL, T1, T2, LM, LMd] := by
    refine off_more (b := 836) hOff eQ ?_
    (repeat' first | exact List.forall_mem_nil _ | refine List.forall_mem_cons.mpr ⟨?_, ?_⟩ | (refine neN ?_; (try dsimp only); omega))
  have hBelQ : BelAll LedQ P := bel_more hBel eQ (by omega)
  have hTailQ : News g' L' h6 (LedQ r0) := by
    rw [led_open eQ r0]
    exact news_cons hT (List.Mem.head _) hTail
  clear hT hTail hFn hRep hOff hBel hOff0 hBel0
  have hOff0 := OffAll.at hOffQ r0
  have hBel0 := BelAll.at hBelQ r0
  have hput : PutSpec prog w p loose mean mg mb xs sz most f' [(LM, instObj 880 LMd), (LMd, limD w lt vw vd (.int 1000000 tm) (.int most tmo) vi), (f', oF)] (fun c : PutSt ρ => [(c', oc'), (l', PySem.W.listOf [.int c.z c.tz].toArray c.ni), (L' + 1 + 1 + 1 + 1 + 1 + 1, o6), (L' + 1 + 1 + 1 + 1 + 1, o5), (L' + 1 + 1 + 1 + 1, o4), (L' + 1 + 1 + 1, oc4), (L' + 1 + 1, oc5), (L' + 1, oc6), (RN, instObj 858 RNd), (RNd, runD w c.rt vheap (.ref CT) v2 (.ref LM) v4 v5 v6 v7 v8 v9 v10 (.ref SV) v12 c.vm (.ref PT) v15 v16 v17 v18), (SV, PySem.W.listOf c.sv.toArray c.nsv), (PT, c.oPT), (SC, instObj 66 SCd), (SCd, scaD w st (.int num tnum) c1 c2 c3 c4 c5 (.str t tt) .none)] ++ LedQ c.r) (fun k z c => c.z = z ∧ SavedAs prog w k c.vm c.sv c.oPT ∧ PR k c.r) := by
    clear kN' kF B' X' T' FG' F B X T NR Tc5 kX5
    (try clear l1' l1a l1b l2b)
    intro dp un gd cn cs a ccd cl outer A₀ base h₀ L m s Q E rest k z c G B F X T hk NR N hdis hOk hk8 hz0 hz1 hd hu ret raise
    obtain ⟨z', tz, ni, rt, vm, sv, nsv, oPT, r⟩ := c
    obtain ⟨hz, hS, hP⟩ := hOk
    dsimp only at N hdis hz hS hP
    subst hz
    subst eF
    have hO1 := OffAll.at hOffQ r
    have hB1 := BelAll.at hBelQ r
    have hs1 := hsz k hk8
    have hs2 := hxs (sz k) hs1.1 hs1.2
    simp only [List.cons_append, List.nil_append] at N
    refine wpAny_call ?_
    k_dflt (refine' codeX_rest NR hdis ?k1 ?k2 ?k3 N ?k5 ?kA ?kF ?kK ?k6 ?k7 ?kc ?k8 ?k9 ?kB ?_ ?c2 ?c3 ?c4 ?c5)
    case kA => exact rfl
    case kF => exact rfl
    case kK => assumption
    case k1 => k_asm
    case k2 => k_asm
    case k3 => k_asm
    case k5 => k_asm
    case k6 => exact (N (f', _) (List.Mem.tail _ (List.Mem.tail _ (List.Mem.head _)))).1
    case k7 => exact rfl
    case kc => exact codeRec_news N (List.Mem.tail _ (List.Mem.tail _ (List.Mem.tail _ (List.Mem.head _)))) d1' d2'
    case k8 => ktr_room
    case k9 => exact BindsTo.of_eq rfl
    case c5 => decide
    case kB => exact locs rfl
    case c2 => exact rfl
    case c3 => exact rfl
    case c4 => exact rfl
    clear N
    intro g1 L1 h1 FG' F' N' B' X' T' hL1
    have BG := B'
    have XG := X'
    have FGp := FG'
    simp only [List.cons_append, List.nil_append] at N'
    (try dsimp only)
    (try k_fold)
    rcases hS with ⟨hk0, hsv, hvm, hPat⟩ | ⟨hk0, ⟨x0, hsv⟩, v0, hPat⟩
    · subst hsv
      subst hvm
      k_steps
      · skip
        unfold Stop
        (with_reducible rename News g1 L1 _ [(_, _), (_, _), (_, _)] => N3)
        (with_reducible rename News g1 L1 _ (_ :: _ :: _ :: _ :: _ :: _) => N9)
        (with_reducible rename Fr g1 L1 _ _ => F9)
        (with_reducible rename (∀ q ∈ _, _ ∧ _ ∧ _) => lt9)
        (with_reducible rename (most < _) => ha9)
        (rename_i n1 n2 n3)
        have ha8 : most < z' + ((xs (sz k)).length : Int) := ha9
        rw [hs2] at ha8
        refine ⟨_, _, some _, rfl, XG.keeps F9.keep, (N3 _ (List.Mem.head _)).1, ?_⟩
        show wpAny (model prog w) _ (leaving _ (Value.ref _)) _ _ _
        refine wpAny_mono (first_leaves (Q := fun s => E (.ref _) s) BG F9 (news_join (news_cons N9 (List.Mem.tail _ (List.Mem.tail _ (List.Mem.tail _ (List.Mem.tail _ (List.Mem.tail _ (List.Mem.head _)))))) (news_cons N9 (List.Mem.tail _ (List.Mem.tail _ (List.Mem.tail _ (List.Mem.tail _ (List.Mem.tail _ (List.Mem.tail _ (List.Mem.head _))))))) (news_cons N9 (List.Mem.tail _ (List.Mem.tail _ (List.Mem.tail _ (List.Mem.tail _ (List.Mem.tail _ (List.Mem.tail _ (List.Mem.tail _ (List.Mem.head _)))))))) (news_cons N9 (List.Mem.tail _ (List.Mem.tail _ (List.Mem.tail _ (List.Mem.tail _ (List.Mem.tail _ (List.Mem.tail _ (List.Mem.tail _ (List.Mem.tail _ (List.Mem.head _))))))))) (news_cons N9 (List.Mem.tail _ (List.Mem.tail _ (List.Mem.tail _ (List.Mem.tail _ (List.Mem.tail _ (List.Mem.tail _ (List.Mem.tail _ (List.Mem.tail _ (List.Mem.tail _ (List.Mem.head _)))))))))) (news_cons N9 (List.Mem.tail _ (List.Mem.tail _ (List.Mem.tail _ (List.Mem.tail _ (List.Mem.tail _ (List.Mem.tail _ (List.Mem.tail _ (List.Mem.tail _ (List.Mem.tail _ (List.Mem.tail _ (List.Mem.head _))))))))))) (news_cons N9 (List.Mem.tail _ (List.Mem.tail _ (List.Mem.tail _ (List.Mem.tail _ (List.Mem.tail _ (List.Mem.tail _ (List.Mem.tail _ (List.Mem.tail _ (List.Mem.tail _ (List.Mem.tail _ (List.Mem.tail _ (List.Mem.head _)))))))))))) (news_cons N9 (List.Mem.tail _ (List.Mem.tail _ (List.Mem.tail _ (List.Mem.tail _ (List.Mem.tail _ (List.Mem.tail _ (List.Mem.tail _ (List.Mem.tail _ (List.Mem.tail _ (List.Mem.tail _ (List.Mem.tail _ (List.Mem.tail _ (List.Mem.head _))))))))))))) (news_cons N9 (List.Mem.tail _ (List.Mem.tail _ (List.Mem.tail _ (List.Mem.tail _ (List.Mem.tail _ (List.Mem.tail _ (List.Mem.tail _ (List.Mem.tail _ (List.Mem.tail _ (List.Mem.tail _ (List.Mem.tail _ (List.Mem.tail _ (List.Mem.tail _ (List.Mem.head _)))))))))))))) (news_cons N9 (List.Mem.tail _ (List.Mem.tail _ (List.Mem.tail _ (List.Mem.tail _ (List.Mem.tail _ (List.Mem.tail _ (List.Mem.tail _ (List.Mem.tail _ (List.Mem.tail _ (List.Mem.tail _ (List.Mem.tail _ (List.Mem.tail _ (List.Mem.tail _ (List.Mem.tail _ (List.Mem.head _))))))))))))))) (news_cons N9 (List.Mem.tail _ (List.Mem.tail _ (List.Mem.tail _ (List.Mem.tail _ (List.Mem.tail _ (List.Mem.tail _ (List.Mem.tail _ (List.Mem.tail _ (List.Mem.tail _ (List.Mem.tail _ (List.Mem.tail _ (List.Mem.tail _ (List.Mem.tail _ (List.Mem.tail _ (List.Mem.tail _ (List.Mem.head _)))))))))))))))) (news_cons N9 (List.Mem.tail _ (List.Mem.tail _ (List.Mem.tail _ (List.Mem.tail _ (List.Mem.tail _ (List.Mem.tail _ (List.Mem.tail _ (List.Mem.tail _ (List.Mem.tail _ (List.Mem.tail _ (List.Mem.tail _ (List.Mem.tail _ (List.Mem.tail _ (List.Mem.tail _ (List.Mem.tail _ (List.Mem.tail _ (List.Mem.head _))))))))))))))))) (news_cons N9 (List.Mem.tail _ (List.Mem.tail _ (List.Mem.tail _ (List.Mem.tail _ (List.Mem.tail _ (List.Mem.tail _ (List.Mem.tail _ (List.Mem.tail _ (List.Mem.tail _ (List.Mem.tail _ (List.Mem.tail _ (List.Mem.tail _ (List.Mem.tail _ (List.Mem.tail _ (List.Mem.tail _ (List.Mem.tail _ (List.Mem.tail _ (List.Mem.head _)))))))))))))))))) (news_cons N9 (List.Mem.tail _ (List.Mem.tail _ (List.Mem.tail _ (List.Mem.tail _ (List.Mem.tail _ (List.Mem.tail _ (List.Mem.tail _ (List.Mem.tail _ (List.Mem.tail _ (List.Mem.tail _ (List.Mem.tail _ (List.Mem.tail _ (List.Mem.tail _ (List.Mem.tail _ (List.Mem.tail _ (List.Mem.tail _ (List.Mem.tail _ (List.Mem.tail _ (List.Mem.head _))))))))))))))))))) News.nil)))))))))))))) (SplitTl.tl (tl := LedQ _) (by repeat (first | exact SplitTl.nil | apply SplitTl.cons)) N9)) N3 rfl rfl ?_ n2 n3 ?_) (fun _ _ h => h) (fun _ _ h => h)
        · exact fun q hq => lt9 q (forall_append (sub_cons (List.Mem.tail _ (List.Mem.tail _ (List.Mem.tail _ (List.Mem.tail _ (List.Mem.tail _ (List.Mem.head _)))))) (sub_cons (List.Mem.tail _ (List.Mem.tail _ (List.Mem.tail _ (List.Mem.tail _ (List.Mem.tail _ (List.Mem.tail _ (List.Mem.head _))))))) (sub_cons (List.Mem.tail _ (List.Mem.tail _ (List.Mem.tail _ (List.Mem.tail _ (List.Mem.tail _ (List.Mem.tail _ (List.Mem.tail _ (List.Mem.head _)))))))) (sub_cons (List.Mem.tail _ (List.Mem.tail _ (List.Mem.tail _ (List.Mem.tail _ (List.Mem.tail _ (List.Mem.tail _ (List.Mem.tail _ (List.Mem.tail _ (List.Mem.head _))))))))) (sub_cons (List.Mem.tail _ (List.Mem.tail _ (List.Mem.tail _ (List.Mem.tail _ (List.Mem.tail _ (List.Mem.tail _ (List.Mem.tail _ (List.Mem.tail _ (List.Mem.tail _ (List.Mem.head _)))))))))) (sub_cons (List.Mem.tail _ (List.Mem.tail _ (List.Mem.tail _ (List.Mem.tail _ (List.Mem.tail _ (List.Mem.tail _ (List.Mem.tail _ (List.Mem.tail _ (List.Mem.tail _ (List.Mem.tail _ (List.Mem.head _))))))))))) (sub_cons (List.Mem.tail _ (List.Mem.tail _ (List.Mem.tail _ (List.Mem.tail _ (List.Mem.tail _ (List.Mem.tail _ (List.Mem.tail _ (List.Mem.tail _ (List.Mem.tail _ (List.Mem.tail _ (List.Mem.tail _ (List.Mem.head _)))))))))))) (sub_cons (List.Mem.tail _ (List.Mem.tail _ (List.Mem.tail _ (List.Mem.tail _ (List.Mem.tail _ (List.Mem.tail _ (List.Mem.tail _ (List.Mem.tail _ (List.Mem.tail _ (List.Mem.tail _ (List.Mem.tail _ (List.Mem.tail _ (List.Mem.head _))))))))))))) (sub_cons (List.Mem.tail _ (List.Mem.tail _ (List.Mem.tail _ (List.Mem.tail _ (List.Mem.tail _ (List.Mem.tail _ (List.Mem.tail _ (List.Mem.tail _ (List.Mem.tail _ (List.Mem.tail _ (List.Mem.tail _ (List.Mem.tail _ (List.Mem.tail _ (List.Mem.head _)))))))))))))) (sub_cons (List.Mem.tail _ (List.Mem.tail _ (List.Mem.tail _ (List.Mem.tail _ (List.Mem.tail _ (List.Mem.tail _ (List.Mem.tail _ (List.Mem.tail _ (List.Mem.tail _ (List.Mem.tail _ (List.Mem.tail _ (List.Mem.tail _ (List.Mem.tail _ (List.Mem.tail _ (List.Mem.head _))))))))))))))) (sub_cons (List.Mem.tail _ (List.Mem.tail _ (List.Mem.tail _ (List.Mem.tail _ (List.Mem.tail _ (List.Mem.tail _ (List.Mem.tail _ (List.Mem.tail _ (List.Mem.tail _ (List.Mem.tail _ (List.Mem.tail _ (List.Mem.tail _ (List.Mem.tail _ (List.Mem.tail _ (List.Mem.tail _ (List.Mem.head _)))))))))))))))) (sub_cons (List.Mem.tail _ (List.Mem.tail _ (List.Mem.tail _ (List.Mem.tail _ (List.Mem.tail _ (List.Mem.tail _ (List.Mem.tail _ (List.Mem.tail _ (List.Mem.tail _ (List.Mem.tail _ (List.Mem.tail _ (List.Mem.tail _ (List.Mem.tail _ (List.Mem.tail _ (List.Mem.tail _ (List.Mem.tail _ (List.Mem.head _))))))))))))))))) (sub_cons (List.Mem.tail _ (List.Mem.tail _ (List.Mem.tail _ (List.Mem.tail _ (List.Mem.tail _ (List.Mem.tail _ (List.Mem.tail _ (List.Mem.tail _ (List.Mem.tail _ (List.Mem.tail _ (List.Mem.tail _ (List.Mem.tail _ (List.Mem.tail _ (List.Mem.tail _ (List.Mem.tail _ (List.Mem.tail _ (List.Mem.tail _ (List.Mem.head _)))))))))))))))))) (sub_cons (List.Mem.tail _ (List.Mem.tail _ (List.Mem.tail _ (List.Mem.tail _ (List.Mem.tail _ (List.Mem.tail _ (List.Mem.tail _ (List.Mem.tail _ (List.Mem.tail _ (List.Mem.tail _ (List.Mem.tail _ (List.Mem.tail _ (List.Mem.tail _ (List.Mem.tail _ (List.Mem.tail _ (List.Mem.tail _ (List.Mem.tail _ (List.Mem.tail _ (List.Mem.head _))))))))))))))))))) sub_nil)))))))))))))) (SplitTl.mem (tl := LedQ _) (by repeat (first | exact SplitTl.nil | apply SplitTl.cons))) q hq)
        · intro h9 R9 U9 D9
          exact raise h9 _ ⟨_, _, _, ktOf [_, _, _, _, _, _, _, _, _, _, _, _, _, _, _, _, _, _, _], _, _, _, _, _⟩ _ _ _ _ _ (ktOf [_, _, _, _]) ha8 ⟨congrArg (fun y => z' + y) hs2, Or.inr ⟨Nat.succ_pos _, ⟨_, rfl⟩, _, by with_reducible assumption⟩, by with_reducible assumption⟩ FGp U9 D9 R9
      · skip
        (with_reducible rename News h₀ L _ rest => NR9)
        (with_reducible rename News h₀ L _ (_ :: _) => N9)
        (with_reducible rename Fr h₀ L _ _ => F9)
        refine ret _ _ ⟨_, _, _, ktOf [_, _, _, _, _, _, _, _, _, _, _, _, _, _, _, _, _, _, _], _, _, _, _, _⟩ _ ?_ ⟨?_, Or.inr ⟨Nat.succ_pos _, ⟨_, rfl⟩, _, by with_reducible assumption⟩, by with_reducible assumption⟩ F9 NR9 (news_join (news_cons N9 (List.Mem.tail _ (List.Mem.tail _ (List.Mem.head _))) (news_cons N9 (List.Mem.tail _ (List.Mem.tail _ (List.Mem.tail _ (List.Mem.head _)))) (news_cons N9 (List.Mem.tail _ (List.Mem.tail _ (List.Mem.tail _ (List.Mem.tail _ (List.Mem.head _))))) News.nil))) (news_join (news_cons N9 (List.Mem.tail _ (List.Mem.tail _ (List.Mem.tail _ (List.Mem.tail _ (List.Mem.tail _ (List.Mem.head _)))))) (news_cons N9 (List.Mem.tail _ (List.Mem.tail _ (List.Mem.tail _ (List.Mem.tail _ (List.Mem.tail _ (List.Mem.tail _ (List.Mem.head _))))))) (news_cons N9 (List.Mem.tail _ (List.Mem.tail _ (List.Mem.tail _ (List.Mem.tail _ (List.Mem.tail _ (List.Mem.tail _ (List.Mem.tail _ (List.Mem.head _)))))))) (news_cons N9 (List.Mem.tail _ (List.Mem.tail _ (List.Mem.tail _ (List.Mem.tail _ (List.Mem.tail _ (List.Mem.tail _ (List.Mem.tail _ (List.Mem.tail _ (List.Mem.head _))))))))) (news_cons N9 (List.Mem.tail _ (List.Mem.tail _ (List.Mem.tail _ (List.Mem.tail _ (List.Mem.tail _ (List.Mem.tail _ (List.Mem.tail _ (List.Mem.tail _ (List.Mem.tail _ (List.Mem.head _)))))))))) (news_cons N9 (List.Mem.tail _ (List.Mem.tail _ (List.Mem.tail _ (List.Mem.tail _ (List.Mem.tail _ (List.Mem.tail _ (List.Mem.tail _ (List.Mem.tail _ (List.Mem.tail _ (List.Mem.tail _ (List.Mem.head _))))))))))) (news_cons N9 (List.Mem.tail _ (List.Mem.tail _ (List.Mem.tail _ (List.Mem.tail _ (List.Mem.tail _ (List.Mem.tail _ (List.Mem.tail _ (List.Mem.tail _ (List.Mem.tail _ (List.Mem.tail _ (List.Mem.tail _ (List.Mem.head _)))))))))))) (news_cons N9 (List.Mem.tail _ (List.Mem.tail _ (List.Mem.tail _ (List.Mem.tail _ (List.Mem.tail _ (List.Mem.tail _ (List.Mem.tail _ (List.Mem.tail _ (List.Mem.tail _ (List.Mem.tail _ (List.Mem.tail _ (List.Mem.tail _ (List.Mem.head _))))))))))))) (news_cons N9 (List.Mem.tail _ (List.Mem.tail _ (List.Mem.tail _ (List.Mem.tail _ (List.Mem.tail _ (List.Mem.tail _ (List.Mem.tail _ (List.Mem.tail _ (List.Mem.tail _ (List.Mem.tail _ (List.Mem.tail _ (List.Mem.tail _ (List.Mem.tail _ (List.Mem.head _)))))))))))))) (news_cons N9 (List.Mem.tail _ (List.Mem.tail _ (List.Mem.tail _ (List.Mem.tail _ (List.Mem.tail _ (List.Mem.tail _ (List.Mem.tail _ (List.Mem.tail _ (List.Mem.tail _ (List.Mem.tail _ (List.Mem.tail _ (List.Mem.tail _ (List.Mem.tail _ (List.Mem.tail _ (List.Mem.head _))))))))))))))) (news_cons N9 (List.Mem.tail _ (List.Mem.tail _ (List.Mem.tail _ (List.Mem.tail _ (List.Mem.tail _ (List.Mem.tail _ (List.Mem.tail _ (List.Mem.tail _ (List.Mem.tail _ (List.Mem.tail _ (List.Mem.tail _ (List.Mem.tail _ (List.Mem.tail _ (List.Mem.tail _ (List.Mem.tail _ (List.Mem.head _)))))))))))))))) (news_cons N9 (List.Mem.tail _ (List.Mem.tail _ (List.Mem.tail _ (List.Mem.tail _ (List.Mem.tail _ (List.Mem.tail _ (List.Mem.tail _ (List.Mem.tail _ (List.Mem.tail _ (List.Mem.tail _ (List.Mem.tail _ (List.Mem.tail _ (List.Mem.tail _ (List.Mem.tail _ (List.Mem.tail _ (List.Mem.tail _ (List.Mem.head _))))))))))))))))) (news_cons N9 (List.Mem.tail _ (List.Mem.tail _ (List.Mem.tail _ (List.Mem.tail _ (List.Mem.tail _ (List.Mem.tail _ (List.Mem.tail _ (List.Mem.tail _ (List.Mem.tail _ (List.Mem.tail _ (List.Mem.tail _ (List.Mem.tail _ (List.Mem.tail _ (List.Mem.tail _ (List.Mem.tail _ (List.Mem.tail _ (List.Mem.tail _ (List.Mem.head _)))))))))))))))))) (news_cons N9 (List.Mem.tail _ (List.Mem.tail _ (List.Mem.tail _ (List.Mem.tail _ (List.Mem.tail _ (List.Mem.tail _ (List.Mem.tail _ (List.Mem.tail _ (List.Mem.tail _ (List.Mem.tail _ (List.Mem.tail _ (List.Mem.tail _ (List.Mem.tail _ (List.Mem.tail _ (List.Mem.tail _ (List.Mem.tail _ (List.Mem.tail _ (List.Mem.tail _ (List.Mem.head _))))))))))))))))))) News.nil)))))))))))))) (SplitTl.tl (tl := LedQ _) (by repeat (first | exact SplitTl.nil | apply SplitTl.cons)) N9)))
        · (with_reducible rename (¬ most < _) => ha9)
          have ha8 : z' + ((xs (sz k)).length : Int) ≤ most := Int.not_lt.mp ha9
          rw [hs2] at ha8
          exact ha8
        · exact congrArg (fun y => z' + y) hs2
    · subst hsv
      k_steps
      · skip
        unfold Stop
        (with_reducible rename News g1 L1 _ [(_, _), (_, _), (_, _)] => N3)
        (with_reducible rename News g1 L1 _ (_ :: _ :: _ :: _ :: _ :: _) => N9)
        (with_reducible rename Fr g1 L1 _ _ => F9)
        (with_reducible rename (∀ q ∈ _, _ ∧ _ ∧ _) => lt9)
        (with_reducible rename (most < _) => ha9)
        (rename_i n1 n2 n3)
        have ha8 : most < z' + ((xs (sz k)).length : Int) := ha9
        rw [hs2] at ha8
        refine ⟨_, _, some _, rfl, XG.keeps F9.keep, (N3 _ (List.Mem.head _)).1, ?_⟩
        show wpAny (model prog w) _ (leaving _ (Value.ref _)) _ _ _
        refine wpAny_mono (first_leaves (Q := fun s => E (.ref _) s) BG F9 (news_join (news_cons N9 (List.Mem.tail _ (List.Mem.tail _ (List.Mem.tail _ (List.Mem.tail _ (List.Mem.head _))))) (news_cons N9 (List.Mem.tail _ (List.Mem.tail _ (List.Mem.tail _ (List.Mem.tail _ (List.Mem.tail _ (List.Mem.head _)))))) (news_cons N9 (List.Mem.tail _ (List.Mem.tail _ (List.Mem.tail _ (List.Mem.tail _ (List.Mem.tail _ (List.Mem.tail _ (List.Mem.head _))))))) (news_cons N9 (List.Mem.tail _ (List.Mem.tail _ (List.Mem.tail _ (List.Mem.tail _ (List.Mem.tail _ (List.Mem.tail _ (List.Mem.tail _ (List.Mem.head _)))))))) (news_cons N9 (List.Mem.tail _ (List.Mem.tail _ (List.Mem.tail _ (List.Mem.tail _ (List.Mem.tail _ (List.Mem.tail _ (List.Mem.tail _ (List.Mem.tail _ (List.Mem.head _))))))))) (news_cons N9 (List.Mem.tail _ (List.Mem.tail _ (List.Mem.tail _ (List.Mem.tail _ (List.Mem.tail _ (List.Mem.tail _ (List.Mem.tail _ (List.Mem.tail _ (List.Mem.tail _ (List.Mem.head _)))))))))) (news_cons N9 (List.Mem.tail _ (List.Mem.tail _ (List.Mem.tail _ (List.Mem.tail _ (List.Mem.tail _ (List.Mem.tail _ (List.Mem.tail _ (List.Mem.tail _ (List.Mem.tail _ (List.Mem.tail _ (List.Mem.head _))))))))))) (news_cons N9 (List.Mem.tail _ (List.Mem.tail _ (List.Mem.tail _ (List.Mem.tail _ (List.Mem.tail _ (List.Mem.tail _ (List.Mem.tail _ (List.Mem.tail _ (List.Mem.tail _ (List.Mem.tail _ (List.Mem.tail _ (List.Mem.head _)))))))))))) (news_cons N9 (List.Mem.tail _ (List.Mem.tail _ (List.Mem.tail _ (List.Mem.tail _ (List.Mem.tail _ (List.Mem.tail _ (List.Mem.tail _ (List.Mem.tail _ (List.Mem.tail _ (List.Mem.tail _ (List.Mem.tail _ (List.Mem.tail _ (List.Mem.head _))))))))))))) (news_cons N9 (List.Mem.tail _ (List.Mem.tail _ (List.Mem.tail _ (List.Mem.tail _ (List.Mem.tail _ (List.Mem.tail _ (List.Mem.tail _ (List.Mem.tail _ (List.Mem.tail _ (List.Mem.tail _ (List.Mem.tail _ (List.Mem.tail _ (List.Mem.tail _ (List.Mem.head _)))))))))))))) (news_cons N9 (List.Mem.tail _ (List.Mem.tail _ (List.Mem.tail _ (List.Mem.tail _ (List.Mem.tail _ (List.Mem.tail _ (List.Mem.tail _ (List.Mem.tail _ (List.Mem.tail _ (List.Mem.tail _ (List.Mem.tail _ (List.Mem.tail _ (List.Mem.tail _ (List.Mem.tail _ (List.Mem.head _))))))))))))))) (news_cons N9 (List.Mem.tail _ (List.Mem.tail _ (List.Mem.tail _ (List.Mem.tail _ (List.Mem.tail _ (List.Mem.tail _ (List.Mem.tail _ (List.Mem.tail _ (List.Mem.tail _ (List.Mem.tail _ (List.Mem.tail _ (List.Mem.tail _ (List.Mem.tail _ (List.Mem.tail _ (List.Mem.tail _ (List.Mem.head _)))))))))))))))) (news_cons N9 (List.Mem.tail _ (List.Mem.tail _ (List.Mem.tail _ (List.Mem.tail _ (List.Mem.tail _ (List.Mem.tail _ (List.Mem.tail _ (List.Mem.tail _ (List.Mem.tail _ (List.Mem.tail _ (List.Mem.tail _ (List.Mem.tail _ (List.Mem.tail _ (List.Mem.tail _ (List.Mem.tail _ (List.Mem.tail _ (List.Mem.head _))))))))))))))))) (news_cons N9 (List.Mem.tail _ (List.Mem.tail _ (List.Mem.tail _ (List.Mem.tail _ (List.Mem.tail _ (List.Mem.tail _ (List.Mem.tail _ (List.Mem.tail _ (List.Mem.tail _ (List.Mem.tail _ (List.Mem.tail _ (List.Mem.tail _ (List.Mem.tail _ (List.Mem.tail _ (List.Mem.tail _ (List.Mem.tail _ (List.Mem.tail _ (List.Mem.head _)))))))))))))))))) News.nil)))))))))))))) (SplitTl.tl (tl := LedQ _) (by repeat (first | exact SplitTl.nil | apply SplitTl.cons)) N9)) N3 rfl rfl ?_ n2 n3 ?_) (fun _ _ h => h) (fun _ _ h => h)
        · exact fun q hq => lt9 q (forall_append (sub_cons (List.Mem.tail _ (List.Mem.tail _ (List.Mem.tail _ (List.Mem.tail _ (List.Mem.head _))))) (sub_cons (List.Mem.tail _ (List.Mem.tail _ (List.Mem.tail _ (List.Mem.tail _ (List.Mem.tail _ (List.Mem.head _)))))) (sub_cons (List.Mem.tail _ (List.Mem.tail _ (List.Mem.tail _ (List.Mem.tail _ (List.Mem.tail _ (List.Mem.tail _ (List.Mem.head _))))))) (sub_cons (List.Mem.tail _ (List.Mem.tail _ (List.Mem.tail _ (List.Mem.tail _ (List.Mem.tail _ (List.Mem.tail _ (List.Mem.tail _ (List.Mem.head _)))))))) (sub_cons (List.Mem.tail _ (List.Mem.tail _ (List.Mem.tail _ (List.Mem.tail _ (List.Mem.tail _ (List.Mem.tail _ (List.Mem.tail _ (List.Mem.tail _ (List.Mem.head _))))))))) (sub_cons (List.Mem.tail _ (List.Mem.tail _ (List.Mem.tail _ (List.Mem.tail _ (List.Mem.tail _ (List.Mem.tail _ (List.Mem.tail _ (List.Mem.tail _ (List.Mem.tail _ (List.Mem.head _)))))))))) (sub_cons (List.Mem.tail _ (List.Mem.tail _ (List.Mem.tail _ (List.Mem.tail _ (List.Mem.tail _ (List.Mem.tail _ (List.Mem.tail _ (List.Mem.tail _ (List.Mem.tail _ (List.Mem.tail _ (List.Mem.head _))))))))))) (sub_cons (List.Mem.tail _ (List.Mem.tail _ (List.Mem.tail _ (List.Mem.tail _ (List.Mem.tail _ (List.Mem.tail _ (List.Mem.tail _ (List.Mem.tail _ (List.Mem.tail _ (List.Mem.tail _ (List.Mem.tail _ (List.Mem.head _)))))))))))) (sub_cons (List.Mem.tail _ (List.Mem.tail _ (List.Mem.tail _ (List.Mem.tail _ (List.Mem.tail _ (List.Mem.tail _ (List.Mem.tail _ (List.Mem.tail _ (List.Mem.tail _ (List.Mem.tail _ (List.Mem.tail _ (List.Mem.tail _ (List.Mem.head _))))))))))))) (sub_cons (List.Mem.tail _ (List.Mem.tail _ (List.Mem.tail _ (List.Mem.tail _ (List.Mem.tail _ (List.Mem.tail _ (List.Mem.tail _ (List.Mem.tail _ (List.Mem.tail _ (List.Mem.tail _ (List.Mem.tail _ (List.Mem.tail _ (List.Mem.tail _ (List.Mem.head _)))))))))))))) (sub_cons (List.Mem.tail _ (List.Mem.tail _ (List.Mem.tail _ (List.Mem.tail _ (List.Mem.tail _ (List.Mem.tail _ (List.Mem.tail _ (List.Mem.tail _ (List.Mem.tail _ (List.Mem.tail _ (List.Mem.tail _ (List.Mem.tail _ (List.Mem.tail _ (List.Mem.tail _ (List.Mem.head _))))))))))))))) (sub_cons (List.Mem.tail _ (List.Mem.tail _ (List.Mem.tail _ (List.Mem.tail _ (List.Mem.tail _ (List.Mem.tail _ (List.Mem.tail _ (List.Mem.tail _ (List.Mem.tail _ (List.Mem.tail _ (List.Mem.tail _ (List.Mem.tail _ (List.Mem.tail _ (List.Mem.tail _ (List.Mem.tail _ (List.Mem.head _)))))))))))))))) (sub_cons (List.Mem.tail _ (List.Mem.tail _ (List.Mem.tail _ (List.Mem.tail _ (List.Mem.tail _ (List.Mem.tail _ (List.Mem.tail _ (List.Mem.tail _ (List.Mem.tail _ (List.Mem.tail _ (List.Mem.tail _ (List.Mem.tail _ (List.Mem.tail _ (List.Mem.tail _ (List.Mem.tail _ (List.Mem.tail _ (List.Mem.head _))))))))))))))))) (sub_cons (List.Mem.tail _ (List.Mem.tail _ (List.Mem.tail _ (List.Mem.tail _ (List.Mem.tail _ (List.Mem.tail _ (List.Mem.tail _ (List.Mem.tail _ (List.Mem.tail _ (List.Mem.tail _ (List.Mem.tail _ (List.Mem.tail _ (List.Mem.tail _ (List.Mem.tail _ (List.Mem.tail _ (List.Mem.tail _ (List.Mem.tail _ (List.Mem.head _)))))))))))))))))) sub_nil)))))))))))))) (SplitTl.mem (tl := LedQ _) (by repeat (first | exact SplitTl.nil | apply SplitTl.cons))) q hq)
        · intro h9 R9 U9 D9
          exact raise h9 _ ⟨_, _, _, ktOf [_, _, _, _, _, _, _, _, _, _, _, _, _, _, _, _, _, _, _], _, _, _, _, _⟩ _ _ _ _ _ (ktOf [_, _, _, _]) ha8 ⟨congrArg (fun y => z' + y) hs2, Or.inr ⟨Nat.succ_pos _, ⟨_, rfl⟩, _, by with_reducible assumption⟩, by with_reducible assumption⟩ FGp U9 D9 R9
      · skip
        (with_reducible rename News h₀ L _ rest => NR9)
        (with_reducible rename News h₀ L _ (_ :: _) => N9)
        (with_reducible rename Fr h₀ L _ _ => F9)
        refine ret _ _ ⟨_, _, _, ktOf [_, _, _, _, _, _, _, _, _, _, _, _, _, _, _, _, _, _, _], _, _, _, _, _⟩ _ ?_ ⟨?_, Or.inr ⟨Nat.succ_pos _, ⟨_, rfl⟩, _, by with_reducible assumption⟩, by with_reducible assumption⟩ F9 NR9 (news_join (news_cons N9 (List.Mem.tail _ (List.Mem.head _)) (news_cons N9 (List.Mem.tail _ (List.Mem.tail _ (List.Mem.head _))) (news_cons N9 (List.Mem.tail _ (List.Mem.tail _ (List.Mem.tail _ (List.Mem.head _)))) News.nil))) (news_join (news_cons N9 (List.Mem.tail _ (List.Mem.tail _ (List.Mem.tail _ (List.Mem.tail _ (List.Mem.head _))))) (news_cons N9 (List.Mem.tail _ (List.Mem.tail _ (List.Mem.tail _ (List.Mem.tail _ (List.Mem.tail _ (List.Mem.head _)))))) (news_cons N9 (List.Mem.tail _ (List.Mem.tail _ (List.Mem.tail _ (List.Mem.tail _ (List.Mem.tail _ (List.Mem.tail _ (List.Mem.head _))))))) (news_cons N9 (List.Mem.tail _ (List.Mem.tail _ (List.Mem.tail _ (List.Mem.tail _ (List.Mem.tail _ (List.Mem.tail _ (List.Mem.tail _ (List.Mem.head _)))))))) (news_cons N9 (List.Mem.tail _ (List.Mem.tail _ (List.Mem.tail _ (List.Mem.tail _ (List.Mem.tail _ (List.Mem.tail _ (List.Mem.tail _ (List.Mem.tail _ (List.Mem.head _))))))))) (news_cons N9 (List.Mem.tail _ (List.Mem.tail _ (List.Mem.tail _ (List.Mem.tail _ (List.Mem.tail _ (List.Mem.tail _ (List.Mem.tail _ (List.Mem.tail _ (List.Mem.tail _ (List.Mem.head _)))))))))) (news_cons N9 (List.Mem.tail _ (List.Mem.tail _ (List.Mem.tail _ (List.Mem.tail _ (List.Mem.tail _ (List.Mem.tail _ (List.Mem.tail _ (List.Mem.tail _ (List.Mem.tail _ (List.Mem.tail _ (List.Mem.head _))))))))))) (news_cons N9 (List.Mem.tail _ (List.Mem.tail _ (List.Mem.tail _ (List.Mem.tail _ (List.Mem.tail _ (List.Mem.tail _ (List.Mem.tail _ (List.Mem.tail _ (List.Mem.tail _ (List.Mem.tail _ (List.Mem.tail _ (List.Mem.head _)))))))))))) (news_cons N9 (List.Mem.tail _ (List.Mem.tail _ (List.Mem.tail _ (List.Mem.tail _ (List.Mem.tail _ (List.Mem.tail _ (List.Mem.tail _ (List.Mem.tail _ (List.Mem.tail _ (List.Mem.tail _ (List.Mem.tail _ (List.Mem.tail _ (List.Mem.head _))))))))))))) (news_cons N9 (List.Mem.tail _ (List.Mem.tail _ (List.Mem.tail _ (List.Mem.tail _ (List.Mem.tail _ (List.Mem.tail _ (List.Mem.tail _ (List.Mem.tail _ (List.Mem.tail _ (List.Mem.tail _ (List.Mem.tail _ (List.Mem.tail _ (List.Mem.tail _ (List.Mem.head _)))))))))))))) (news_cons N9 (List.Mem.tail _ (List.Mem.tail _ (List.Mem.tail _ (List.Mem.tail _ (List.Mem.tail _ (List.Mem.tail _ (List.Mem.tail _ (List.Mem.tail _ (List.Mem.tail _ (List.Mem.tail _ (List.Mem.tail _ (List.Mem.tail _ (List.Mem.tail _ (List.Mem.tail _ (List.Mem.head _))))))))))))))) (news_cons N9 (List.Mem.tail _ (List.Mem.tail _ (List.Mem.tail _ (List.Mem.tail _ (List.Mem.tail _ (List.Mem.tail _ (List.Mem.tail _ (List.Mem.tail _ (List.Mem.tail _ (List.Mem.tail _ (List.Mem.tail _ (List.Mem.tail _ (List.Mem.tail _ (List.Mem.tail _ (List.Mem.tail _ (List.Mem.head _)))))))))))))))) (news_cons N9 (List.Mem.tail _ (List.Mem.tail _ (List.Mem.tail _ (List.Mem.tail _ (List.Mem.tail _ (List.Mem.tail _ (List.Mem.tail _ (List.Mem.tail _ (List.Mem.tail _ (List.Mem.tail _ (List.Mem.tail _ (List.Mem.tail _ (List.Mem.tail _ (List.Mem.tail _ (List.Mem.tail _ (List.Mem.tail _ (List.Mem.head _))))))))))))))))) (news_cons N9 (List.Mem.tail _ (List.Mem.tail _ (List.Mem.tail _ (List.Mem.tail _ (List.Mem.tail _ (List.Mem.tail _ (List.Mem.tail _ (List.Mem.tail _ (List.Mem.tail _ (List.Mem.tail _ (List.Mem.tail _ (List.Mem.tail _ (List.Mem.tail _ (List.Mem.tail _ (List.Mem.tail _ (List.Mem.tail _ (List.Mem.tail _ (List.Mem.head _)))))))))))))))))) News.nil)))))))))))))) (SplitTl.tl (tl := LedQ _) (by repeat (first | exact SplitTl.nil | apply SplitTl.cons)) N9)))
        · (with_reducible rename (¬ most < _) => ha9)
          have ha8 : z' + ((xs (sz k)).length : Int) ≤ most := Int.not_lt.mp ha9
          rw [hs2] at ha8
          exact ha8
        · exact congrArg (fun y => z' + y) hs2


  obtain ⟨ofc, ofd, fdd, ofs, eo⟩ : ∃ ofc ofd fdd ofs, oF = (⟨ofc, ofd, .func fdd, ofs⟩ : Obj) := ⟨_, _, _, _, eF.symm⟩
  clear eF
  subst eo
  have hOffS : OffAll (fun c : PutSt ρ => [(c', oc'), (l', PySem.W.listOf [.int c.z c.tz].toArray c.ni), (L' + 1 + 1 + 1 + 1 + 1 + 1, o6), (L' + 1 + 1 + 1 + 1 + 1, o5), (L' + 1 + 1 + 1 + 1, o4), (L' + 1 + 1 + 1, oc4), (L' + 1 + 1, oc5), (L' + 1, oc6), (RN, instObj 858 RNd), (RNd, runD w c.rt vheap (.ref CT) v2 (.ref LM) v4 v5 v6 v7 v8 v9 v10 (.ref SV) v12 c.vm (.ref PT) v15 v16 v17 v18), (SV, PySem.W.listOf c.sv.toArray c.nsv), (PT, c.oPT), (SC, instObj 66 SCd), (SCd, scaD w st (.int num tnum) c1 c2 c3 c4 c5 (.str t tt) .none)] ++ LedQ c.r) [P, Pd, RL, T1, T2, LM, LMd] := by
    intro c
    have hTl : ∀ p ∈ LedQ c.r, ∀ b ∈ [P, Pd, RL, T1, T2, LM, LMd], p.1 ≠ b := by
      intro p hp
      have h9 := hOffQ c.r p hp
      (repeat' first | exact List.forall_mem_nil _ | refine List.forall_mem_cons.mpr ⟨h9 _ (by k_memK), ?_⟩)
    unfold OwnOff
    dsimp only
    (repeat' first | exact hTl | exact List.forall_mem_nil _ | refine List.forall_mem_cons.mpr ⟨?_, ?_⟩ | refine forall_append ?_ ?_ | (refine neN ?_; (try dsimp only); omega))
  have hBelS : BelAll (fun c : PutSt ρ => [(c', oc'), (l', PySem.W.listOf [.int c.z c.tz].toArray c.ni), (L' + 1 + 1 + 1 + 1 + 1 + 1, o6), (L' + 1 + 1 + 1 + 1 + 1, o5), (L' + 1 + 1 + 1 + 1, o4), (L' + 1 + 1 + 1, oc4), (L' + 1 + 1, oc5), (L' + 1, oc6), (RN, instObj 858 RNd), (RNd, runD w c.rt vheap (.ref CT) v2 (.ref LM) v4 v5 v6 v7 v8 v9 v10 (.ref SV) v12 c.vm (.ref PT) v15 v16 v17 v18), (SV, PySem.W.listOf c.sv.toArray c.nsv), (PT, c.oPT), (SC, instObj 66 SCd), (SCd, scaD w st (.int num tnum) c1 c2 c3 c4 c5 (.str t tt) .none)] ++ LedQ c.r) f' := by
    intro c
    have hTl : ∀ p ∈ LedQ c.r, @LT.lt Nat _ p.1 f' := fun p hp => by (have h9 : @LT.lt Nat _ p.1 P := hBelQ c.r p hp); omega
    unfold OwnBelow
    dsimp only
    (repeat' first | exact hTl | exact List.forall_mem_nil _ | refine List.forall_mem_cons.mpr ⟨?_, ?_⟩ | refine forall_append ?_ ?_ | ((try dsimp only); omega))
  refine (show (∀ tz0 : Tok, News g' L' h6 ([(P, instObj 901 Pd), (Pd, progD w pt (.ref RL) (.int 0 t1) (.int 0 t2) vn), (RL, PySem.W.listOf [.ref T1, .ref T2].toArray nr), (T1, tupOf [.str (Str.ofString "sign") t3, .str (Str.ofString "a") t4, .bool false]), (T2, tupOf [.str (Str.ofString "end") t5]), (LM, instObj 880 LMd), (LMd, limD w lt vw vd (.int 1000000 tm) (.int most tmo) vi), (f', (⟨ofc, ofd, .func fdd, ofs⟩ : Obj))] ++ ([(c', oc'), (l', PySem.W.listOf [.int 0 tz0].toArray 0), (L' + 1 + 1 + 1 + 1 + 1 + 1, o6), (L' + 1 + 1 + 1 + 1 + 1, o5), (L' + 1 + 1 + 1 + 1, o4), (L' + 1 + 1 + 1, oc4), (L' + 1 + 1, oc5), (L' + 1, oc6), (RN, instObj 858 RNd), (RNd, runD w rt vheap (.ref CT) v2 (.ref LM) v4 v5 v6 v7 v8 v9 v10 (.ref SV) v12 .none (.ref PT) v15 v16 v17 v18), (SV, PySem.W.listOf ([] : List Value).toArray nsv), (PT, oPT), (SC, instObj 66 SCd), (SCd, scaD w st (.int num tnum) c1 c2 c3 c4 c5 (.str t tt) .none)] ++ LedQ r0)) → _) → _ from fun key => key _ (news_join (news_cons kN' (List.Mem.tail _ (List.Mem.tail _ (List.Mem.tail _ (List.Mem.tail _ (List.Mem.tail _ (List.Mem.tail _ (List.Mem.tail _ (List.Mem.tail _ (List.Mem.tail _ (List.Mem.tail _ (List.Mem.tail _ (List.Mem.tail _ (List.Mem.tail _ (List.Mem.tail _ (List.Mem.tail _ (List.Mem.tail _ (List.Mem.tail _ (List.Mem.tail _ (List.Mem.tail _ (List.Mem.head _)))))))))))))))))))) (news_cons kN' (List.Mem.tail _ (List.Mem.tail _ (List.Mem.tail _ (List.Mem.tail _ (List.Mem.tail _ (List.Mem.tail _ (List.Mem.tail _ (List.Mem.tail _ (List.Mem.tail _ (List.Mem.tail _ (List.Mem.tail _ (List.Mem.tail _ (List.Mem.tail _ (List.Mem.tail _ (List.Mem.tail _ (List.Mem.tail _ (List.Mem.tail _ (List.Mem.tail _ (List.Mem.tail _ (List.Mem.tail _ (List.Mem.head _))))))))))))))))))))) (news_cons kN' (List.Mem.tail _ (List.Mem.tail _ (List.Mem.tail _ (List.Mem.tail _ (List.Mem.tail _ (List.Mem.tail _ (List.Mem.tail _ (List.Mem.tail _ (List.Mem.tail _ (List.Mem.tail _ (List.Mem.tail _ (List.Mem.tail _ (List.Mem.tail _ (List.Mem.tail _ (List.Mem.tail _ (List.Mem.tail _ (List.Mem.tail _ (List.Mem.tail _ (List.Mem.tail _ (List.Mem.tail _ (List.Mem.tail _ (List.Mem.head _)))))))))))))))))))))) (news_cons kN' (List.Mem.tail _ (List.Mem.tail _ (List.Mem.tail _ (List.Mem.tail _ (List.Mem.tail _ (List.Mem.tail _ (List.Mem.tail _ (List.Mem.tail _ (List.Mem.tail _ (List.Mem.tail _ (List.Mem.tail _ (List.Mem.tail _ (List.Mem.tail _ (List.Mem.tail _ (List.Mem.tail _ (List.Mem.tail _ (List.Mem.tail _ (List.Mem.tail _ (List.Mem.tail _ (List.Mem.tail _ (List.Mem.tail _ (List.Mem.tail _ (List.Mem.head _))))))))))))))))))))))) (news_cons kN' (List.Mem.tail _ (List.Mem.tail _ (List.Mem.tail _ (List.Mem.tail _ (List.Mem.tail _ (List.Mem.tail _ (List.Mem.tail _ (List.Mem.tail _ (List.Mem.tail _ (List.Mem.tail _ (List.Mem.tail _ (List.Mem.tail _ (List.Mem.tail _ (List.Mem.tail _ (List.Mem.tail _ (List.Mem.tail _ (List.Mem.tail _ (List.Mem.tail _ (List.Mem.tail _ (List.Mem.tail _ (List.Mem.tail _ (List.Mem.tail _ (List.Mem.tail _ (List.Mem.head _)))))))))))))))))))))))) (news_cons kN' (List.Mem.tail _ (List.Mem.tail _ (List.Mem.tail _ (List.Mem.tail _ (List.Mem.tail _ (List.Mem.tail _ (List.Mem.tail _ (List.Mem.tail _ (List.Mem.tail _ (List.Mem.tail _ (List.Mem.tail _ (List.Mem.tail _ (List.Mem.tail _ (List.Mem.tail _ (List.Mem.tail _ (List.Mem.tail _ (List.Mem.tail _ (List.Mem.tail _ (List.Mem.tail _ (List.Mem.tail _ (List.Mem.tail _ (List.Mem.tail _ (List.Mem.tail _ (List.Mem.tail _ (List.Mem.head _))))))))))))))))))))))))) (news_cons kN' (List.Mem.tail _ (List.Mem.tail _ (List.Mem.tail _ (List.Mem.tail _ (List.Mem.tail _ (List.Mem.tail _ (List.Mem.tail _ (List.Mem.tail _ (List.Mem.tail _ (List.Mem.tail _ (List.Mem.tail _ (List.Mem.tail _ (List.Mem.tail _ (List.Mem.tail _ (List.Mem.tail _ (List.Mem.tail _ (List.Mem.tail _ (List.Mem.tail _ (List.Mem.tail _ (List.Mem.tail _ (List.Mem.tail _ (List.Mem.tail _ (List.Mem.tail _ (List.Mem.tail _ (List.Mem.tail _ (List.Mem.head _)))))))))))))))))))))))))) (news_cons kN' (List.Mem.head _) News.nil)))))))) (news_join (news_cons kN' (List.Mem.tail _ (List.Mem.head _)) (news_cons kN' (List.Mem.tail _ (List.Mem.tail _ (List.Mem.head _))) (news_cons kN' (List.Mem.tail _ (List.Mem.tail _ (List.Mem.tail _ (List.Mem.head _)))) (news_cons kN' (List.Mem.tail _ (List.Mem.tail _ (List.Mem.tail _ (List.Mem.tail _ (List.Mem.head _))))) (news_cons kN' (List.Mem.tail _ (List.Mem.tail _ (List.Mem.tail _ (List.Mem.tail _ (List.Mem.tail _ (List.Mem.head _)))))) (news_cons kN' (List.Mem.tail _ (List.Mem.tail _ (List.Mem.tail _ (List.Mem.tail _ (List.Mem.tail _ (List.Mem.tail _ (List.Mem.head _))))))) (news_cons kN' (List.Mem.tail _ (List.Mem.tail _ (List.Mem.tail _ (List.Mem.tail _ (List.Mem.tail _ (List.Mem.tail _ (List.Mem.tail _ (List.Mem.head _)))))))) (news_cons kN' (List.Mem.tail _ (List.Mem.tail _ (List.Mem.tail _ (List.Mem.tail _ (List.Mem.tail _ (List.Mem.tail _ (List.Mem.tail _ (List.Mem.tail _ (List.Mem.head _))))))))) (news_cons kN' (List.Mem.tail _ (List.Mem.tail _ (List.Mem.tail _ (List.Mem.tail _ (List.Mem.tail _ (List.Mem.tail _ (List.Mem.tail _ (List.Mem.tail _ (List.Mem.tail _ (List.Mem.head _)))))))))) (news_cons kN' (List.Mem.tail _ (List.Mem.tail _ (List.Mem.tail _ (List.Mem.tail _ (List.Mem.tail _ (List.Mem.tail _ (List.Mem.tail _ (List.Mem.tail _ (List.Mem.tail _ (List.Mem.tail _ (List.Mem.head _))))))))))) (news_cons kN' (List.Mem.tail _ (List.Mem.tail _ (List.Mem.tail _ (List.Mem.tail _ (List.Mem.tail _ (List.Mem.tail _ (List.Mem.tail _ (List.Mem.tail _ (List.Mem.tail _ (List.Mem.tail _ (List.Mem.tail _ (List.Mem.tail _ (List.Mem.tail _ (List.Mem.tail _ (List.Mem.tail _ (List.Mem.tail _ (List.Mem.tail _ (List.Mem.head _)))))))))))))))))) (news_cons kN' (List.Mem.tail _ (List.Mem.tail _ (List.Mem.tail _ (List.Mem.tail _ (List.Mem.tail _ (List.Mem.tail _ (List.Mem.tail _ (List.Mem.tail _ (List.Mem.tail _ (List.Mem.tail _ (List.Mem.tail _ (List.Mem.tail _ (List.Mem.tail _ (List.Mem.tail _ (List.Mem.tail _ (List.Mem.tail _ (List.Mem.tail _ (List.Mem.tail _ (List.Mem.head _))))))))))))))))))) (news_cons kN' (List.Mem.tail _ (List.Mem.tail _ (List.Mem.tail _ (List.Mem.tail _ (List.Mem.tail _ (List.Mem.tail _ (List.Mem.tail _ (List.Mem.tail _ (List.Mem.tail _ (List.Mem.tail _ (List.Mem.tail _ (List.Mem.tail _ (List.Mem.tail _ (List.Mem.tail _ (List.Mem.tail _ (List.Mem.head _)))))))))))))))) (news_cons kN' (List.Mem.tail _ (List.Mem.tail _ (List.Mem.tail _ (List.Mem.tail _ (List.Mem.tail _ (List.Mem.tail _ (List.Mem.tail _ (List.Mem.tail _ (List.Mem.tail _ (List.Mem.tail _ (List.Mem.tail _ (List.Mem.tail _ (List.Mem.tail _ (List.Mem.tail _ (List.Mem.tail _ (List.Mem.tail _ (List.Mem.head _))))))))))))))))) News.nil)))))))))))))) hTailQ))) ?_
  intro tz0 N0
  refine' sub_ok (c₀ := ⟨0, tz0, 0, rt, .none, [], nsv, oPT, r0⟩) ?B ?F ?X ?T ?hk ?NR hput ?hOk ?N ?hdis hOffS hBelS hC' ?a1 ?a2 l3 l4 l5 l6 ?a3 h2 hx hm1 hm2 hsz hxs ?hd ?hu ?ret ?raise
  case B => k_asm
  case F => exact kF
  case X => exact kX5
  case T => exact Tc5
  case NR => exact (news_cons kN' (List.Mem.tail _ (List.Mem.tail _ (List.Mem.tail _ (List.Mem.tail _ (List.Mem.tail _ (List.Mem.tail _ (List.Mem.tail _ (List.Mem.tail _ (List.Mem.tail _ (List.Mem.tail _ (List.Mem.tail _ (List.Mem.head _)))))))))))) (news_cons kN' (List.Mem.tail _ (List.Mem.tail _ (List.Mem.tail _ (List.Mem.tail _ (List.Mem.tail _ (List.Mem.tail _ (List.Mem.tail _ (List.Mem.tail _ (List.Mem.tail _ (List.Mem.tail _ (List.Mem.tail _ (List.Mem.tail _ (List.Mem.head _))))))))))))) (news_cons kN' (List.Mem.tail _ (List.Mem.tail _ (List.Mem.tail _ (List.Mem.tail _ (List.Mem.tail _ (List.Mem.tail _ (List.Mem.tail _ (List.Mem.tail _ (List.Mem.tail _ (List.Mem.tail _ (List.Mem.tail _ (List.Mem.tail _ (List.Mem.tail _ (List.Mem.head _)))))))))))))) (news_cons kN' (List.Mem.tail _ (List.Mem.tail _ (List.Mem.tail _ (List.Mem.tail _ (List.Mem.tail _ (List.Mem.tail _ (List.Mem.tail _ (List.Mem.tail _ (List.Mem.tail _ (List.Mem.tail _ (List.Mem.tail _ (List.Mem.tail _ (List.Mem.tail _ (List.Mem.tail _ (List.Mem.head _))))))))))))))) News.nil))))
  case N => exact N0
  case hOk => exact ⟨rfl, .inl ⟨rfl, rfl, rfl, pat_empty hPT⟩, hPR⟩
  case hdis => refine dis_of ?_; (repeat' first | exact List.forall_mem_nil _ | refine List.forall_mem_cons.mpr ⟨?_, ?_⟩ | refine forall_append ?_ ?_ | ((try dsimp only); k_all) | (refine neN ?_; (try dsimp only); omega))
  case hk => exact rfl
  case a1 => omega
  case a2 => omega
  case a3 => omega
  case hd => ktr_room
  case hu => ktr_units
  case raise =>
    intro h8 tk8 c8 e8 t8 vs8 D8 g8 dt8 i8 hi8 hz8 hm8 ok8 F8 U8 DI8 R8
    obtain ⟨z8, tz8, ni8, rt8, vm8, sv8, nsv8, oPT8, r8⟩ := c8
    obtain ⟨hz9, hS9, hP9⟩ := ok8
    show wpAny (model prog w) _ (leaving _ (Value.ref _)) _ _ _
    refine wpAny_mono (later_leaves (Q := fun s => E (.ref e8) s) B' F8 R8 U8 DI8 ?_) (fun _ _ h => h) (fun _ _ h => h)
    intro h9 R9 U9 D9
    exact raise h9 _ r8 _ _ _ _ g' dt8 _ _ (.inl ⟨i8, hi8, hz8, hm8, rfl⟩) hP9 FG' U9 D9 (raised_sub R9 (sub_cons (List.Mem.head _) (forall_append (sub_cons (List.Mem.tail _ (List.Mem.tail _ (List.Mem.tail _ (List.Mem.tail _ (List.Mem.tail _ (List.Mem.tail _ (List.Mem.tail _ (List.Mem.tail _ (List.Mem.tail _ (List.Mem.tail _ (List.Mem.tail _ (List.Mem.tail _ (List.Mem.tail _ (List.Mem.head _)))))))))))))) (sub_cons (List.Mem.tail _ (List.Mem.tail _ (List.Mem.tail _ (List.Mem.tail _ (List.Mem.tail _ (List.Mem.tail _ (List.Mem.tail _ (List.Mem.tail _ (List.Mem.tail _ (List.Mem.tail _ (List.Mem.tail _ (List.Mem.tail _ (List.Mem.tail _ (List.Mem.tail _ (List.Mem.head _))))))))))))))) sub_nil)) (fun q hq => List.mem_cons_of_mem _ (List.mem_append_right _ (by rw [led_open eQ r8]; exact hq))))))
  case ret =>
    intro h8 tk8 c8 TP x8 tx8 tc8 hx8 hz8 ok8 hTP F8 NR8 N8
    obtain ⟨z8, tz8, ni8, rt8, vm8, sv8, nsv8, oPT8, r8⟩ := c8
    obtain ⟨hz9, hS9, hP9⟩ := ok8
    have N9 := news_join NR8 N8
    clear NR8 N8 kN' kF hput hOffS hBelS hOff0 hBel0
    have hOff0 := OffAll.at hOffQ r8
    have hBel0 := BelAll.at hBelQ r8
    simp only [List.append_eq, List.cons_append, List.nil_append] at N9
    have hxl8 : x8.length = (due xs sz fG (cds t)).x.length := by rw [← cds_len, hx8]
    have hxl9 : (due xs sz fG (cds t)).x.length ≤ 40 := Nat.le_trans (due_x_le hsz hxs _ (by rw [cds_len]; exact h2)) (by rw [cds_len]; omega)
    k_steps
    · unfold Stop
      (with_reducible rename News g' L' _ [(_, _), (_, _), (_, _)] => N3)
      (with_reducible rename News g' L' _ (_ :: _ :: _ :: _ :: _ :: _) => N9)
      (with_reducible rename Fr g' L' _ _ => F9)
      (with_reducible rename (∀ q ∈ _, _ ∧ _ ∧ _) => lt9)
      (with_reducible rename (most < _) => ha9)
      (rename_i n1 n2 n3)
      refine ⟨_, _, some _, rfl, X'.keeps F9.keep, (N3 _ (List.Mem.head _)).1, ?_⟩
      show wpAny (model prog w) _ (leaving _ (Value.ref _)) _ _ _
      refine wpAny_mono (first_leaves (Q := fun s => E (.ref _) s) B' F9 (news_join (news_cons N9 (List.Mem.tail _ (List.Mem.tail _ (List.Mem.tail _ (List.Mem.tail _ (List.Mem.tail _ (List.Mem.tail _ (List.Mem.tail _ (List.Mem.tail _ (List.Mem.tail _ (List.Mem.tail _ (List.Mem.tail _ (List.Mem.tail _ (List.Mem.tail _ (List.Mem.tail _ (List.Mem.tail _ (List.Mem.tail _ (List.Mem.tail _ (List.Mem.tail _ (List.Mem.tail _ (List.Mem.tail _ (List.Mem.tail _ (List.Mem.tail _ (List.Mem.tail _ (List.Mem.tail _ (List.Mem.tail _ (List.Mem.head _)))))))))))))))))))))))))) (news_cons N9 (List.Mem.tail _ (List.Mem.tail _ (List.Mem.tail _ (List.Mem.tail _ (List.Mem.tail _ (List.Mem.tail _ (List.Mem.tail _ (List.Mem.tail _ (List.Mem.tail _ (List.Mem.tail _ (List.Mem.tail _ (List.Mem.tail _ (List.Mem.tail _ (List.Mem.tail _ (List.Mem.tail _ (List.Mem.tail _ (List.Mem.tail _ (List.Mem.tail _ (List.Mem.tail _ (List.Mem.tail _ (List.Mem.tail _ (List.Mem.tail _ (List.Mem.tail _ (List.Mem.tail _ (List.Mem.tail _ (List.Mem.tail _ (List.Mem.head _))))))))))))))))))))))))))) News.nil)) (SplitTl.tl (tl := LedQ r8) (by repeat (first | exact SplitTl.nil | apply SplitTl.cons)) N9)) N3 rfl rfl ?_ n2 n3 ?_) (fun _ _ h => h) (fun _ _ h => h)
      · exact fun q hq => lt9 q (forall_append (sub_cons (List.Mem.tail _ (List.Mem.tail _ (List.Mem.tail _ (List.Mem.tail _ (List.Mem.tail _ (List.Mem.tail _ (List.Mem.tail _ (List.Mem.tail _ (List.Mem.tail _ (List.Mem.tail _ (List.Mem.tail _ (List.Mem.tail _ (List.Mem.tail _ (List.Mem.tail _ (List.Mem.tail _ (List.Mem.tail _ (List.Mem.tail _ (List.Mem.tail _ (List.Mem.tail _ (List.Mem.tail _ (List.Mem.tail _ (List.Mem.tail _ (List.Mem.tail _ (List.Mem.tail _ (List.Mem.tail _ (List.Mem.head _)))))))))))))))))))))))))) (sub_cons (List.Mem.tail _ (List.Mem.tail _ (List.Mem.tail _ (List.Mem.tail _ (List.Mem.tail _ (List.Mem.tail _ (List.Mem.tail _ (List.Mem.tail _ (List.Mem.tail _ (List.Mem.tail _ (List.Mem.tail _ (List.Mem.tail _ (List.Mem.tail _ (List.Mem.tail _ (List.Mem.tail _ (List.Mem.tail _ (List.Mem.tail _ (List.Mem.tail _ (List.Mem.tail _ (List.Mem.tail _ (List.Mem.tail _ (List.Mem.tail _ (List.Mem.tail _ (List.Mem.tail _ (List.Mem.tail _ (List.Mem.tail _ (List.Mem.head _))))))))))))))))))))))))))) sub_nil)) (SplitTl.mem (tl := LedQ r8) (by repeat (first | exact SplitTl.nil | apply SplitTl.cons))) q hq)
      · intro h9 R9 U9 D9
        rw [led_open eQ r8] at R9
        exact raise h9 _ r8 _ _ _ _ g' (ktOf [_, _, _, _]) _ _ (.inr ⟨hz8, by rw [← hxl8]; exact ha9, rfl⟩) hP9 FG' U9 D9 R9
    · (with_reducible rename News h₀ L _ (_ :: _) => N9)
      (with_reducible rename Fr h₀ L _ _ => F9)
      (with_reducible rename (fR = true) => hr9)
      (with_reducible rename (¬ most < _) => ha9)
      exact ret _ _ r8 _ t _ st psT (.inl ⟨hr9, ⟨_, _, rfl, hx8⟩, rfl⟩) hz8 (by rw [← hxl8]; omega) hP9 F9 (by rw [← led_open eQ r8]; exact (news_join (news_cons N9 (List.Mem.tail _ (List.Mem.tail _ (List.Mem.tail _ (List.Mem.tail _ (List.Mem.tail _ (List.Mem.tail _ (List.Mem.tail _ (List.Mem.tail _ (List.Mem.tail _ (List.Mem.tail _ (List.Mem.tail _ (List.Mem.tail _ (List.Mem.tail _ (List.Mem.tail _ (List.Mem.tail _ (List.Mem.tail _ (List.Mem.tail _ (List.Mem.tail _ (List.Mem.tail _ (List.Mem.tail _ (List.Mem.tail _ (List.Mem.tail _ (List.Mem.tail _ (List.Mem.tail _ (List.Mem.tail _ (List.Mem.head _)))))))))))))))))))))))))) (news_cons N9 (List.Mem.tail _ (List.Mem.tail _ (List.Mem.tail _ (List.Mem.tail _ (List.Mem.tail _ (List.Mem.tail _ (List.Mem.tail _ (List.Mem.tail _ (List.Mem.tail _ (List.Mem.tail _ (List.Mem.tail _ (List.Mem.tail _ (List.Mem.tail _ (List.Mem.tail _ (List.Mem.tail _ (List.Mem.tail _ (List.Mem.tail _ (List.Mem.tail _ (List.Mem.tail _ (List.Mem.tail _ (List.Mem.tail _ (List.Mem.tail _ (List.Mem.tail _ (List.Mem.tail _ (List.Mem.tail _ (List.Mem.tail _ (List.Mem.head _))))))))))))))))))))))))))) News.nil)) (SplitTl.tl (tl := LedQ r8) (by repeat (first | exact SplitTl.nil | apply SplitTl.cons)) N9)))
    · (with_reducible rename News h₀ L _ (_ :: _) => N9)
      (with_reducible rename Fr h₀ L _ _ => F9)
      (with_reducible rename (fR = false) => hr9)
      (with_reducible rename (¬ most < _) => ha9)
      (with_reducible rename ((_ : Int) = 0) => hk9)
      exact ret _ _ r8 _ t _ st psT (.inr (.inl ⟨hr9, by omega, ⟨_, rfl⟩, rfl⟩)) hz8 (by rw [← hxl8]; omega) hP9 F9 (by rw [← led_open eQ r8]; exact (news_join (news_cons N9 (List.Mem.tail _ (List.Mem.tail _ (List.Mem.tail _ (List.Mem.tail _ (List.Mem.tail _ (List.Mem.tail _ (List.Mem.tail _ (List.Mem.tail _ (List.Mem.tail _ (List.Mem.tail _ (List.Mem.tail _ (List.Mem.tail _ (List.Mem.tail _ (List.Mem.tail _ (List.Mem.tail _ (List.Mem.tail _ (List.Mem.tail _ (List.Mem.tail _ (List.Mem.tail _ (List.Mem.tail _ (List.Mem.tail _ (List.Mem.tail _ (List.Mem.tail _ (List.Mem.tail _ (List.Mem.tail _ (List.Mem.head _)))))))))))))))))))))))))) (news_cons N9 (List.Mem.tail _ (List.Mem.tail _ (List.Mem.tail _ (List.Mem.tail _ (List.Mem.tail _ (List.Mem.tail _ (List.Mem.tail _ (List.Mem.tail _ (List.Mem.tail _ (List.Mem.tail _ (List.Mem.tail _ (List.Mem.tail _ (List.Mem.tail _ (List.Mem.tail _ (List.Mem.tail _ (List.Mem.tail _ (List.Mem.tail _ (List.Mem.tail _ (List.Mem.tail _ (List.Mem.tail _ (List.Mem.tail _ (List.Mem.tail _ (List.Mem.tail _ (List.Mem.tail _ (List.Mem.tail _ (List.Mem.tail _ (List.Mem.head _))))))))))))))))))))))))))) News.nil)) (SplitTl.tl (tl := LedQ r8) (by repeat (first | exact SplitTl.nil | apply SplitTl.cons)) N9)))
    · (with_reducible rename News h₀ L _ (_ :: _) => N9)
      (with_reducible rename Fr h₀ L _ _ => F9)
      (with_reducible rename (fR = false) => hr9)
      (with_reducible rename (¬ most < _) => ha9)
      (with_reducible rename ((_ : Int) ≠ 0) => hk9)
      exact ret _ _ r8 _ x8 _ (ktOf [_, _, _, _, _, _, _, _]) psT (.inr (.inr ⟨hr9, by omega, ⟨_, rfl⟩, hx8⟩)) hz8 (by rw [← hxl8]; omega) hP9 F9 (by rw [← led_open eQ r8]; exact (news_join (news_cons N9 (List.Mem.tail _ (List.Mem.tail _ (List.Mem.tail _ (List.Mem.tail _ (List.Mem.tail _ (List.Mem.tail _ (List.Mem.tail _ (List.Mem.tail _ (List.Mem.tail _ (List.Mem.tail _ (List.Mem.tail _ (List.Mem.tail _ (List.Mem.tail _ (List.Mem.tail _ (List.Mem.tail _ (List.Mem.tail _ (List.Mem.tail _ (List.Mem.tail _ (List.Mem.tail _ (List.Mem.tail _ (List.Mem.tail _ (List.Mem.tail _ (List.Mem.tail _ (List.Mem.tail _ (List.Mem.tail _ (List.Mem.tail _ (List.Mem.head _))))))))))))))))))))))))))) (news_cons N9 (List.Mem.tail _ (List.Mem.tail _ (List.Mem.tail _ (List.Mem.tail _ (List.Mem.tail _ (List.Mem.tail _ (List.Mem.tail _ (List.Mem.tail _ (List.Mem.tail _ (List.Mem.tail _ (List.Mem.tail _ (List.Mem.tail _ (List.Mem.tail _ (List.Mem.tail _ (List.Mem.tail _ (List.Mem.tail _ (List.Mem.tail _ (List.Mem.tail _ (List.Mem.tail _ (List.Mem.tail _ (List.Mem.tail _ (List.Mem.tail _ (List.Mem.tail _ (List.Mem.tail _ (List.Mem.tail _ (List.Mem.tail _ (List.Mem.tail _ (List.Mem.head _)))))))))))))))))))))))))))) News.nil)) (SplitTl.tl (tl := LedQ r8) (by repeat (first | exact SplitTl.nil | apply SplitTl.cons)) N9)))
end

end MRep2S
section MLimS
theorem resetMLim : True := by
  w_top off
  trivial
local macro_rules | `(tactic| k_room) => `(tactic| ktr_room)
local macro_rules | `(tactic| walk_at "subscriptTail Name Constant ref int") => `(tactic| (k_here; (with_reducible show wpAny _ _ (subscriptTail _ _ (Value.ref _) (Value.int _ _)) _ _ _); (with_unfolding_all refine' item_litK ?k1 ?k2 ?k3 ?k4 ?_ ?k6; (case k1 => is_list); (case k2 => decide); (case k3 => decide); (case k4 => rfl); (case k6 => with_unfolding_all rfl); k_whole)))
local macro_rules | `(tactic| walk_at "binaryOp Mult ref int") => `(tactic| (k_here; (with_reducible show wpAny _ _ (binaryOp Operator.Mult (Value.ref _) (Value.int _ _)) _ _ _); k_dflt (refine' KMa.mul ?F ?N ?l ?lo ?hi ?z ?e ?_; (case F => k_asm); (case N => k_asm); (case l => is_list); (case lo => decide); (case hi => decide); (case z => exact Nat.le_of_ble_eq_true rfl); (case e => exact rfl); k_whole); intro D' h' F' N' l1; (try k_lt l1); (try k_sweep)))
local macro_rules | `(tactic| walk_at "exec While") => `(tactic| (k_here; (with_reducible show wpAny _ _ (exec (Stmt.While (Expr.Constant _ _ _) _ _ _) _) _ _ _); k_dflt (refine whl_start 100 ?_)))
local macro_rules | `(tactic| walk_at "subscriptTail") => `(tactic| (k_here; (with_reducible show wpAny _ _ (subscriptTail _ _ (Value.str _ _) (Value.int _ _)) _ _ _); (refine item_ab (by assumption) (by omega) (by omega) (by omega) ?_ ?_) <;> intro _))
section
variable {prog : Program} {w : World} {p : Program} {loose : List Str} {mean : ExcName → Option Value} {mg mb : Str → Option Value}
  {dp un : Nat} {gd : Option (List Code)} {cn : Str} {cs : Scope} {a : Addr} {ccd : Value} {cl : List (Str × Addr)} {outer : List Env} {A₀ : Around} {base h₀ : Heap} {L : Addr} {m : Str → Option Value} {s : Shared}
  {Q E : Value → Shared → Prop} {rest : List (Addr × Obj)}
  (B : Below A₀ base outer h₀) (F : Fr h₀ L s.heap m) (X : (hd.heap_39 w.params).In h₀) (T : Top p loose mean mg mb h₀) (hk : cs.kind = .function) (NR : News h₀ L s.heap rest)
include B F X T hk NR
theorem lim_ok {most : Int} {tmo : Tok}
  (hd : dp + 10 < recursionLimit) (hu : un + 50 < cLine)
  (ret : ∀ (x d : Nat) h' tk kt vw vd tm vi, d < x → (∀ q ∈ rest, q.1 < d) → Fr h₀ L h' m → News h₀ L h' rest → News h₀ L h' [(x, instObj 880 d), (d, limD w kt vw vd (.int 1000000 tm) (.int most tmo) vi)] → Q (.ref x) { s with heap := h', toks := tk }) :
  wpAny (model prog w) (ktrTop dp un gd cn cs L a ccd cl outer) (call (.ref 880) [] [(Str.ofString "text", .int most tmo)]) Q E s := by
  refine' call_cls (fI := ?fI) F X NR (by k_is) (by k_is) (by k_is) ?_
  intro x d h' F' N' l1 l2
  have l3 := l2
  (try k_lt2 l2)
  have NR' : News h₀ L h' rest := fun p hp => N' p (List.mem_cons_of_mem _ (List.mem_cons_of_mem _ hp))
  have N2 : News h₀ L h' [(x, instObj 880 d), (d, dictOf [] 0)] := news_cons N' (List.Mem.head _) (news_cons N' (List.Mem.tail _ (List.Mem.head _)) News.nil)
  have hdis : ∀ b ∈ [(x, instObj 880 d), (d, dictOf [] 0)], ∀ q ∈ rest, q.1 ≠ b.1 := by
    intro b hb q hq
    have h1 := l1 q hq
    rcases List.mem_cons.mp hb with rfl | hb
    · exact Nat.ne_of_lt (Nat.lt_trans h1 l3)
    · rw [List.mem_singleton.mp hb]; exact Nat.ne_of_lt h1
  clear N' F NR
  k_dflt (refine' code_restI NR' hdis ?k1 ?k2 ?k3 N2 ?k5 ?kA ?kF ?kK ?k6 ?k7 ?k8 ?k9 ?kB ?_ ?c2 ?c3 ?c4 ?c5)
  case kA => exact rfl
  case kF => exact rfl
  case kK => assumption
  case k1 => k_asm
  case k2 => k_asm
  case k3 => k_asm
  case k5 => k_asm
  case k6 => k_dflt k_is
  case k7 => k_dflt k_is
  case k8 => ktr_room
  case k9 => k_dflt (first | exact BindsTo.of_eq rfl | exact binds_K (by k_in) rfl (by k_is) rfl rfl rfl)
  case c5 => decide
  case kB => exact locs rfl
  case c2 => exact rfl
  case c3 => exact rfl
  case c4 => exact rfl
  clear N2
  intro g' L' h' FG' F' N' B' X' T' hL1
  (try dsimp only)
  (try k_fold)
  k_steps
  (with_reducible rename News h₀ L _ rest => NR9)
  (with_reducible rename News h₀ L _ (_ :: _) => N9)
  (with_reducible rename Fr h₀ L _ _ => F9)
  exact ret x d _ _ (ktOf [_, _, _, _, _]) _ _ _ _ l3 l1 F9 NR9 N9
end

end MLimS
section MObjS
theorem resetMObj : True := by
  w_top off
  trivial
local macro_rules | `(tactic| walk_at "none") => `(tactic| fail "none")
local macro_rules | `(tactic| k_room) => `(tactic| ktr_room)
local macro_rules | `(tactic| walk_at "subscriptTail Name Constant ref int") => `(tactic| (k_here; (with_reducible show wpAny _ _ (subscriptTail _ _ (Value.ref _) (Value.int _ _)) _ _ _); (with_unfolding_all refine' item_litK ?k1 ?k2 ?k3 ?k4 ?_ ?k6; (case k1 => is_list); (case k2 => decide); (case k3 => decide); (case k4 => rfl); (case k6 => with_unfolding_all rfl); k_whole)))
local macro_rules | `(tactic| walk_at "binaryOp Mult ref int") => `(tactic| (k_here; (with_reducible show wpAny _ _ (binaryOp Operator.Mult (Value.ref _) (Value.int _ _)) _ _ _); k_dflt (refine' KMa.mul ?F ?N ?l ?lo ?hi ?z ?e ?_; (case F => k_asm); (case N => k_asm); (case l => is_list); (case lo => decide); (case hi => decide); (case z => exact Nat.le_of_ble_eq_true rfl); (case e => exact rfl); k_whole); intro D' h' F' N' l1; (try k_lt l1); (try k_sweep)))
local macro_rules | `(tactic| walk_at "exec While") => `(tactic| (k_here; (with_reducible show wpAny _ _ (exec (Stmt.While (Expr.Constant _ _ _) _ _ _) _) _ _ _); k_dflt (refine whl_start 100 ?_)))
local macro_rules | `(tactic| walk_at "subscriptTail") => `(tactic| (k_here; (with_reducible show wpAny _ _ (subscriptTail _ _ (Value.str _ _) (Value.int _ _)) _ _ _); (refine item_ab (by assumption) (by omega) (by omega) (by omega) ?_ ?_) <;> intro _))
@[reducible] def heapD (w : World) (kt : Nat → Tok) (lim last zero : Value) : Obj :=
  dictOf [ent w "limits" (kt 0) lim, ent w "last" (kt 1) last, ent w "zero" (kt 2) zero] 3
section
variable {prog : Program} {w : World} {p : Program} {loose : List Str} {mean : ExcName → Option Value} {mg mb : Str → Option Value}
  {dp un : Nat} {gd : Option (List Code)} {cn : Str} {cs : Scope} {a : Addr} {ccd : Value} {cl : List (Str × Addr)} {outer : List Env} {A₀ : Around} {base h₀ : Heap} {L : Addr} {m : Str → Option Value} {s : Shared}
  {Q E : Value → Shared → Prop} {rest : List (Addr × Obj)}
  (B : Below A₀ base outer h₀) (F : Fr h₀ L s.heap m) (X : (hd.heap_39 w.params).In h₀) (T : Top p loose mean mg mb h₀) (hk : cs.kind = .function) (NR : News h₀ L s.heap rest)
include B F X T hk NR
theorem heap_ok {LM : Nat}
  (hd : dp + 10 < recursionLimit) (hu : un + 50 < cLine)
  (ret : ∀ (x d : Nat) h' tk kt tl vz, (∀ q ∈ rest, q.1 < d) → d < x → Fr h₀ L h' m → News h₀ L h' rest → News h₀ L h' [(x, instObj 225 d), (d, heapD w kt (.ref LM) (.int 0 tl) vz)] → Q (.ref x) { s with heap := h', toks := tk }) :
  wpAny (model prog w) (ktrTop dp un gd cn cs L a ccd cl outer) (call (.ref 225) [.ref LM] []) Q E s := by
  refine' call_cls (fI := ?fI) F X NR (by k_is) (by k_is) (by k_is) ?_
  intro x d h' F' N' l1 l2
  have l3 := l2
  (try k_lt2 l2)
  have NR' : News h₀ L h' rest := fun p hp => N' p (List.mem_cons_of_mem _ (List.mem_cons_of_mem _ hp))
  have N2 : News h₀ L h' [(x, instObj 225 d), (d, dictOf [] 0)] := news_cons N' (List.Mem.head _) (news_cons N' (List.Mem.tail _ (List.Mem.head _)) News.nil)
  have hdis : ∀ b ∈ [(x, instObj 225 d), (d, dictOf [] 0)], ∀ q ∈ rest, q.1 ≠ b.1 := by
    intro b hb q hq
    have h1 := l1 q hq
    rcases List.mem_cons.mp hb with rfl | hb
    · exact Nat.ne_of_lt (Nat.lt_trans h1 l3)
    · rw [List.mem_singleton.mp hb]; exact Nat.ne_of_lt h1
  clear N' F NR
  k_dflt (refine' code_restI NR' hdis ?k1 ?k2 ?k3 N2 ?k5 ?kA ?kF ?kK ?k6 ?k7 ?k8 ?k9 ?kB ?_ ?c2 ?c3 ?c4 ?c5)
  case kA => exact rfl
  case kF => exact rfl
  case kK => assumption
  case k1 => k_asm
  case k2 => k_asm
  case k3 => k_asm
  case k5 => k_asm
  case k6 => k_dflt k_is
  case k7 => k_dflt k_is
  case k8 => ktr_room
  case k9 => k_dflt (first | exact BindsTo.of_eq rfl | exact binds_K (by k_in) rfl (by k_is) rfl rfl rfl)
  case c5 => decide
  case kB => exact locs rfl
  case c2 => exact rfl
  case c3 => exact rfl
  case c4 => exact rfl
  clear N2
  intro g' L' h' FG' F' N' B' X' T' hL1
  (try dsimp only)
  (try k_fold)
  k_steps
  (with_reducible rename News h₀ L _ rest => NR9)
  (with_reducible rename News h₀ L _ (_ :: _) => N9)
  (with_reducible rename Fr h₀ L _ _ => F9)
  exact ret x d _ _ (ktOf [_, _, _]) _ _ l1 l3 F9 NR9 (news_cons N9 (List.Mem.tail _ (List.Mem.head _)) (news_cons N9 (List.Mem.tail _ (List.Mem.tail _ (List.Mem.head _))) News.nil))
theorem cnt_ok {H : Nat}
  (hd : dp + 10 < recursionLimit) (hu : un + 50 < cLine)
  (ret : ∀ (x d y e : Nat) h' tk kt oy oe, x < y → y < e → oy.IsDictOf (PySem.intKind prog w) [] → oe.IsDictOf (PySem.intKind prog w) [] → ((y : Addr) == sysModules) = false → ((e : Addr) == sysModules) = false → (∀ q ∈ rest, q.1 < d) → d < x → Fr h₀ L h' m → News h₀ L h' rest → News h₀ L h' [(e, oe), (y, oy), (x, instObj 356 d), (d, cntD w kt (.ref H) .none (.ref y) (.ref e))] → Q (.ref x) { s with heap := h', toks := tk }) :
  wpAny (model prog w) (ktrTop dp un gd cn cs L a ccd cl outer) (call (.ref 356) [.ref H, .none] []) Q E s := by
  refine' call_cls (fI := ?fI) F X NR (by k_is) (by k_is) (by k_is) ?_
  intro x d h' F' N' l1 l2
  have l3 := l2
  (try k_lt2 l2)
  have NR' : News h₀ L h' rest := fun p hp => N' p (List.mem_cons_of_mem _ (List.mem_cons_of_mem _ hp))
  have N2 : News h₀ L h' [(x, instObj 356 d), (d, dictOf [] 0)] := news_cons N' (List.Mem.head _) (news_cons N' (List.Mem.tail _ (List.Mem.head _)) News.nil)
  have hdis : ∀ b ∈ [(x, instObj 356 d), (d, dictOf [] 0)], ∀ q ∈ rest, q.1 ≠ b.1 := by
    intro b hb q hq
    have h1 := l1 q hq
    rcases List.mem_cons.mp hb with rfl | hb
    · exact Nat.ne_of_lt (Nat.lt_trans h1 l3)
    · rw [List.mem_singleton.mp hb]; exact Nat.ne_of_lt h1
  clear N' F NR
  k_dflt (refine' code_restI NR' hdis ?k1 ?k2 ?k3 N2 ?k5 ?kA ?kF ?kK ?k6 ?k7 ?k8 ?k9 ?kB ?_ ?c2 ?c3 ?c4 ?c5)
  case kA => exact rfl
  case kF => exact rfl
  case kK => assumption
  case k1 => k_asm
  case k2 => k_asm
  case k3 => k_asm
  case k5 => k_asm
  case k6 => k_dflt k_is
  case k7 => k_dflt k_is
  case k8 => ktr_room
  case k9 => k_dflt (first | exact BindsTo.of_eq rfl | exact binds_K (by k_in) rfl (by k_is) rfl rfl rfl)
  case c5 => decide
  case kB => exact locs rfl
  case c2 => exact rfl
  case c3 => exact rfl
  case c4 => exact rfl
  clear N2
  intro g' L' h' FG' F' N' B' X' T' hL1
  (try dsimp only)
  (try k_fold)
  k_steps
  (with_reducible rename News h₀ L _ rest => NR9)
  (with_reducible rename News h₀ L _ (_ :: _) => N9)
  (with_reducible rename Fr h₀ L _ _ => F9)
  have NZ := N9
  (with_reducible rename (_ ∧ _) => la)
  have la1 := la.1
  clear la
  (with_reducible rename (_ ∧ _) => lb)
  refine ret x d _ _ _ _ (ktOf [_, _, _, _]) _ _ lb.1 la1 ?_ ?_ ?_ ?_ l1 l3 F9 NR9 NZ
  all_goals assumption
theorem run_ok {H C M : Nat}
  (hd : dp + 10 < recursionLimit) (hu : un + 50 < cLine)
  (ret : ∀ (x d y e : Nat) h' tk kt ny oe v4 v5 v6 v7 v8 v9 v10 v12 v15 v16 v17 v18, x < y → y < e → oe.IsDictOf (PySem.strKind prog w) [] → ((e : Addr) == sysModules) = false → (∀ q ∈ rest, q.1 < d) → d < x → Fr h₀ L h' m → News h₀ L h' rest → News h₀ L h' [(e, oe), (y, PySem.W.listOf [].toArray ny), (x, instObj 858 d), (d, runD w kt (.ref H) (.ref C) .none (.ref M) v4 v5 v6 v7 v8 v9 v10 (.ref y) v12 .none (.ref e) v15 v16 v17 v18)] → Q (.ref x) { s with heap := h', toks := tk }) :
  wpAny (model prog w) (ktrTop dp un gd cn cs L a ccd cl outer) (call (.ref 858) [.ref H, .ref C, .none, .ref M] []) Q E s := by
  refine' call_cls (fI := ?fI) F X NR (by k_is) (by k_is) (by k_is) ?_
  intro x d h' F' N' l1 l2
  have l3 := l2
  (try k_lt2 l2)
  have NR' : News h₀ L h' rest := fun p hp => N' p (List.mem_cons_of_mem _ (List.mem_cons_of_mem _ hp))
  have N2 : News h₀ L h' [(x, instObj 858 d), (d, dictOf [] 0)] := news_cons N' (List.Mem.head _) (news_cons N' (List.Mem.tail _ (List.Mem.head _)) News.nil)
  have hdis : ∀ b ∈ [(x, instObj 858 d), (d, dictOf [] 0)], ∀ q ∈ rest, q.1 ≠ b.1 := by
    intro b hb q hq
    have h1 := l1 q hq
    rcases List.mem_cons.mp hb with rfl | hb
    · exact Nat.ne_of_lt (Nat.lt_trans h1 l3)
    · rw [List.mem_singleton.mp hb]; exact Nat.ne_of_lt h1
  clear N' F NR
  k_dflt (refine' code_restI NR' hdis ?k1 ?k2 ?k3 N2 ?k5 ?kA ?kF ?kK ?k6 ?k7 ?k8 ?k9 ?kB ?_ ?c2 ?c3 ?c4 ?c5)
  case kA => exact rfl
  case kF => exact rfl
  case kK => assumption
  case k1 => k_asm
  case k2 => k_asm
  case k3 => k_asm
  case k5 => k_asm
  case k6 => k_dflt k_is
  case k7 => k_dflt k_is
  case k8 => ktr_room
  case k9 => k_dflt (first | exact BindsTo.of_eq rfl | exact binds_K (by k_in) rfl (by k_is) rfl rfl rfl)
  case c5 => decide
  case kB => exact locs rfl
  case c2 => exact rfl
  case c3 => exact rfl
  case c4 => exact rfl
  clear N2
  intro g' L' h' FG' F' N' B' X' T' hL1
  (try dsimp only)
  (try k_fold)
  k_steps
  (with_reducible rename News h₀ L _ rest => NR9)
  (with_reducible rename News h₀ L _ (_ :: _) => N9)
  (with_reducible rename Fr h₀ L _ _ => F9)
  have NZ := (news_cons N9 (List.Mem.head _) (news_cons N9 (List.Mem.tail _ (List.Mem.tail _ (List.Mem.head _))) (news_cons N9 (List.Mem.tail _ (List.Mem.tail _ (List.Mem.tail _ (List.Mem.tail _ (List.Mem.tail _ (List.Mem.tail _ (List.Mem.tail _ (List.Mem.tail _ (List.Mem.tail _ (List.Mem.tail _ (List.Mem.head _))))))))))) (news_cons N9 (List.Mem.tail _ (List.Mem.tail _ (List.Mem.tail _ (List.Mem.tail _ (List.Mem.tail _ (List.Mem.tail _ (List.Mem.tail _ (List.Mem.tail _ (List.Mem.tail _ (List.Mem.tail _ (List.Mem.tail _ (List.Mem.head _)))))))))))) News.nil))))
  (with_reducible rename (_ ∧ _) => la)
  have la1 := la.2.1
  clear la
  (with_reducible rename (_ ∧ _) => la2)
  clear la2
  (with_reducible rename (_ ∧ _) => lb)
  refine ret x d _ _ _ _ (ktOf [_, _, _, _, _, _, _, _, _, _, _, _, _, _, _, _, _, _, _]) _ _ _ _ _ _ _ _ _ _ _ _ _ _ lb.2.2.2.2.2.2.2.1 la1 ?_ ?_ l1 l3 F9 NR9 NZ
  all_goals assumption
theorem prog_ok {RL DN : Nat} {t1 t2 : Tok}
  (hd : dp + 10 < recursionLimit) (hu : un + 50 < cLine)
  (ret : ∀ (x d : Nat) h' tk kt, (∀ q ∈ rest, q.1 < d) → d < x → Fr h₀ L h' m → News h₀ L h' rest → News h₀ L h' [(x, instObj 901 d), (d, progD w kt (.ref RL) (.int 0 t1) (.int 0 t2) (.ref DN))] → Q (.ref x) { s with heap := h', toks := tk }) :
  wpAny (model prog w) (ktrTop dp un gd cn cs L a ccd cl outer) (call (.ref 901) [.ref RL, .int 0 t1, .int 0 t2, .ref DN] []) Q E s := by
  refine' call_cls (fI := ?fI) F X NR (by k_is) (by k_is) (by k_is) ?_
  intro x d h' F' N' l1 l2
  have l3 := l2
  (try k_lt2 l2)
  have NR' : News h₀ L h' rest := fun p hp => N' p (List.mem_cons_of_mem _ (List.mem_cons_of_mem _ hp))
  have N2 : News h₀ L h' [(x, instObj 901 d), (d, dictOf [] 0)] := news_cons N' (List.Mem.head _) (news_cons N' (List.Mem.tail _ (List.Mem.head _)) News.nil)
  have hdis : ∀ b ∈ [(x, instObj 901 d), (d, dictOf [] 0)], ∀ q ∈ rest, q.1 ≠ b.1 := by
    intro b hb q hq
    have h1 := l1 q hq
    rcases List.mem_cons.mp hb with rfl | hb
    · exact Nat.ne_of_lt (Nat.lt_trans h1 l3)
    · rw [List.mem_singleton.mp hb]; exact Nat.ne_of_lt h1
  clear N' F NR
  k_dflt (refine' code_restI NR' hdis ?k1 ?k2 ?k3 N2 ?k5 ?kA ?kF ?kK ?k6 ?k7 ?k8 ?k9 ?kB ?_ ?c2 ?c3 ?c4 ?c5)
  case kA => exact rfl
  case kF => exact rfl
  case kK => assumption
  case k1 => k_asm
  case k2 => k_asm
  case k3 => k_asm
  case k5 => k_asm
  case k6 => k_dflt k_is
  case k7 => k_dflt k_is
  case k8 => ktr_room
  case k9 => k_dflt (first | exact BindsTo.of_eq rfl | exact binds_K (by k_in) rfl (by k_is) rfl rfl rfl)
  case c5 => decide
  case kB => exact locs rfl
  case c2 => exact rfl
  case c3 => exact rfl
  case c4 => exact rfl
  clear N2
  intro g' L' h' FG' F' N' B' X' T' hL1
  (try dsimp only)
  (try k_fold)
  k_steps
  (with_reducible rename News h₀ L _ rest => NR9)
  (with_reducible rename News h₀ L _ (_ :: _) => N9)
  (with_reducible rename Fr h₀ L _ _ => F9)
  exact ret x d _ _ (ktOf [_, _, _, _]) l1 l3 F9 NR9 N9
theorem fresh_ok {Y CT CTd H Hd : Nat} {oY : Obj} {ct ht : Nat → Tok} {vdes vpl vem vlim vz : Value} {tl tt : Tok} {t : Str}
  (N : News h₀ L s.heap [(Y, oY), (CT, instObj 356 CTd), (CTd, cntD w ct (.ref H) vdes vpl vem), (H, instObj 225 Hd), (Hd, heapD w ht vlim (.int 0 tl) vz)]) (hdis : ∀ b ∈ [(Y, oY), (CT, instObj 356 CTd), (CTd, cntD w ct (.ref H) vdes vpl vem), (H, instObj 225 Hd), (Hd, heapD w ht vlim (.int 0 tl) vz)], ∀ q ∈ rest, q.1 ≠ b.1)
  (l0 : Hd < H) (l1 : H < CTd) (l2 : CTd < CT) (l3 : CT < Y)
  (hd : dp + 10 < recursionLimit) (hu : un + 50 < cLine)
  (ret : ∀ (x d : Nat) h' tk kt num tnum c1 c2 c3 c4 c5, 0 ≤ num → num ≤ 1000 → Y < d → d < x → Fr h₀ L h' m → News h₀ L h' rest → News h₀ L h' [(x, instObj 66 d), (d, scaD w kt (.int num tnum) c1 c2 c3 c4 c5 (.str t tt) .none), (Y, oY), (CT, instObj 356 CTd), (CTd, cntD w ct (.ref H) vdes vpl vem)] → Q (.ref x) { s with heap := h', toks := tk }) :
  wpAny (model prog w) (ktrTop dp un gd cn cs L a ccd cl outer) (call (.ref 325) [.ref CT, .str t tt] []) Q E s := by
  refine wpAny_call ?_
  k_dflt (refine' code_restI NR hdis ?k1 ?k2 ?k3 N ?k5 ?kA ?kF ?kK ?k6 ?k7 ?k8 ?k9 ?kB ?_ ?c2 ?c3 ?c4 ?c5)
  case kA => exact rfl
  case kF => exact rfl
  case kK => assumption
  case k1 => k_asm
  case k2 => k_asm
  case k3 => k_asm
  case k5 => k_asm
  case k6 => k_dflt k_is
  case k7 => k_dflt k_is
  case k8 => ktr_room
  case k9 => k_dflt (first | exact BindsTo.of_eq rfl | exact binds_K (by k_in) rfl (by k_is) rfl rfl rfl)
  case c5 => decide
  case kB => exact locs rfl
  case c2 => exact rfl
  case c3 => exact rfl
  case c4 => exact rfl
  clear N
  intro g' L' h' FG' F' N' B' X' T' hL1
  (try dsimp only)
  (try k_fold)
  k_steps
  (with_reducible rename News h₀ L _ rest => NR9)
  (with_reducible rename News h₀ L _ (_ :: _) => N9)
  (with_reducible rename Fr h₀ L _ _ => F9)
  have NZ := (news_cons N9 (List.Mem.tail _ (List.Mem.head _)) (news_cons N9 (List.Mem.tail _ (List.Mem.tail _ (List.Mem.head _))) (news_cons N9 (List.Mem.tail _ (List.Mem.tail _ (List.Mem.tail _ (List.Mem.head _)))) (news_cons N9 (List.Mem.tail _ (List.Mem.tail _ (List.Mem.tail _ (List.Mem.tail _ (List.Mem.head _))))) (news_cons N9 (List.Mem.tail _ (List.Mem.tail _ (List.Mem.tail _ (List.Mem.tail _ (List.Mem.tail _ (List.Mem.head _)))))) News.nil)))))
  (with_reducible rename (_ ∧ _) => la)
  clear la
  (with_reducible rename (_ ∧ _) => lb)
  refine ret _ _ _ _ (ktOf [_, _, _, _, _, _, _, _]) _ _ _ _ _ _ _ ?_ ?_ lb.1 ?_ F9 NR9 NZ
  · decide
  · decide
  · assumption
end

end MObjS
section MEndS
theorem resetMEnd : True := by
  w_top off
  trivial
local macro_rules | `(tactic| k_room) => `(tactic| ktr_room)
local macro_rules | `(tactic| walk_at "subscriptTail Name Constant ref int") => `(tactic| (k_here; (with_reducible show wpAny _ _ (subscriptTail _ _ (Value.ref _) (Value.int _ _)) _ _ _); (with_unfolding_all refine' item_litK ?k1 ?k2 ?k3 ?k4 ?_ ?k6; (case k1 => is_list); (case k2 => decide); (case k3 => decide); (case k4 => rfl); (case k6 => with_unfolding_all rfl); k_whole)))
local macro_rules | `(tactic| walk_at "binaryOp Mult ref int") => `(tactic| (k_here; (with_reducible show wpAny _ _ (binaryOp Operator.Mult (Value.ref _) (Value.int _ _)) _ _ _); k_dflt (refine' KMa.mul ?F ?N ?l ?lo ?hi ?z ?e ?_; (case F => k_asm); (case N => k_asm); (case l => is_list); (case lo => decide); (case hi => decide); (case z => exact Nat.le_of_ble_eq_true rfl); (case e => exact rfl); k_whole); intro D' h' F' N' l1; (try k_lt l1); (try k_sweep)))
local macro_rules | `(tactic| walk_at "exec While") => `(tactic| (k_here; (with_reducible show wpAny _ _ (exec (Stmt.While (Expr.Constant _ _ _) _ _ _) _) _ _ _); k_dflt (refine whl_start 100 ?_)))
local macro_rules | `(tactic| walk_at "subscriptTail") => `(tactic| (k_here; (with_reducible show wpAny _ _ (subscriptTail _ _ (Value.str _ _) (Value.int _ _)) _ _ _); (refine item_ab (by assumption) (by omega) (by omega) (by omega) ?_ ?_) <;> intro _))
theorem with_repl {prog : Program} {w : World} {p : Program} {loose : List Str} {mean : ExcName → Option Value} {mg mb : Str → Option Value} {h : Heap} {A : Around} {t : Sem Value} {Q E : Value → Shared → Prop} {s : Shared} {xs : Int → Str} {sz : Nat → Int} {RF : Nat} {ρ : Type} {PR : Nat → ρ → Prop}
  (LedR : ρ → List (Addr × Obj)) (_ : Top p loose mean mg mb h) (hR : ∀ (prog : Program) (w : World) (p : Program) (loose : List Str) (mean : ExcName → Option Value) (mg mb : Str → Option Value), ReplSpec prog w p loose mean mg mb xs sz RF LedR PR) (k : ReplSpec prog w p loose mean mg mb xs sz RF LedR PR → wpAny (model prog w) A t Q E s) : wpAny (model prog w) A t Q E s := k (hR _ _ _ _ _ _ _)
structure ReplSt where
  cl : Array Value
  n : Nat
theorem repl_pack {name qual : Str} {params : Arguments} {body : List Stmt} {scope : Scope} {clos : List (Str × Addr)} {doc pm ct : Value} {c' : Addr} {o : Obj} {vs : Array Value} {t : Tok} (e : fnMade name qual params body scope clos doc pm c' ct = o) (d : vs[1]? = some (Value.str qual t)) : ∃ qq pm', fnMade name qq params body scope clos doc pm' c' ct = o ∧ vs[1]? = some (Value.str qq t) := ⟨qual, pm, e, d⟩
theorem ints_from : ∀ (l : List Value) (f : Nat → Int), (∀ i, i < l.length → ∃ t, l[i]? = some (.int (f i) t)) → IntsAre l ((List.range l.length).map f)
  | [], _, _ => .nil
  | v :: r, f, h => by
    obtain ⟨t, e⟩ := h 0 (by simp)
    rw [List.length_cons, List.range_succ_eq_map, List.map_cons, List.map_map]
    simp only [List.length_cons, List.getElem?_cons_zero, Option.some.injEq] at e
    rw [e]
    exact .cons _ _ (ints_from r (f ∘ Nat.succ) fun i hi => by
      obtain ⟨t', e'⟩ := h (i + 1) (by simp; omega)
      exact ⟨t', by simpa using e'⟩)
theorem sizes_ints {sz : Nat → Int} {sv : Array Value} (h : SizesAre sz sv) : IntsAre sv.toList ((List.range 8).map sz) := by
  have hl : sv.toList.length = 8 := by rw [Array.length_toList]; exact h.1
  have := ints_from sv.toList sz (fun i hi => by
    obtain ⟨t, e⟩ := h.2 i (by omega)
    exact ⟨t, by simpa using e⟩)
  rwa [hl] at this
theorem sizes_take {sz : Nat → Int} {sv : Array Value} (h : SizesAre sz sv) {k : Nat} (hk : k ≤ 8) : IntsAre (kms_pick sv.toList none (some (k : Int))) ((List.range k).map sz) := by
  have hl : sv.toList.length = 8 := by rw [Array.length_toList]; exact h.1
  have e : kms_pick sv.toList none (some (k : Int)) = sv.toList.take k := by
    unfold kms_pick kms_lo kms_hi
    rw [hl, List.drop_zero]
    have h1 : ¬ ((k : Int) < 0) := by omega
    simp only [h1, if_false]
    congr 1
    omega
  have e2 : (List.range k).map sz = ((List.range 8).map sz).take k := by
    rw [← List.map_take, List.take_range, Nat.min_eq_left hk]
  rw [e, e2]
  exact (sizes_ints h).take k
section
variable {prog : Program} {w : World} {A : Around} {E : Value → Shared → Prop} {s : Shared} {h₀ : Heap} {L : Addr} {m : Str → Option Value} {news : List (Addr × Obj)}
theorem slice_sz {value slice : PySem.Expr} {l : Addr} {sv : Array Value} {sz : Nat → Int} {k : Nat} {t : Tok} {Q : Value → Shared → Prop} (F : Fr h₀ L s.heap m) (N : News h₀ L s.heap news) (hl : s.heap.IsList l sv) (hsv : SizesAre sz sv) (hk : k ≤ 8)
    (h : ∀ D h' zs, IntsAre zs ((List.range k).map sz) → Fr h₀ L h' m → News h₀ L h' ((D, PySem.W.listOf zs.toArray 0) :: news) → Q (.ref D) { s with heap := h' })
    (hs : subscripted slice false (.ref l) (.ref s.heap.objs.size) = operate [.ref s.heap.objs.size, .ref l] (getItem (.ref l) (.ref s.heap.objs.size))) (ht : ∀ r, letTemporaryGo value (.ref l) r = pure ()) :
    wpAny (model prog w) A (subscriptTail value slice (.ref l) (.ref s.heap.objs.size)) Q E { s with heap := s.heap.push { cls := .type "slice", data := .fields #[.none, .int (k : Int) t, .none] } } := by
  refine kms_slice_lit F N hl .none (.int _ _) rfl (fun D h' F' N' _ => h D h' _ (sizes_take hsv hk) F' N') hs ht ?_
  rw [hsv.1, sizeLine_eq]
  decide
theorem same_ne {a b : Addr} {ca : Array Value} {zs : List Value} {ns : List Int} {Q : Value → Shared → Prop} (ha : s.heap.IsList a ca) (hb : s.heap.IsList b zs.toArray) (hi : IntsAre ca.toList ns) (hj : IntsAre zs ns) (hu : A.units + 64 < cLine) (h : Q (.bool false) s) :
    wpAny (model prog w) A (compareOp .NotEq (.ref a) (.ref b)) Q E s :=
  ke_ne_ints (xs := ca.toList) (by rw [Array.toArray_toList]; exact ha) hb hi hj hu (by simpa using h)
theorem same_eq {a b : Addr} {ca : Array Value} {zs : List Value} {ns : List Int} {Q : Value → Shared → Prop} (ha : s.heap.IsList a ca) (hb : s.heap.IsList b zs.toArray) (hi : IntsAre ca.toList ns) (hj : IntsAre zs ns) (hu : A.units + 64 < cLine) (h : Q (.bool true) s) :
    wpAny (model prog w) A (compareOp .Eq (.ref a) (.ref b)) Q E s :=
  ke_eq_ints (xs := ca.toList) (by rw [Array.toArray_toList]; exact ha) hb hi hj hu (by simpa using h)
end
theorem repdie_le {xs : Int → Str} {sz : Nat → Int} {g : Bool} {most : Int} {t : Str} {k : Nat} (a : RepDie xs sz g most t k) : k ≤ t.length := by
  rcases a with ⟨i, hi, _, _, rfl⟩ | ⟨_, _, rfl⟩
  · refine Nat.le_trans (due_k_le _) ?_
    rw [List.length_take, cds_len]
    omega
  · have := due_k_le (xs := xs) (sz := sz) (g := g) (cds t)
    rwa [cds_len] at this
theorem eq_same {prog : Program} {w : World} {A : Around} {E : Value → Shared → Prop} {s : Shared} {x : Str} {t u : Tok} {Q : Value → Shared → Prop} (h : Q (.bool true) s) : wpAny (model prog w) A (compareOp .Eq (.str x t) (.str x u)) Q E s := PyProof.Rows.eq_str (by rw [beq_self_eq_true]; exact h)

end MEndS
section MLawS
theorem resetMLaw : True := by
  w_top off
  trivial
local macro_rules | `(tactic| k_room) => `(tactic| ktr_room)
local macro_rules | `(tactic| walk_at "subscriptTail Name Constant ref int") => `(tactic| (k_here; (with_reducible show wpAny _ _ (subscriptTail _ _ (Value.ref _) (Value.int _ _)) _ _ _); (with_unfolding_all refine' item_litK ?k1 ?k2 ?k3 ?k4 ?_ ?k6; (case k1 => is_list); (case k2 => decide); (case k3 => decide); (case k4 => rfl); (case k6 => with_unfolding_all rfl); k_whole)))
local macro_rules | `(tactic| walk_at "binaryOp Mult ref int") => `(tactic| (k_here; (with_reducible show wpAny _ _ (binaryOp Operator.Mult (Value.ref _) (Value.int _ _)) _ _ _); k_dflt (refine' KMa.mul ?F ?N ?l ?lo ?hi ?z ?e ?_; (case F => k_asm); (case N => k_asm); (case l => is_list); (case lo => decide); (case hi => decide); (case z => exact Nat.le_of_ble_eq_true rfl); (case e => exact rfl); k_whole); intro D' h' F' N' l1; (try k_lt l1); (try k_sweep)))
local macro_rules | `(tactic| walk_at "exec While") => `(tactic| (k_here; (with_reducible show wpAny _ _ (exec (Stmt.While (Expr.Constant _ _ _) _ _ _) _) _ _ _); k_dflt (refine whl_start 100 ?_)))
local macro_rules | `(tactic| walk_at "subscriptTail") => `(tactic| (k_here; (with_reducible show wpAny _ _ (subscriptTail _ _ (Value.str _ _) (Value.int _ _)) _ _ _); (refine item_ab (by assumption) (by omega) (by omega) (by omega) ?_ ?_) <;> intro _))
local macro_rules | `(tactic| walk_at "call ref") => `(tactic| (k_here; (with_reducible show wpAny _ _ (call (Value.ref 912) _) _ _ _); (with_reducible rename News _ _ _ (_ :: _) => N9); first | ((with_reducible rename DeckAre _ _ _ => hD9); k_dflt (refine' card2 ?B ?F ?X ?T ?hk (Pick.rest ?S N9) hD9 (Pick.one ?S N9) ?dis ?len ?h0 ?h1 ?hm ?hm2 ?hd ?hu ?_; (case B => k_asm); (case F => k_asm); (case X => k_asm); (case T => k_asm); (case hk => exact rfl); (case S => (repeat (first | exact Pick.here | apply Pick.there))); (case dis => (refine List.forall_mem_cons.mpr ⟨?_, List.forall_mem_nil _⟩; k_all)); (case len => omega); (case h0 => omega); (case h1 => omega); (case hm => decide); (case hm2 => decide); (case hd => ktr_room); (case hu => ktr_units)); intro r' t' vs' h' tk' n' hD' a' b' F' N'; clear hD9; (try k_sweep)) | (refine stop_in ?_)))
local macro_rules | `(tactic| walk_at "eval ListComp") => `(tactic| (k_here; k_dflt (refine LCg.ListComp_U (F₀ := by k_asm) (by with_unfolding_all rfl) (by decide) (by rfl) (by decide) (by rfl) ?_)))
local macro_rules | `(tactic| walk_at "call builtin:str.join") => `(tactic| (k_here; (with_reducible rename StrsAre _ _ => hS9); (refine join_listW (by is_list) hS9 (by decide) (by with_reducible assumption) ?_; intro t' tk'; clear hS9)))
local macro_rules | `(tactic| walk_at "subscriptTail") => `(tactic| (k_here; (with_reducible show wpAny _ _ (subscriptTail _ _ (Value.ref _) (Value.int _ _)) _ _ _); (with_unfolding_all refine' item_fl ?k1 ?k2 ?k3 ?_ ?k6; (case k1 => is_list); (case k2 => omega); (case k3 => omega); (case k6 => with_unfolding_all rfl); k_whole); intro fl' t' hfl'))
local macro_rules | `(tactic| walk_at "exec Assign cons ListComp") => `(tactic| (k_here; k_dflt (refine LCg.Assign_ListComp_U (F₀ := by k_asm) (by rfl) (by with_unfolding_all rfl) (by with_unfolding_all rfl) (by decide) (by rfl) (by decide) (by rfl) (by rfl) (by rfl) ?_)))
local macro_rules | `(tactic| walk_at "CompSrc") => `(tactic| (k_here; (refine stop_in ?_)))
local macro_rules | `(tactic| walk_at "call ref") => `(tactic| (k_here; (with_reducible show wpAny _ _ (call (Value.ref 880) _ _) _ _ _); (with_reducible rename News _ _ _ (_ :: _) => N9); k_dflt ((refine' lim_ok ?B ?F ?X ?T ?hk N9 ?hd ?hu ?_; (case B => k_asm); (case F => k_asm); (case X => k_asm); (case T => k_asm); (case hk => exact rfl); (case hd => ktr_room); (case hu => ktr_units)); (intro x' d' h' tk' kt' vw' vd' tm' vi' l2 l1 F' NA NB; k_lt l1; have N' := news_join NB NA; simp only [List.cons_append, List.nil_append] at N'; clear NA NB N9)); (try k_sweep)))
local macro_rules | `(tactic| walk_at "call ref") => `(tactic| (k_here; (with_reducible show wpAny _ _ (call (Value.ref 225) _ _) _ _ _); (with_reducible rename News _ _ _ (_ :: _) => N9); k_dflt ((refine' heap_ok ?B ?F ?X ?T ?hk N9 ?hd ?hu ?_; (case B => k_asm); (case F => k_asm); (case X => k_asm); (case T => k_asm); (case hk => exact rfl); (case hd => ktr_room); (case hu => ktr_units)); (intro x' d' h' tk' kt' tl' vz' l1 l2 F' NA NB; have o1' : @LT.lt Nat _ _ d' := l1 _ (List.Mem.head _); clear l1; have N' := news_join NB NA; simp only [List.cons_append, List.nil_append] at N'; clear NA NB N9)); (try k_sweep)))
local macro_rules | `(tactic| walk_at "call ref") => `(tactic| (k_here; (with_reducible show wpAny _ _ (call (Value.ref 356) _ _) _ _ _); (with_reducible rename News _ _ _ (_ :: _) => N9); k_dflt ((refine' cnt_ok ?B ?F ?X ?T ?hk N9 ?hd ?hu ?_; (case B => k_asm); (case F => k_asm); (case X => k_asm); (case T => k_asm); (case hk => exact rfl); (case hd => ktr_room); (case hu => ktr_units)); (intro x' d' y' e' h' tk' kt' oy' oe' l3 l4 i1' i2' s1' s2' l1 l2 F' NA NB; have o1' : @LT.lt Nat _ _ d' := l1 _ (List.Mem.head _); clear l1; have N' := news_join NB NA; simp only [List.cons_append, List.nil_append] at N'; clear NA NB N9)); (try k_sweep)))
local macro_rules | `(tactic| walk_at "call ref") => `(tactic| (k_here; (with_reducible show wpAny _ _ (call (Value.ref 858) _ _) _ _ _); (with_reducible rename News _ _ _ (_ :: _) => N9); k_dflt ((refine' run_ok ?B ?F ?X ?T ?hk N9 ?hd ?hu ?_; (case B => k_asm); (case F => k_asm); (case X => k_asm); (case T => k_asm); (case hk => exact rfl); (case hd => ktr_room); (case hu => ktr_units)); (intro x' d' y' e' h' tk' kt' ny' oe' v4 v5 v6 v7 v8 v9 v10 v12 v15 v16 v17 v18 l3 l4 i1' s1' l1 l2 F' NA NB; have o1' : @LT.lt Nat _ _ d' := l1 _ (List.Mem.head _); clear l1; have N' := news_join NB NA; simp only [List.cons_append, List.nil_append] at N'; clear NA NB N9)); (try k_sweep)))
local macro_rules | `(tactic| walk_at "call ref") => `(tactic| (k_here; (with_reducible show wpAny _ _ (call (Value.ref 325) _ _) _ _ _); (with_reducible rename News _ _ _ (_ :: _) => N9); k_dflt ((refine' fresh_ok ?B ?F ?X ?T ?hk (news_cons N9 (List.Mem.tail _ (List.Mem.head _)) (news_cons N9 (List.Mem.tail _ (List.Mem.tail _ (List.Mem.head _))) (news_cons N9 (List.Mem.tail _ (List.Mem.tail _ (List.Mem.tail _ (List.Mem.head _)))) (news_cons N9 (List.Mem.tail _ (List.Mem.tail _ (List.Mem.tail _ (List.Mem.tail _ (List.Mem.head _))))) (news_cons N9 (List.Mem.tail _ (List.Mem.tail _ (List.Mem.tail _ (List.Mem.tail _ (List.Mem.tail _ (List.Mem.head _)))))) (news_cons N9 (List.Mem.tail _ (List.Mem.tail _ (List.Mem.tail _ (List.Mem.tail _ (List.Mem.tail _ (List.Mem.tail _ (List.Mem.tail _ (List.Mem.tail _ (List.Mem.tail _ (List.Mem.tail _ (List.Mem.head _))))))))))) (news_cons N9 (List.Mem.tail _ (List.Mem.tail _ (List.Mem.tail _ (List.Mem.tail _ (List.Mem.tail _ (List.Mem.tail _ (List.Mem.tail _ (List.Mem.tail _ (List.Mem.tail _ (List.Mem.tail _ (List.Mem.tail _ (List.Mem.head _)))))))))))) (news_cons N9 (List.Mem.tail _ (List.Mem.tail _ (List.Mem.tail _ (List.Mem.tail _ (List.Mem.tail _ (List.Mem.tail _ (List.Mem.tail _ (List.Mem.tail _ (List.Mem.tail _ (List.Mem.tail _ (List.Mem.tail _ (List.Mem.tail _ (List.Mem.head _))))))))))))) (news_cons N9 (List.Mem.tail _ (List.Mem.tail _ (List.Mem.tail _ (List.Mem.tail _ (List.Mem.tail _ (List.Mem.tail _ (List.Mem.tail _ (List.Mem.tail _ (List.Mem.tail _ (List.Mem.tail _ (List.Mem.tail _ (List.Mem.tail _ (List.Mem.tail _ (List.Mem.head _)))))))))))))) (news_cons N9 (List.Mem.tail _ (List.Mem.tail _ (List.Mem.tail _ (List.Mem.tail _ (List.Mem.tail _ (List.Mem.tail _ (List.Mem.tail _ (List.Mem.tail _ (List.Mem.tail _ (List.Mem.tail _ (List.Mem.tail _ (List.Mem.tail _ (List.Mem.tail _ (List.Mem.tail _ (List.Mem.head _))))))))))))))) (news_cons N9 (List.Mem.tail _ (List.Mem.tail _ (List.Mem.tail _ (List.Mem.tail _ (List.Mem.tail _ (List.Mem.tail _ (List.Mem.tail _ (List.Mem.tail _ (List.Mem.tail _ (List.Mem.tail _ (List.Mem.tail _ (List.Mem.tail _ (List.Mem.tail _ (List.Mem.tail _ (List.Mem.tail _ (List.Mem.head _)))))))))))))))) (news_cons N9 (List.Mem.tail _ (List.Mem.tail _ (List.Mem.tail _ (List.Mem.tail _ (List.Mem.tail _ (List.Mem.tail _ (List.Mem.tail _ (List.Mem.tail _ (List.Mem.tail _ (List.Mem.tail _ (List.Mem.tail _ (List.Mem.tail _ (List.Mem.tail _ (List.Mem.tail _ (List.Mem.tail _ (List.Mem.tail _ (List.Mem.head _))))))))))))))))) (news_cons N9 (List.Mem.tail _ (List.Mem.tail _ (List.Mem.tail _ (List.Mem.tail _ (List.Mem.tail _ (List.Mem.tail _ (List.Mem.tail _ (List.Mem.tail _ (List.Mem.tail _ (List.Mem.tail _ (List.Mem.tail _ (List.Mem.tail _ (List.Mem.tail _ (List.Mem.tail _ (List.Mem.tail _ (List.Mem.tail _ (List.Mem.tail _ (List.Mem.head _)))))))))))))))))) News.nil))))))))))))) (news_cons N9 (List.Mem.head _) (news_cons N9 (List.Mem.tail _ (List.Mem.tail _ (List.Mem.tail _ (List.Mem.tail _ (List.Mem.tail _ (List.Mem.tail _ (List.Mem.head _))))))) (news_cons N9 (List.Mem.tail _ (List.Mem.tail _ (List.Mem.tail _ (List.Mem.tail _ (List.Mem.tail _ (List.Mem.tail _ (List.Mem.tail _ (List.Mem.head _)))))))) (news_cons N9 (List.Mem.tail _ (List.Mem.tail _ (List.Mem.tail _ (List.Mem.tail _ (List.Mem.tail _ (List.Mem.tail _ (List.Mem.tail _ (List.Mem.tail _ (List.Mem.head _))))))))) (news_cons N9 (List.Mem.tail _ (List.Mem.tail _ (List.Mem.tail _ (List.Mem.tail _ (List.Mem.tail _ (List.Mem.tail _ (List.Mem.tail _ (List.Mem.tail _ (List.Mem.tail _ (List.Mem.head _)))))))))) News.nil))))) ?dis ?l0 ?l1 ?l2 ?l3 ?hd ?hu ?_; (case B => k_asm); (case F => k_asm); (case X => k_asm); (case T => k_asm); (case hk => exact rfl); (case dis => (repeat' first | exact List.forall_mem_nil _ | refine List.forall_mem_cons.mpr ⟨?_, ?_⟩ | (refine neN ?_; (try dsimp only); omega))); (case l0 => omega); (case l1 => omega); (case l2 => omega); (case l3 => omega); (case hd => ktr_room); (case hu => ktr_units)); (intro x' d' h' tk' kt' num' tnum' c1 c2 c3 c4 c5 hn1' hn2' l1 l2 F' NA NB; skip; have N' := news_join NB NA; simp only [List.cons_append, List.nil_append] at N'; clear NA NB N9)); (try k_sweep)))
local macro_rules | `(tactic| walk_at "call ref") => `(tactic| (k_here; (with_reducible show wpAny _ _ (call (Value.ref 901) _ _) _ _ _); (with_reducible rename News _ _ _ (_ :: _) => N9); k_dflt ((refine' prog_ok ?B ?F ?X ?T ?hk N9 ?hd ?hu ?_; (case B => k_asm); (case F => k_asm); (case X => k_asm); (case T => k_asm); (case hk => exact rfl); (case hd => ktr_room); (case hu => ktr_units)); (intro x' d' h' tk' kt' l1 l2 F' NA NB; have o1' : @LT.lt Nat _ _ d' := l1 _ (List.Mem.head _); clear l1; have N' := news_join NB NA; simp only [List.cons_append, List.nil_append] at N'; clear NA NB N9)); (try k_sweep)))
local macro_rules | `(tactic| walk_at "call ref") => `(tactic| (k_here; (with_reducible show wpAny _ _ (call (Value.ref 919) _) _ _ _); (refine stop_in ?_)))
local macro_rules | `(tactic| walk_at "call ref") => `(tactic| (k_here; (with_reducible show wpAny _ _ (call (Value.ref 841) _) _ _ _); (refine stop_in ?_)))
local macro_rules | `(tactic| walk_at "exec Try") => `(tactic| (k_here; (refine wpAny_Try_except ?_)))
local macro_rules | `(tactic| walk_at "binaryOp Mult str int") => `(tactic| (k_here; (with_reducible show wpAny _ _ (binaryOp Operator.Mult (Value.str _ _) (Value.int _ _)) _ _ _); (refine SB.mul (mulOk_x _ (by omega) (by omega)) ?_); intro _ _))
local macro_rules | `(tactic| walk_at "subscriptTail") => `(tactic| (k_here; (with_reducible show wpAny _ _ (subscriptTail _ _ (Value.ref _) (Value.int _ _)) _ _ _); (with_reducible rename SizesAre _ _ => hZ9); (with_unfolding_all refine' item_sz ?k1 hZ9 ?k3 ?_ ?k6; (case k1 => is_list); (case k3 => omega); (case k6 => with_unfolding_all rfl); k_whole); intro _))
local macro_rules | `(tactic| walk_at "subscriptTail") => `(tactic| (k_here; (with_reducible show wpAny _ _ (subscriptTail _ _ (Value.ref _) (Value.int (-1) _)) _ _ _); (with_unfolding_all refine' item_last ?k1 ?_ ?k6; (case k1 => is_list); (case k6 => with_unfolding_all rfl); k_whole)))
local macro_rules | `(tactic| walk_at "call builtin:len") => `(tactic| (k_here; (with_reducible show wpAny _ _ (call (Value.builtin "len") [Value.ref _]) _ _ _); k_dflt (refine' PyProof.Rows.len_list ?k1 ?k2 ?_; (case k1 => is_list); (case k2 => omega); k_whole)))
local macro_rules | `(tactic| walk_at "call builtin:list.append") => `(tactic| (k_here; (with_reducible show wpAny _ _ (call (Value.builtin _) [Value.ref _, _]) _ _ _); k_dflt (refine' append_K ?k1 ?k2 ?k3 ?_ ?z; (case k1 => k_asm); (case k2 => k_asm); (case k3 => k_upd); (case z => ((try simp only [Array.size_push]); rw [sizeLine_eq]; omega)); k_whole); intro h' F' N'; (try k_sweep)))
local macro_rules | `(tactic| walk_at "compareOp In str str") => `(tactic| (k_here; refine in_strG (by with_reducible assumption) ?_))
local macro_rules | `(tactic| walk_at "subscriptTail") => `(tactic| (k_here; (with_reducible show wpAny _ _ (subscriptTail _ (PySem.Expr.Slice _ _ _ _) (Value.ref _) (Value.ref _)) _ _ _); (with_reducible rename SizesAre _ _ => hZ9); k_dflt ((refine' slice_sz ?F ?N ?l hZ9 ?hk ?_ ?s ?t; (case F => k_asm); (case N => k_asm); (case l => is_list); (case hk => with_reducible assumption); (case s => with_unfolding_all rfl); (case t => (intro _; with_unfolding_all rfl))); (intro D' h' zs' hz' F' N')); (try k_sweep)))
local macro_rules | `(tactic| walk_at "compareOp NotEq ref ref") => `(tactic| (k_here; k_dflt (refine' same_ne ?a ?b ?i ?j ?u ?_; (case a => is_list); (case b => is_list); (case i => with_reducible assumption); (case j => with_reducible assumption); (case u => ke_room))))
local macro_rules | `(tactic| walk_at "compareOp Eq ref ref") => `(tactic| (k_here; k_dflt (refine' same_eq ?a ?b ?i ?j ?u ?_; (case a => is_list); (case b => is_list); (case i => with_reducible assumption); (case j => with_reducible assumption); (case u => ke_room))))
local macro_rules | `(tactic| walk_at "compareOp Eq str str") => `(tactic| (k_here; (refine eq_same ?_)))
theorem law0 : PySem.Challenge.rw_qz0120_01.Holds := hd (by
  k_go0
  (all_goals try k_fold)
  k_steps
  unfold Stop
  (with_reducible rename IntsAre _ ([0] ++ _) => hI9)
  obtain ⟨ms, hms, hD9⟩ := deck_take hI9
  clear hI9
  k_steps
  unfold Stop
  rename_i most0 tm0 vs0 hm0 tkm0 nn0 hma hmb hA r1 tr1 vs1 hB tkB nn1 hD1 ha1 hb1 F1 N1 hC tkC tt1 uu1 vv1 hR2 F2 N2 hU2
  obtain ⟨nT, rfl⟩ : ∃ n : Nat, r1 = (n : Int) := ⟨r1.toNat, by omega⟩
  refine LCg.CompSrc.range (n := nT) rfl F2 N2 hR2 (range_small (by omega)) range_size (Nat.le_trans (show nT ≤ 100 by omega) (by rw [sizeLine_eq]; decide)) (fun g => ?_)
  refine comp_rest (n := nT) (fun y => ∃ u tu, y = Value.str u tu ∧ (u = Str.ofString "a" ∨ u = Str.ofString "b")) ?turnT ?finT nT 0 [] vs1 nn1 _ (fun y hy => nomatch hy) (Nat.zero_add _) hD1 (by omega) (by omega) (Int.add_zero _).symm
  case turnT =>
    clear F1 N1 F2 N2 hD1 hR2 hU2
    intro k vs nn I oI C oC D1 m₂ ys h tk E' hD9 hk0 hk1 hC9 F9 N9 off9 ne9
    simp only [LCg.Off3, and_true] at off9
    k_steps
    · rename_i r9 _ _ _ _ _ _ ha9 hb9 _ _ _
      have : r9 = 0 ∨ r9 = 1 := by omega
      rcases this with rfl | rfl
      · exact .inl (by decide)
      · exact .inr (by decide)
    · assumption
  case finT =>
    clear F1 N1 F2 N2 hD1 hR2 hU2
    intro ys vs nn k hV hl hD9 hk0 hk1
    obtain ⟨txs, hS9, hlen9, hab9⟩ := strs_of hV
    obtain ⟨hAB, hTL⟩ := ab_join hab9
    have hw9 : (txs.map (·.length)).sum + txs.length ≤ 1048576 := by rw [sum_len, (ab_flat hab9).1]; omega
    have hT8 : (Txt.join (Str.ofString "") txs).length ≤ 8 := by omega
    k_steps
    unfold Stop
    rename_i rF tF vsF hF tkF nnF hDF haF hbF fl tfl hFl hG FG NG hH tkH tt8 uu8 vv8 hR8 F8 N8 hU8
    replace N8 := (news_cons N8 (List.Mem.head _) (news_cons N8 (List.Mem.tail _ (List.Mem.tail _ (List.Mem.tail _ (List.Mem.tail _ (List.Mem.tail _ (List.Mem.head _)))))) (news_cons N8 (List.Mem.tail _ (List.Mem.tail _ (List.Mem.tail _ (List.Mem.tail _ (List.Mem.tail _ (List.Mem.tail _ (List.Mem.head _))))))) (news_cons N8 (List.Mem.tail _ (List.Mem.tail _ (List.Mem.tail _ (List.Mem.tail _ (List.Mem.tail _ (List.Mem.tail _ (List.Mem.tail _ (List.Mem.head _)))))))) (news_cons N8 (List.Mem.tail _ (List.Mem.tail _ (List.Mem.tail _ (List.Mem.tail _ (List.Mem.tail _ (List.Mem.tail _ (List.Mem.tail _ (List.Mem.tail _ (List.Mem.head _))))))))) (news_cons N8 (List.Mem.tail _ (List.Mem.tail _ (List.Mem.tail _ (List.Mem.tail _ (List.Mem.tail _ (List.Mem.tail _ (List.Mem.tail _ (List.Mem.tail _ (List.Mem.tail _ (List.Mem.head _)))))))))) News.nil))))))
    (with_reducible rename (_ ≠ _ ∧ _) => z9)
    clear z9
    refine LCg.CompSrc.range (n := 8) rfl F8 N8 hR8 (by decide) (by decide) (Nat.le_trans (show 8 ≤ 100 by omega) (by rw [sizeLine_eq]; decide)) (fun g2 => ?_)
    refine comp_rest (n := 8) (fun y => ∃ r tr, y = Value.int r tr ∧ 0 ≤ r ∧ r < 6) ?turnS ?finS 8 0 [] vsF nnF _ (fun y hy => nomatch hy) rfl hDF (by omega) (by omega) (Int.add_zero _).symm
    case turnS =>
      clear FG NG F8 N8 hDF hR8 hU8
      intro k vs nn I oI C oC D1 m₂ ys h tk E' hD9 hk0 hk1 hC9 F9 N9 off9 ne9
      simp only [LCg.Off3, and_true] at off9
      k_steps
      · assumption
    case finS =>
      clear FG NG F8 N8 hDF hR8 hU8
      intro ys2 vs2 nn2 k2 hV2 hl2 hD2 hk20 hk21
      obtain ⟨sz, hsv, hsz⟩ := sizes_of hl2 hV2
      unfold LCg.FinE
      intro SZ h7 tk7 F7 N7 o7
      dsimp only
      simp only [LCg.Off1, and_true] at o7
      have N5 := news_join (news_cons N7 (List.Mem.head _) News.nil) (news_cons N7 (List.Mem.tail _ (List.Mem.tail _ (List.Mem.head _))) (news_cons N7 (List.Mem.tail _ (List.Mem.tail _ (List.Mem.tail _ (List.Mem.head _)))) (news_cons N7 (List.Mem.tail _ (List.Mem.tail _ (List.Mem.tail _ (List.Mem.tail _ (List.Mem.head _))))) (news_cons N7 (List.Mem.tail _ (List.Mem.tail _ (List.Mem.tail _ (List.Mem.tail _ (List.Mem.tail _ (List.Mem.head _)))))) (news_cons N7 (List.Mem.tail _ (List.Mem.tail _ (List.Mem.tail _ (List.Mem.tail _ (List.Mem.tail _ (List.Mem.tail _ (List.Mem.head _))))))) News.nil)))))
      simp only [List.cons_append, List.nil_append] at N5
      clear N7
      (with_reducible rename (836 < _ ∧ 921 < _) => l0)
      obtain ⟨p1, p2⟩ := l0
      obtain ⟨_, s3, s2, s1, s836, s921⟩ := o7
      clear hk0 hk1 hV hl hlen9 hab9 hw9 hV2 hl2 hD2 hk20 hk21 ha1 hb1 haF hbF hms hTL
      repeat ((with_reducible rename (_ < _ ∧ _ < _ ∧ _) => z9); clear z9)
      repeat walk1
      unfold Stop
      rename_i sh1 z190 z189 z188 z187 z186 z185 z184 z183 z182 z181 z180 z179 z178 z177 z176 z175 z174 z173 z172 z171 z170 z169 z168 z167 z166 z165 z164 z163 z162 z161 z160 z159 z158 z157 z156 z155 z154 z153 z152 z151 z150 z149 z148 z147 z146 z145 z144 hIn9 z142 hBl9 hCd840 z139 z138 z137 z136 z135 z134 z133 z132 z131 z130 z129 z128 z127 z126 z125 z124 z123 z122 z121 z120 z119 z118 z117 z116 z115 z114 z113 z112 oJ2 dJ2 z109 LM LMd z106 tkA ltm vw9 vd9 tm9 vi9 q99 q98 HP HPd z95 z94 z93 z92 z91 q90 q89 z88 z87 CT CTd PL EM z82 z81 ctt oPL oEM q77 q76 iPL iEM sPL sEM q71 q70 RN RNd SV PT z65 z64 rtt ny9 oPT v4 v5 v6 v7 v8 v9 v10 v12 v15 v16 v17 v18 q48 q47 iPT sPT q44 q43 z42 z41 SC SCd z38 z37 stt num tnum c1 c2 c3 c4 c5 hn1 hn2 q26 q25 z24 z23 CL z21 q20 z19 oJ1 dJ1 RF RC oRC vsR tqR ctR dcR z9 z8 d1R d2R q5 q4 h9 FN NN
      have e1 : @LT.lt Nat _ SZ LMd := q98.1
      have e2 : @LT.lt Nat _ LMd LM := q99
      have e3 : @LT.lt Nat _ LM HPd := q89
      have e4 : @LT.lt Nat _ HPd HP := q90
      have e5 : @LT.lt Nat _ HP CTd := q70
      have e6 : @LT.lt Nat _ CTd CT := q71
      have e7 : @LT.lt Nat _ CT PL := q77
      have e8 : @LT.lt Nat _ PL EM := q76
      have e9 : @LT.lt Nat _ EM RNd := q43
      have e10 : @LT.lt Nat _ RNd RN := q44
      have e11 : @LT.lt Nat _ RN SV := q48
      have e12 : @LT.lt Nat _ SV PT := q47
      have e13 : @LT.lt Nat _ PT SCd := q26
      have e14 : @LT.lt Nat _ SCd SC := q25
      have e15 : @LT.lt Nat _ SC CL := q20.1
      have e16 : @LT.lt Nat _ CL RC := q5.1
      have e17 : @LT.lt Nat _ RC RF := q4
      obtain ⟨e18a, e18, e19, e19a, e20, e20a⟩ := q98
      clear q5 q20 q99 q89 q90 q70 q71 q77 q76 q43 q44 q48 q47 q26 q25 q4
      obtain ⟨oF, eF, NN'⟩ := news_eqHead NN
      clear NN
      obtain ⟨ps9, h921⟩ : ∃ ps9, News _ _ h9 [(921, tabObj ps9)] := ⟨_, news_cons NN' (List.Mem.tail _ (List.Mem.tail _ (List.Mem.tail _ (List.Mem.tail _ (List.Mem.tail _ (List.Mem.tail _ (List.Mem.tail _ (List.Mem.tail _ (List.Mem.tail _ (List.Mem.tail _ (List.Mem.tail _ (List.Mem.tail _ (List.Mem.tail _ (List.Mem.tail _ (List.Mem.tail _ (List.Mem.tail _ (List.Mem.tail _ (List.Mem.tail _ (List.Mem.tail _ (List.Mem.tail _ (List.Mem.head _))))))))))))))))))))) News.nil⟩
      replace NN' := news_join (news_cons NN' (List.Mem.head _) (news_cons NN' (List.Mem.tail _ (List.Mem.head _)) (news_cons NN' (List.Mem.tail _ (List.Mem.tail _ (List.Mem.head _))) (news_cons NN' (List.Mem.tail _ (List.Mem.tail _ (List.Mem.tail _ (List.Mem.head _)))) (news_cons NN' (List.Mem.tail _ (List.Mem.tail _ (List.Mem.tail _ (List.Mem.tail _ (List.Mem.head _))))) (news_cons NN' (List.Mem.tail _ (List.Mem.tail _ (List.Mem.tail _ (List.Mem.tail _ (List.Mem.tail _ (List.Mem.head _)))))) (news_cons NN' (List.Mem.tail _ (List.Mem.tail _ (List.Mem.tail _ (List.Mem.tail _ (List.Mem.tail _ (List.Mem.tail _ (List.Mem.head _))))))) (news_cons NN' (List.Mem.tail _ (List.Mem.tail _ (List.Mem.tail _ (List.Mem.tail _ (List.Mem.tail _ (List.Mem.tail _ (List.Mem.tail _ (List.Mem.head _)))))))) (news_cons NN' (List.Mem.tail _ (List.Mem.tail _ (List.Mem.tail _ (List.Mem.tail _ (List.Mem.tail _ (List.Mem.tail _ (List.Mem.tail _ (List.Mem.tail _ (List.Mem.head _))))))))) (news_cons NN' (List.Mem.tail _ (List.Mem.tail _ (List.Mem.tail _ (List.Mem.tail _ (List.Mem.tail _ (List.Mem.tail _ (List.Mem.tail _ (List.Mem.tail _ (List.Mem.tail _ (List.Mem.head _)))))))))) (news_cons NN' (List.Mem.tail _ (List.Mem.tail _ (List.Mem.tail _ (List.Mem.tail _ (List.Mem.tail _ (List.Mem.tail _ (List.Mem.tail _ (List.Mem.tail _ (List.Mem.tail _ (List.Mem.tail _ (List.Mem.head _))))))))))) (news_cons NN' (List.Mem.tail _ (List.Mem.tail _ (List.Mem.tail _ (List.Mem.tail _ (List.Mem.tail _ (List.Mem.tail _ (List.Mem.tail _ (List.Mem.tail _ (List.Mem.tail _ (List.Mem.tail _ (List.Mem.tail _ (List.Mem.head _)))))))))))) (news_cons NN' (List.Mem.tail _ (List.Mem.tail _ (List.Mem.tail _ (List.Mem.tail _ (List.Mem.tail _ (List.Mem.tail _ (List.Mem.tail _ (List.Mem.tail _ (List.Mem.tail _ (List.Mem.tail _ (List.Mem.tail _ (List.Mem.tail _ (List.Mem.head _))))))))))))) (news_cons NN' (List.Mem.tail _ (List.Mem.tail _ (List.Mem.tail _ (List.Mem.tail _ (List.Mem.tail _ (List.Mem.tail _ (List.Mem.tail _ (List.Mem.tail _ (List.Mem.tail _ (List.Mem.tail _ (List.Mem.tail _ (List.Mem.tail _ (List.Mem.tail _ (List.Mem.head _)))))))))))))) (news_cons NN' (List.Mem.tail _ (List.Mem.tail _ (List.Mem.tail _ (List.Mem.tail _ (List.Mem.tail _ (List.Mem.tail _ (List.Mem.tail _ (List.Mem.tail _ (List.Mem.tail _ (List.Mem.tail _ (List.Mem.tail _ (List.Mem.tail _ (List.Mem.tail _ (List.Mem.tail _ (List.Mem.head _))))))))))))))) (news_cons NN' (List.Mem.tail _ (List.Mem.tail _ (List.Mem.tail _ (List.Mem.tail _ (List.Mem.tail _ (List.Mem.tail _ (List.Mem.tail _ (List.Mem.tail _ (List.Mem.tail _ (List.Mem.tail _ (List.Mem.tail _ (List.Mem.tail _ (List.Mem.tail _ (List.Mem.tail _ (List.Mem.tail _ (List.Mem.head _)))))))))))))))) (news_cons NN' (List.Mem.tail _ (List.Mem.tail _ (List.Mem.tail _ (List.Mem.tail _ (List.Mem.tail _ (List.Mem.tail _ (List.Mem.tail _ (List.Mem.tail _ (List.Mem.tail _ (List.Mem.tail _ (List.Mem.tail _ (List.Mem.tail _ (List.Mem.tail _ (List.Mem.tail _ (List.Mem.tail _ (List.Mem.tail _ (List.Mem.head _))))))))))))))))) (news_cons NN' (List.Mem.tail _ (List.Mem.tail _ (List.Mem.tail _ (List.Mem.tail _ (List.Mem.tail _ (List.Mem.tail _ (List.Mem.tail _ (List.Mem.tail _ (List.Mem.tail _ (List.Mem.tail _ (List.Mem.tail _ (List.Mem.tail _ (List.Mem.tail _ (List.Mem.tail _ (List.Mem.tail _ (List.Mem.tail _ (List.Mem.tail _ (List.Mem.head _)))))))))))))))))) (news_cons NN' (List.Mem.tail _ (List.Mem.tail _ (List.Mem.tail _ (List.Mem.tail _ (List.Mem.tail _ (List.Mem.tail _ (List.Mem.tail _ (List.Mem.tail _ (List.Mem.tail _ (List.Mem.tail _ (List.Mem.tail _ (List.Mem.tail _ (List.Mem.tail _ (List.Mem.tail _ (List.Mem.tail _ (List.Mem.tail _ (List.Mem.tail _ (List.Mem.tail _ (List.Mem.head _))))))))))))))))))) (news_cons NN' (List.Mem.tail _ (List.Mem.tail _ (List.Mem.tail _ (List.Mem.tail _ (List.Mem.tail _ (List.Mem.tail _ (List.Mem.tail _ (List.Mem.tail _ (List.Mem.tail _ (List.Mem.tail _ (List.Mem.tail _ (List.Mem.tail _ (List.Mem.tail _ (List.Mem.tail _ (List.Mem.tail _ (List.Mem.tail _ (List.Mem.tail _ (List.Mem.tail _ (List.Mem.tail _ (List.Mem.head _)))))))))))))))))))) News.nil)))))))))))))))))))) h921
      simp only [List.cons_append, List.nil_append] at NN'
      clear h921
      (with_reducible rename Top _ _ _ _ _ (ghostOf _ _) => T9)
      obtain ⟨fG, hfG⟩ : ∃ b, (!(Builtin.Str.occurrences fl (Str.ofString "g") 0 fl.length 1).isEmpty) = b := ⟨_, rfl⟩
      obtain ⟨fR, hfR⟩ : ∃ b, (!(Builtin.Str.occurrences fl (Str.ofString "r") 0 fl.length 1).isEmpty) = b := ⟨_, rfl⟩
      refine with_repl (xs := xsM) (sz := sz) (RF := RF) (PR := fun k r => IntsAre r.cl.toList ((List.range k).map sz)) (fun r : ReplSt => [(RF, oF), (RC, oRC), (sh1.heap.objs.size + 1 + 1, oJ1), (sh1.heap.objs.size + 1 + 1 + 1, oJ2), (CL, PySem.W.listOf r.cl r.n), (SZ, PySem.W.listOf ys2.toArray ys2.length), (921, tabObj ps9)]) T9 ?hR ?_
      case hR =>
        intro prog w p loose mean mg mb
        obtain ⟨qq, pm9, eF9, d2R9⟩ := repl_pack eF d2R
        have f1 : @LT.lt Nat _ SZ CL := by omega
        have f4 : @LT.lt Nat _ 921 CL := by omega
        have f2 : @LT.lt Nat _ (sh1.heap.objs.size + 1 + 1 + 1) CL := by omega
        clear z190 z189 z188 z187 z186 z185 z184 z183 z182 z181 z180 z179 z178 z177 z176 z175 z174 z173 z172 z171 z170 z169 z168 z167 z166 z165 z164 z163 z162 z161 z160 z159 z158 z157 z156 z155 z154 z153 z152 z151 z150 z149 z148 z147 z146 z145 z144 z139 z138 z137 z136 z135 z134 z133 z132 z131 z130 z129 z128 z127 z126 z125 z124 z123 z122 z121 z120 z119 z118 z117 z116 z115 z114 z113 z112 z109 z106 z95 z94 z93 z92 z91 z88 z87 z82 z81 z65 z64 z42 z41 z38 z37 z24 z23 z21 z19 z9 z8 hT9 T9 lifted ms most0 tm0 vs0 hm0 tkm0 nn0 hma hmb hA tr1 vs1 hB tkB nn1 hC tkC tt1 uu1 vv1 nT g ys vs nn k txs hAB hT8 rF tF vsF hF tkF nnF fl tfl hFl hG hH tkH tt8 uu8 vv8 g2 vs2 nn2 k2 h7 tk7 p1 p2 s1 s836 s921 LM LMd tkA ltm vw9 vd9 tm9 vi9 HP HPd CT CTd PL EM ctt oPL oEM iPL iEM sPL sEM RN RNd SV PT rtt ny9 oPT v4 v5 v6 v7 v8 v9 v10 v12 v15 v16 v17 v18 iPT sPT SC SCd stt num tnum c1 c2 c3 c4 c5 hn1 hn2 d2R h9 FN e1 e2 e3 e4 e5 e6 e7 e8 e9 e10 e11 e12 e13 e14 e15 e18 e19 e20 eF NN' fG hfG fR hfR e18a e19a e20a hIn9 hBl9 hCd840
        generalize sh1.heap.objs.size = n0 at eF9 s2 s3 f2 ⊢
        have f3 : @LT.lt Nat _ (n0 + 1 + 1) (n0 + 1 + 1 + 1) := Nat.lt_succ_self _
        generalize n0 + 1 + 1 + 1 = J2 at eF9 s3 f2 f3 ⊢
        generalize n0 + 1 + 1 = J1 at eF9 s2 f3 ⊢
        generalize ys2.toArray = sv, ys2.length = nz at hsv ⊢
        clear ys2 n0
        intro dp un gd cn cs a ccd cl outer A₀ base h₀ L m s Q E rest k r B F X T hk NR N hdis hP hk8 hd hu ret
        obtain ⟨clv, ncl⟩ := r
        dsimp only at N hdis hP
        subst eF9
        have hcs : clv.size = k := by (have q := hP.length); rw [List.length_map, List.length_range, Array.length_toList] at q; exact q
        obtain ⟨s1, s2⟩ := hsz k hk8
        refine wpAny_call ?_
        k_dflt (refine' codeX_rest NR hdis ?k1 ?k2 ?k3 N ?k5 ?kA ?kF ?kK ?k6 ?k7 ?kc ?k8 ?k9 ?kB ?_ ?c2 ?c3 ?c4 ?c5)
        case kA => exact rfl
        case kF => exact rfl
        case kK => assumption
        case k1 => k_asm
        case k2 => k_asm
        case k3 => k_asm
        case k5 => k_asm
        case k6 => exact (N (RF, _) (List.Mem.head _)).1
        case k7 => exact rfl
        case kc => exact codeRec_news N (List.Mem.tail _ (List.Mem.head _)) d1R d2R9
        case k8 => ktr_room
        case k9 => exact BindsTo.of_eq rfl
        case c5 => decide
        case kB => exact locs rfl
        case c2 => exact rfl
        case c3 => exact rfl
        case c4 => exact rfl
        clear N
        intro g1 L1 h1 FG' F' N' B' X' T' hL1
        (try dsimp only)
        (try k_fold)
        subst hcs
        k_steps
        (with_reducible rename News h₀ L _ rest => NR9)
        (with_reducible rename News h₀ L _ (_ :: _) => N9)
        (with_reducible rename Fr h₀ L _ _ => F9)
        exact ret _ _ ⟨_, _⟩ _ (calls_push hP) F9 NR9 N9


      intro hRepl
      obtain ⟨ofc, ofd, fdd, ofs, eo⟩ : ∃ ofc ofd fdd ofs, oF = (⟨ofc, ofd, .func fdd, ofs⟩ : Obj) := ⟨_, _, _, _, eF.symm⟩
      clear eF
      subst eo
      have hC840 : CodeHd _ 840 836 := hCd840
      k_dflt (refine' due_ok (fG := fG) (sz := sz) ?B ?F ?X ?T ?hk (news_cons NN' (List.Mem.head _) (news_cons NN' (List.Mem.tail _ (List.Mem.head _)) (news_cons NN' (List.Mem.tail _ (List.Mem.tail _ (List.Mem.head _))) (news_cons NN' (List.Mem.tail _ (List.Mem.tail _ (List.Mem.tail _ (List.Mem.head _)))) (news_cons NN' (List.Mem.tail _ (List.Mem.tail _ (List.Mem.tail _ (List.Mem.tail _ (List.Mem.head _))))) (news_cons NN' (List.Mem.tail _ (List.Mem.tail _ (List.Mem.tail _ (List.Mem.tail _ (List.Mem.tail _ (List.Mem.head _)))))) (news_cons NN' (List.Mem.tail _ (List.Mem.tail _ (List.Mem.tail _ (List.Mem.tail _ (List.Mem.tail _ (List.Mem.tail _ (List.Mem.head _))))))) (news_cons NN' (List.Mem.tail _ (List.Mem.tail _ (List.Mem.tail _ (List.Mem.tail _ (List.Mem.tail _ (List.Mem.tail _ (List.Mem.tail _ (List.Mem.head _)))))))) (news_cons NN' (List.Mem.tail _ (List.Mem.tail _ (List.Mem.tail _ (List.Mem.tail _ (List.Mem.tail _ (List.Mem.tail _ (List.Mem.tail _ (List.Mem.tail _ (List.Mem.head _))))))))) (news_cons NN' (List.Mem.tail _ (List.Mem.tail _ (List.Mem.tail _ (List.Mem.tail _ (List.Mem.tail _ (List.Mem.tail _ (List.Mem.tail _ (List.Mem.tail _ (List.Mem.tail _ (List.Mem.head _)))))))))) (news_cons NN' (List.Mem.tail _ (List.Mem.tail _ (List.Mem.tail _ (List.Mem.tail _ (List.Mem.tail _ (List.Mem.tail _ (List.Mem.tail _ (List.Mem.tail _ (List.Mem.tail _ (List.Mem.tail _ (List.Mem.head _))))))))))) (news_cons NN' (List.Mem.tail _ (List.Mem.tail _ (List.Mem.tail _ (List.Mem.tail _ (List.Mem.tail _ (List.Mem.tail _ (List.Mem.tail _ (List.Mem.tail _ (List.Mem.tail _ (List.Mem.tail _ (List.Mem.tail _ (List.Mem.head _)))))))))))) (news_cons NN' (List.Mem.tail _ (List.Mem.tail _ (List.Mem.tail _ (List.Mem.tail _ (List.Mem.tail _ (List.Mem.tail _ (List.Mem.tail _ (List.Mem.tail _ (List.Mem.tail _ (List.Mem.tail _ (List.Mem.tail _ (List.Mem.tail _ (List.Mem.head _))))))))))))) (news_cons NN' (List.Mem.tail _ (List.Mem.tail _ (List.Mem.tail _ (List.Mem.tail _ (List.Mem.tail _ (List.Mem.tail _ (List.Mem.tail _ (List.Mem.tail _ (List.Mem.tail _ (List.Mem.tail _ (List.Mem.tail _ (List.Mem.tail _ (List.Mem.tail _ (List.Mem.head _)))))))))))))) (news_cons NN' (List.Mem.tail _ (List.Mem.tail _ (List.Mem.tail _ (List.Mem.tail _ (List.Mem.tail _ (List.Mem.tail _ (List.Mem.tail _ (List.Mem.tail _ (List.Mem.tail _ (List.Mem.tail _ (List.Mem.tail _ (List.Mem.tail _ (List.Mem.tail _ (List.Mem.tail _ (List.Mem.head _))))))))))))))) (news_cons NN' (List.Mem.tail _ (List.Mem.tail _ (List.Mem.tail _ (List.Mem.tail _ (List.Mem.tail _ (List.Mem.tail _ (List.Mem.tail _ (List.Mem.tail _ (List.Mem.tail _ (List.Mem.tail _ (List.Mem.tail _ (List.Mem.tail _ (List.Mem.tail _ (List.Mem.tail _ (List.Mem.tail _ (List.Mem.tail _ (List.Mem.head _))))))))))))))))) (news_cons NN' (List.Mem.tail _ (List.Mem.tail _ (List.Mem.tail _ (List.Mem.tail _ (List.Mem.tail _ (List.Mem.tail _ (List.Mem.tail _ (List.Mem.tail _ (List.Mem.tail _ (List.Mem.tail _ (List.Mem.tail _ (List.Mem.tail _ (List.Mem.tail _ (List.Mem.tail _ (List.Mem.tail _ (List.Mem.tail _ (List.Mem.tail _ (List.Mem.head _)))))))))))))))))) (news_cons NN' (List.Mem.tail _ (List.Mem.tail _ (List.Mem.tail _ (List.Mem.tail _ (List.Mem.tail _ (List.Mem.tail _ (List.Mem.tail _ (List.Mem.tail _ (List.Mem.tail _ (List.Mem.tail _ (List.Mem.tail _ (List.Mem.tail _ (List.Mem.tail _ (List.Mem.tail _ (List.Mem.tail _ (List.Mem.tail _ (List.Mem.tail _ (List.Mem.tail _ (List.Mem.head _))))))))))))))))))) (news_cons NN' (List.Mem.tail _ (List.Mem.tail _ (List.Mem.tail _ (List.Mem.tail _ (List.Mem.tail _ (List.Mem.tail _ (List.Mem.tail _ (List.Mem.tail _ (List.Mem.tail _ (List.Mem.tail _ (List.Mem.tail _ (List.Mem.tail _ (List.Mem.tail _ (List.Mem.tail _ (List.Mem.tail _ (List.Mem.tail _ (List.Mem.tail _ (List.Mem.tail _ (List.Mem.tail _ (List.Mem.head _)))))))))))))))))))) (news_cons NN' (List.Mem.tail _ (List.Mem.tail _ (List.Mem.tail _ (List.Mem.tail _ (List.Mem.tail _ (List.Mem.tail _ (List.Mem.tail _ (List.Mem.tail _ (List.Mem.tail _ (List.Mem.tail _ (List.Mem.tail _ (List.Mem.tail _ (List.Mem.tail _ (List.Mem.tail _ (List.Mem.tail _ (List.Mem.tail _ (List.Mem.tail _ (List.Mem.tail _ (List.Mem.tail _ (List.Mem.tail _ (List.Mem.head _))))))))))))))))))))) News.nil)))))))))))))))))))) (news_cons NN' (List.Mem.tail _ (List.Mem.tail _ (List.Mem.tail _ (List.Mem.tail _ (List.Mem.tail _ (List.Mem.tail _ (List.Mem.tail _ (List.Mem.tail _ (List.Mem.tail _ (List.Mem.tail _ (List.Mem.tail _ (List.Mem.tail _ (List.Mem.tail _ (List.Mem.tail _ (List.Mem.tail _ (List.Mem.head _)))))))))))))))) News.nil) ?hdis hsv hT8 ?hm1 ?hm2 hsz hfG ?hd ?hu ?ret)
      case B => k_asm
      case F => k_asm
      case X => k_asm
      case T => k_asm
      case hk => exact rfl
      case hd => ktr_room
      case hu => ktr_units
      case hdis => (repeat' first | exact List.forall_mem_nil _ | refine List.forall_mem_cons.mpr ⟨?_, ?_⟩ | (refine neN ?_; (try dsimp only); omega))
      case hm1 => omega
      case hm2 => omega
      intro h10 tk10 TP kd vd tkd hDue lTP F10 NR10 NS10
      have N11 := news_join NS10 NR10
      simp only [List.cons_append, List.nil_append] at N11
      clear NR10 NS10 NN' FN
      repeat walk1
      unfold Stop
      rename_i y31 y30 y29 y28 T1 y26 q25b T2 y23 q22b RL y20 q19b DN y17 oDN y15 y14 y13 y12 y11 q10b P Pd y7 y6 ptt qP FP oP1 NP
      have f0 : @LT.lt Nat _ RF T1 := q25b.2.2.1
      have f1 : @LT.lt Nat _ SC T1 := by omega
      have f2 : @LT.lt Nat _ T1 T2 := q22b.1
      have f3 : @LT.lt Nat _ T2 RL := q19b.1
      have f4 : @LT.lt Nat _ RL Pd := Nat.lt_trans q10b.1 oP1
      have f5 : @LT.lt Nat _ Pd P := qP
      clear q25b q22b q19b q10b
      have hFn : FnAll RF (fun r : ReplSt => [(RF, (⟨ofc, ofd, .func fdd, ofs⟩ : Obj)), (RC, oRC), (sh1.heap.objs.size + 1 + 1, oJ1), (sh1.heap.objs.size + 1 + 1 + 1, oJ2), (CL, PySem.W.listOf r.cl r.n), (SZ, PySem.W.listOf ys2.toArray ys2.length), (921, tabObj ps9)]) := fun r => ⟨_, _, _, _, List.Mem.head _⟩
      have hOff : OffAll (fun r : ReplSt => [(RF, (⟨ofc, ofd, .func fdd, ofs⟩ : Obj)), (RC, oRC), (sh1.heap.objs.size + 1 + 1, oJ1), (sh1.heap.objs.size + 1 + 1 + 1, oJ2), (CL, PySem.W.listOf r.cl r.n), (SZ, PySem.W.listOf ys2.toArray ys2.length), (921, tabObj ps9)]) [RN, RNd, CT, CTd, PL, EM, SC, SCd, SV, PT, P, Pd, RL, T1, T2, LM, LMd, 836] := by
        intro r
        unfold OwnOff
        dsimp only
        (repeat' first | exact List.forall_mem_nil _ | refine List.forall_mem_cons.mpr ⟨?_, ?_⟩ | (refine neN ?_; (try dsimp only); omega))
      have hBel : BelAll (fun r : ReplSt => [(RF, (⟨ofc, ofd, .func fdd, ofs⟩ : Obj)), (RC, oRC), (sh1.heap.objs.size + 1 + 1, oJ1), (sh1.heap.objs.size + 1 + 1 + 1, oJ2), (CL, PySem.W.listOf r.cl r.n), (SZ, PySem.W.listOf ys2.toArray ys2.length), (921, tabObj ps9)]) P := by
        intro r
        unfold OwnBelow
        dsimp only
        (repeat' first | exact List.forall_mem_nil _ | refine List.forall_mem_cons.mpr ⟨?_, ?_⟩ | ((try dsimp only); omega))
      k_dflt (refine' rep_ok (r0 := (⟨#[], 0⟩ : ReplSt)) ?B7 ?F7 ?X7 ?T7 ?hk7 News.nil hFn hRepl ?hPR7 (news_join (news_cons NP (List.Mem.tail _ (List.Mem.tail _ (List.Mem.tail _ (List.Mem.tail _ (List.Mem.tail _ (List.Mem.tail _ (List.Mem.tail _ (List.Mem.tail _ (List.Mem.tail _ (List.Mem.tail _ (List.Mem.tail _ (List.Mem.tail _ (List.Mem.tail _ (List.Mem.tail _ (List.Mem.tail _ (List.Mem.tail _ (List.Mem.tail _ (List.Mem.head _)))))))))))))))))) (news_cons NP (List.Mem.tail _ (List.Mem.tail _ (List.Mem.tail _ (List.Mem.tail _ (List.Mem.tail _ (List.Mem.tail _ (List.Mem.tail _ (List.Mem.tail _ (List.Mem.tail _ (List.Mem.tail _ (List.Mem.tail _ (List.Mem.tail _ (List.Mem.tail _ (List.Mem.tail _ (List.Mem.tail _ (List.Mem.tail _ (List.Mem.tail _ (List.Mem.tail _ (List.Mem.head _))))))))))))))))))) (news_cons NP (List.Mem.tail _ (List.Mem.tail _ (List.Mem.tail _ (List.Mem.tail _ (List.Mem.tail _ (List.Mem.tail _ (List.Mem.tail _ (List.Mem.tail _ (List.Mem.tail _ (List.Mem.tail _ (List.Mem.tail _ (List.Mem.tail _ (List.Mem.tail _ (List.Mem.tail _ (List.Mem.head _))))))))))))))) (news_cons NP (List.Mem.tail _ (List.Mem.tail _ (List.Mem.tail _ (List.Mem.tail _ (List.Mem.tail _ (List.Mem.tail _ (List.Mem.tail _ (List.Mem.tail _ (List.Mem.tail _ (List.Mem.tail _ (List.Mem.tail _ (List.Mem.tail _ (List.Mem.tail _ (List.Mem.tail _ (List.Mem.tail _ (List.Mem.head _)))))))))))))))) (news_cons NP (List.Mem.tail _ (List.Mem.tail _ (List.Mem.tail _ (List.Mem.tail _ (List.Mem.tail _ (List.Mem.tail _ (List.Mem.tail _ (List.Mem.tail _ (List.Mem.tail _ (List.Mem.tail _ (List.Mem.tail _ (List.Mem.tail _ (List.Mem.tail _ (List.Mem.tail _ (List.Mem.tail _ (List.Mem.tail _ (List.Mem.tail _ (List.Mem.tail _ (List.Mem.tail _ (List.Mem.tail _ (List.Mem.head _))))))))))))))))))))) (news_cons NP (List.Mem.tail _ (List.Mem.tail _ (List.Mem.tail _ (List.Mem.tail _ (List.Mem.tail _ (List.Mem.tail _ (List.Mem.tail _ (List.Mem.tail _ (List.Mem.tail _ (List.Mem.tail _ (List.Mem.tail _ (List.Mem.tail _ (List.Mem.tail _ (List.Mem.tail _ (List.Mem.tail _ (List.Mem.tail _ (List.Mem.tail _ (List.Mem.tail _ (List.Mem.tail _ (List.Mem.head _)))))))))))))))))))) (news_cons NP (List.Mem.tail _ (List.Mem.tail _ (List.Mem.tail _ (List.Mem.tail _ (List.Mem.tail _ (List.Mem.tail _ (List.Mem.tail _ (List.Mem.tail _ (List.Mem.tail _ (List.Mem.tail _ (List.Mem.tail _ (List.Mem.head _)))))))))))) (news_cons NP (List.Mem.tail _ (List.Mem.tail _ (List.Mem.tail _ (List.Mem.tail _ (List.Mem.tail _ (List.Mem.tail _ (List.Mem.tail _ (List.Mem.tail _ (List.Mem.tail _ (List.Mem.tail _ (List.Mem.tail _ (List.Mem.tail _ (List.Mem.head _))))))))))))) (news_cons NP (List.Mem.tail _ (List.Mem.tail _ (List.Mem.tail _ (List.Mem.tail _ (List.Mem.tail _ (List.Mem.tail _ (List.Mem.tail _ (List.Mem.tail _ (List.Mem.tail _ (List.Mem.tail _ (List.Mem.tail _ (List.Mem.tail _ (List.Mem.tail _ (List.Mem.tail _ (List.Mem.tail _ (List.Mem.tail _ (List.Mem.head _))))))))))))))))) (news_cons NP (List.Mem.tail _ (List.Mem.tail _ (List.Mem.tail _ (List.Mem.tail _ (List.Mem.tail _ (List.Mem.tail _ (List.Mem.tail _ (List.Mem.tail _ (List.Mem.tail _ (List.Mem.tail _ (List.Mem.tail _ (List.Mem.tail _ (List.Mem.tail _ (List.Mem.head _)))))))))))))) (news_cons NP (List.Mem.head _) (news_cons NP (List.Mem.tail _ (List.Mem.head _)) (news_cons NP (List.Mem.tail _ (List.Mem.tail _ (List.Mem.tail _ (List.Mem.head _)))) (news_cons NP (List.Mem.tail _ (List.Mem.tail _ (List.Mem.tail _ (List.Mem.tail _ (List.Mem.tail _ (List.Mem.head _)))))) (news_cons NP (List.Mem.tail _ (List.Mem.tail _ (List.Mem.tail _ (List.Mem.tail _ (List.Mem.head _))))) (news_cons NP (List.Mem.tail _ (List.Mem.tail _ (List.Mem.tail _ (List.Mem.tail _ (List.Mem.tail _ (List.Mem.tail _ (List.Mem.tail _ (List.Mem.tail _ (List.Mem.tail _ (List.Mem.tail _ (List.Mem.tail _ (List.Mem.tail _ (List.Mem.tail _ (List.Mem.tail _ (List.Mem.tail _ (List.Mem.tail _ (List.Mem.tail _ (List.Mem.tail _ (List.Mem.tail _ (List.Mem.tail _ (List.Mem.tail _ (List.Mem.head _)))))))))))))))))))))) (news_cons NP (List.Mem.tail _ (List.Mem.tail _ (List.Mem.tail _ (List.Mem.tail _ (List.Mem.tail _ (List.Mem.tail _ (List.Mem.tail _ (List.Mem.tail _ (List.Mem.tail _ (List.Mem.tail _ (List.Mem.tail _ (List.Mem.tail _ (List.Mem.tail _ (List.Mem.tail _ (List.Mem.tail _ (List.Mem.tail _ (List.Mem.tail _ (List.Mem.tail _ (List.Mem.tail _ (List.Mem.tail _ (List.Mem.tail _ (List.Mem.tail _ (List.Mem.head _))))))))))))))))))))))) (news_cons NP (List.Mem.tail _ (List.Mem.tail _ (List.Mem.tail _ (List.Mem.tail _ (List.Mem.tail _ (List.Mem.tail _ (List.Mem.tail _ (List.Mem.tail _ (List.Mem.tail _ (List.Mem.tail _ (List.Mem.tail _ (List.Mem.tail _ (List.Mem.tail _ (List.Mem.tail _ (List.Mem.tail _ (List.Mem.tail _ (List.Mem.tail _ (List.Mem.tail _ (List.Mem.tail _ (List.Mem.tail _ (List.Mem.tail _ (List.Mem.tail _ (List.Mem.tail _ (List.Mem.tail _ (List.Mem.tail _ (List.Mem.tail _ (List.Mem.head _))))))))))))))))))))))))))) News.nil)))))))))))))))))) (news_cons NP (List.Mem.tail _ (List.Mem.tail _ (List.Mem.tail _ (List.Mem.tail _ (List.Mem.tail _ (List.Mem.tail _ (List.Mem.tail _ (List.Mem.tail _ (List.Mem.head _))))))))) (news_cons NP (List.Mem.tail _ (List.Mem.tail _ (List.Mem.tail _ (List.Mem.tail _ (List.Mem.tail _ (List.Mem.tail _ (List.Mem.tail _ (List.Mem.tail _ (List.Mem.tail _ (List.Mem.head _)))))))))) (news_cons NP (List.Mem.tail _ (List.Mem.tail _ (List.Mem.tail _ (List.Mem.tail _ (List.Mem.tail _ (List.Mem.tail _ (List.Mem.tail _ (List.Mem.tail _ (List.Mem.tail _ (List.Mem.tail _ (List.Mem.tail _ (List.Mem.tail _ (List.Mem.tail _ (List.Mem.tail _ (List.Mem.tail _ (List.Mem.tail _ (List.Mem.tail _ (List.Mem.tail _ (List.Mem.tail _ (List.Mem.tail _ (List.Mem.tail _ (List.Mem.tail _ (List.Mem.tail _ (List.Mem.tail _ (List.Mem.head _))))))))))))))))))))))))) (news_cons NP (List.Mem.tail _ (List.Mem.tail _ (List.Mem.tail _ (List.Mem.tail _ (List.Mem.tail _ (List.Mem.tail _ (List.Mem.tail _ (List.Mem.tail _ (List.Mem.tail _ (List.Mem.tail _ (List.Mem.tail _ (List.Mem.tail _ (List.Mem.tail _ (List.Mem.tail _ (List.Mem.tail _ (List.Mem.tail _ (List.Mem.tail _ (List.Mem.tail _ (List.Mem.tail _ (List.Mem.tail _ (List.Mem.tail _ (List.Mem.tail _ (List.Mem.tail _ (List.Mem.head _)))))))))))))))))))))))) (news_cons NP (List.Mem.tail _ (List.Mem.tail _ (List.Mem.tail _ (List.Mem.tail _ (List.Mem.tail _ (List.Mem.tail _ (List.Mem.tail _ (List.Mem.tail _ (List.Mem.tail _ (List.Mem.tail _ (List.Mem.head _))))))))))) (news_cons NP (List.Mem.tail _ (List.Mem.tail _ (List.Mem.tail _ (List.Mem.tail _ (List.Mem.tail _ (List.Mem.tail _ (List.Mem.tail _ (List.Mem.head _)))))))) (news_cons NP (List.Mem.tail _ (List.Mem.tail _ (List.Mem.tail _ (List.Mem.tail _ (List.Mem.tail _ (List.Mem.tail _ (List.Mem.tail _ (List.Mem.tail _ (List.Mem.tail _ (List.Mem.tail _ (List.Mem.tail _ (List.Mem.tail _ (List.Mem.tail _ (List.Mem.tail _ (List.Mem.tail _ (List.Mem.tail _ (List.Mem.tail _ (List.Mem.tail _ (List.Mem.tail _ (List.Mem.tail _ (List.Mem.tail _ (List.Mem.tail _ (List.Mem.tail _ (List.Mem.tail _ (List.Mem.tail _ (List.Mem.tail _ (List.Mem.tail _ (List.Mem.head _)))))))))))))))))))))))))))) News.nil)))))))) ?hdis7 hC840 hOff hBel iPL iEM iPT sPL sEM sPT e20 e2 ?la7 e6 e7 e8 e9 e10 e11 e12 e13 e14 f1 f2 f3 f4 f5 hT8 hAB ?hm17 ?hm27 hn1 hn2 hsz xsM_len hfG hfR ?ret7 ?raise7 ?hd7 ?hu7)
      case B7 => k_asm
      case F7 => k_asm
      case X7 => k_asm
      case T7 => k_asm
      case hk7 => exact rfl
      case hd7 => ktr_room
      case hu7 => ktr_units
      case hdis7 => exact fun _ _ _ h => nomatch h
      case la7 => omega
      case hm17 => omega
      case hm27 => omega
      case hPR7 => exact IntsAre.nil
      case ret7 =>
        intro h20 tk20 r20 v20 x20 tx20 st20 ps20 hOut hz20 hx20 hPR20 F20 N20
        obtain ⟨cl20, n20⟩ := r20
        simp only [List.cons_append, List.nil_append] at N20
        clear NP FP hOff hBel hFn hRepl
        rcases hDue with ⟨hDd, rfl⟩ | ⟨hzd, hxd, hkd, xd, txd, rfl, hcd⟩
        · exact (die_not (fun i hi => (hsz i hi).1) hT8 hDd hz20 hx20).elim
        · have hP9 : IntsAre cl20.toList ((List.range kd).map sz) := by rw [hkd]; exact hPR20
          have hk8 : kd ≤ 8 := by (have q := due_k_le (xs := xsM) (sz := sz) (g := fG) (cds (Txt.join (Str.ofString "") txs))); rw [cds_len, ← hkd] at q; omega
          unfold RepOut at hOut
          rw [← hkd] at hOut
          clear hPR20
          rcases hOut with ⟨rfl, ⟨xv, txv, rfl, hxv⟩, rfl⟩ | ⟨rfl, hk9, ⟨txv, rfl⟩, rfl⟩ | ⟨rfl, hk9, ⟨txv, rfl⟩, hxv⟩
          · obtain rfl : xv = xd := str_of_cds (hxv.trans hcd.symm)
            k_steps
          · obtain rfl : xd = Txt.join (Str.ofString "") txs := str_of_cds (hcd.trans (due_zero (hkd.symm.trans hk9)))
            k_steps
          · obtain rfl : x20 = xd := str_of_cds (hxv.trans hcd.symm)
            k_steps
      case raise7 =>
        intro h20 tk20 r20 e20 t20 vs20 D20 g20 dt20 k20 ps20 hDie hPR20 F20 U20 DI20 R20
        obtain ⟨cl20, n20⟩ := r20
        simp only [List.cons_append, List.nil_append] at R20
        clear NP FP hOff hBel hFn hRepl
        rcases hDue with ⟨hDd, rfl⟩ | ⟨hzd, hxd, hkd, xd, txd, rfl, hcd⟩
        · obtain rfl : k20 = kd := die_unique (fun i hi => (hsz i hi).1) hT8 hDie hDd
          have hP9 : IntsAre cl20.toList ((List.range k20).map sz) := hPR20
          have hk8 : k20 ≤ 8 := Nat.le_trans (repdie_le hDd) hT8
          clear hPR20
          k_dflt (refine' caught_D hBl9 F20 U20 R20 DI20 hIn9 (topRead_of T9) ?ex8 (hIn9 532 _ (by rfl)) (by rfl) ?k8)
          case ex8 => k_is
          case k8 =>
            intro h' tk' oe ws hoc hod hoD F' N'
            k_steps
            have hI9 := exc_inst N' (List.Mem.head _) (List.Mem.tail _ (List.Mem.head _)) hoc hod hoD
            k_dflt (refine' get_ownE (C2 := 512) ?x1 hIn9 hI9 ?x4 ?x5 ?x6 ?x7 ?x8 ?x9 ?x10 ?x11 ?x12 ?x13)
            case x1 => k_asm
            case x4 => k_is
            case x5 => k_is
            case x6 => k_is
            case x7 => exact rfl
            case x8 => k_is
            case x9 => k_is
            case x10 => k_is
            case x11 => k_get
            case x12 => k_handed
            k_steps
            dsimp only
            (with_reducible rename News _ _ _ (_ :: _) => N30)
            (with_reducible rename Fr _ _ _ _ => F30)
            refine name_goesX F30 N30 ?_
            intro h' v' F' N'
            clear N30 F30
            k_steps
        · exact (die_not (fun i hi => (hsz i hi).1) hT8 hDie hzd hxd).elim
)

end MLawS
end Mine
set_option maxRecDepth 100000 in
set_option maxHeartbeats 40000000 in
theorem PySem.Challenge.cw_qz0120_01_holds : PySem.Challenge.rw_qz0120_01.Holds :=
  Mine.law0
