import PyProof.Rows.All
import Wide.All
import OpenK.AllK
import Wide.FinOn
import PySem.Challenge.RW_pc0371_01
open PySem PySem.W PyProof.Rows
set_option Elab.async false
set_option genInjectivity false
set_option genSizeOf false
set_option maxRecDepth 100000
set_option maxHeartbeats 8000000
namespace Mine
section
local macro_rules | `(tactic| o_head $_) => `(tactic| skip)
theorem pre (h : PySem.Challenge.rw_pc0371_01.row.Holds) : PySem.Challenge.rw_pc0371_01.row.Holds := by
  k_head
  exact h
end


noncomputable def Keep (X : List Addr) (h h' : Heap) : Prop := ∀ b o, h.get? b = some o → b ∉ X → h'.get? b = some o

/-- where a call leaves: what the caller may rely on -/
noncomputable def LeaveX (h₀ : Heap) (L : Addr) (m : Str → Option Value) (g h : Heap) (X : List Addr) (R : Result → Shared → Prop) (v : Value) (s' : Shared) : Prop :=
  ∃ L' m' news', Fr g L' s'.heap m' ∧ News g L' s'.heap news' ∧
    (Fr h₀ L s'.heap m → News h₀ L s'.heap news' → Keep X h s'.heap → (∀ p ∈ news', p.1 ∈ X ∨ h.get? p.1 = none) → R (.ok (.ret v)) s')
theorem leaveX_out {h₀ g h : Heap} {L L' : Addr} {m m' : Str → Option Value} {news news' : List (Addr × Obj)} {R : Result → Shared → Prop} {v : Value} {s' : Shared}
    (F : Fr h₀ L h m) (N : News h₀ L h news) (FG : Fr h₀ L g m) (st : h₀.StaysIn g) (hg : ∀ b o, h.get? b = some o → b ∉ news.map (·.1) → g.get? b = some o) (F' : Fr g L' s'.heap m') (N' : News g L' s'.heap news')
    (k : Fr h₀ L s'.heap m → News h₀ L s'.heap news' → Keep (news.map (·.1)) h s'.heap → (∀ p ∈ news', p.1 ∈ news.map (·.1) ∨ h.get? p.1 = none) → R (.ok (.ret v)) s') : R (.ok (.ret v)) s' := by
  obtain ⟨oL, es, ep, hL, hLd, hLk, hLf⟩ := FG.ns
  refine k ⟨⟨oL, es, ep, F'.keep L oL hL, hLd, hLk, hLf⟩, fun b o e => F'.keep b o (st b o e), F.above⟩ (fun p hp => ⟨(N' p hp).1, fun q => ?_, ?_⟩) (fun b o e n => F'.keep b o (hg b o e n)) fun p hp => ?_
  · have := (N' p hp).2.2; rw [q, hL] at this; cases this
  · cases q : h₀.get? p.1 with
    | none => rfl
    | some o => have := (N' p hp).2.2; rw [st _ _ q] at this; cases this
  · by_cases q : p.1 ∈ news.map (·.1)
    · exact .inl q
    · refine .inr ?_
      cases z : h.get? p.1 with
      | none => rfl
      | some o => have := (N' p hp).2.2; rw [hg _ _ z q] at this; cases this

theorem enterX {prog : Program} {w : World} {A₀ A : Around} {s : Shared} {base h₀ : Heap} {outer : List Env} {L : Addr} {m mg mb : Str → Option Value} {env : Env} {news : List (Addr × Obj)} {K : Frag} {p : Program} {loose : List Str} {mean : ExcName → Option Value}
    {R : Result → Shared → Prop} {name qual : Str} {params : Arguments} {body : List Stmt} {scope : Scope} {dV kV doc pm cdv ct oc : Value} {an od : Option Addr} {osl : Array (Option Value)} {f : Addr} {args : Args} (rb : List (Str × Value))
    (B : Below A₀ base outer h₀) (F : Fr h₀ L s.heap m) (X₀ : K.In h₀) (N : News h₀ L s.heap news) (T : Top p loose mean mg mb h₀) (hA : A.frames = some (env :: outer)) (hf : env.frame = some L) (hke : env.scope.kind = .function)
    (ho : K.lookup f = some ⟨oc, od, .func (fnOf name qual params body scope dV kV doc pm an cdv ct), osl⟩) (hcd : codeIn K cdv qual = true) (hroom : A.depth < recursionLimit)
    (hbind : BindsTo s (fnOf name qual params body scope dV kV doc pm an cdv ct) args rb.reverse) (hloc : ∀ y ∈ rb.reverse, scope.names.lookup y.1 = some .local)
    (h : ∀ g L' h₁ tk, (∀ b o, s.heap.get? b = some o → b ∉ news.map (·.1) → g.get? b = some o) → Fr h₀ L g m → Fr g L' h₁ (fun y => rb.lookup y) → News g L' h₁ news → Below A base (env :: outer) g → K.In g → Top p loose mean mg mb g → (∀ p ∈ news, p.1 < L') →
      wpAny (model prog w) (A.deeper (envOf qual scope L' f cdv)) (execs body (envOf qual scope L' f cdv))
        (fun fl s' => LeaveX h₀ L m g s.heap (news.map (·.1)) R (match fl with | .ret v => v | _ => .none) s')
        (fun e s' => wpAny (model prog w) (A.deeper (envOf qual scope L' f cdv)) (leaving (envOf qual scope L' f cdv) e) (fun _ s'' => R (.error e) s'') (fun e' s'' => R (.error e') s'') s')
        { s with heap := h₁, toks := tk })
    (hco : scope.isCoroutine = false) (hgen : scope.isGenerator = false) (hk : scope.kind = .function)
    (hcell : ∀ x ∈ scope.names, x.2 ≠ .cell) : codeAny (model prog w) A (.call (.ref f) args) R s := by
  obtain ⟨FG, BG, st, _⟩ := groundX (R := R) B F N hA hf hke
  refine codeAny_call_def (fd := fnOf name qual params body scope dV kV doc pm an cdv ct) (body := body) (binds := rb.reverse) hroom ((X₀.keeps F.keep) _ _ ho) rfl (T.nolimit.keeps F.keep) (codeRec_of (X₀.keeps F.keep) hcd) rfl hbind hcell hloc (fun h₁ hns hk₁ => ?_) hco hgen hk
  have hg : ∀ b o, s.heap.get? b = some o → b ∉ news.map (·.1) → (hideAll s.heap (news.map (·.1))).get? b = some o := fun b o e n => hideAll_get _ e n
  refine wpAny_mono (h _ s.heap.objs.size h₁ _ hg FG ⟨(by simpa only [List.reverse_reverse] using hns), fun b o e => hk₁ b o (of_hideAll _ e), Nat.le_of_eq (hideAll_size _ _)⟩
    (fun p hp => ⟨hk₁ _ _ (N p hp).1, Nat.ne_of_lt (Heap.lt_size (N p hp).1), hideAll_none _ (List.mem_map_of_mem hp)⟩) BG (X₀.keeps st) (T.keeps st) (fun p hp => Heap.lt_size (N p hp).1)) (fun fl s' hl => ?_) fun _ _ y => y
  obtain ⟨L', m', news', F', N', k⟩ := hl
  exact leaveX_out F N FG st hg F' N' k

theorem enterXC {prog : Program} {w : World} {A₀ A : Around} {s : Shared} {base h₀ : Heap} {outer : List Env} {L : Addr} {m mg mb : Str → Option Value} {env : Env} {news : List (Addr × Obj)} {K : Frag} {p : Program} {loose : List Str} {mean : ExcName → Option Value}
    {R : Result → Shared → Prop} {name qual : Str} {params : Arguments} {body : List Stmt} {scope : Scope} {dV kV doc pm cdv ct oc : Value} {an od : Option Addr} {osl : Array (Option Value)} {f : Addr} {args : Args} {binds : List (Str × Value)}
    (B : Below A₀ base outer h₀) (F : Fr h₀ L s.heap m) (X₀ : K.In h₀) (N : News h₀ L s.heap news) (T : Top p loose mean mg mb h₀) (hA : A.frames = some (env :: outer)) (hf : env.frame = some L) (hke : env.scope.kind = .function)
    (ho : K.lookup f = some ⟨oc, od, .func (fnOf name qual params body scope dV kV doc pm an cdv ct), osl⟩) (hcd : codeIn K cdv qual = true) (hroom : A.depth < recursionLimit)
    (hbind : BindsTo s (fnOf name qual params body scope dV kV doc pm an cdv ct) args binds) (hkind : (binds.all fun y => scope.names.lookup y.1 == some .local || scope.names.lookup y.1 == some .cell) = true)
    (hnd : ((cellsFrom 0 scope.names []).map (·.1)).Nodup)
    (h : ∀ g L' h₁ tk cells, (∀ b o, s.heap.get? b = some o → b ∉ news.map (·.1) → g.get? b = some o) → Fr h₀ L g m → Fr g L' h₁ (bindL (envOfC qual scope L' f cdv).kindOf binds fun _ => none) → News g L' h₁ (cells ++ news) →
      CellsAre (bindC (envOfC qual scope L' f cdv).kindOf binds fun _ => none) (cellsFrom (L' + 1) scope.names []) cells → Below A base (env :: outer) g → K.In g → Top p loose mean mg mb g → (∀ p ∈ news, p.1 < L') →
      wpAny (model prog w) (A.deeper (envOfC qual scope L' f cdv)) (execs body (envOfC qual scope L' f cdv))
        (fun fl s' => LeaveX h₀ L m g s.heap (news.map (·.1)) R (match fl with | .ret v => v | _ => .none) s')
        (fun e s' => wpAny (model prog w) (A.deeper (envOfC qual scope L' f cdv)) (leaving (envOfC qual scope L' f cdv) e) (fun _ s'' => R (.error e) s'') (fun e' s'' => R (.error e') s'') s')
        { s with heap := h₁, toks := tk })
    (hco : scope.isCoroutine = false) (hgen : scope.isGenerator = false) (hk : scope.kind = .function) : codeAny (model prog w) A (.call (.ref f) args) R s := by
  obtain ⟨FG, BG, st, _⟩ := groundX (R := R) B F N hA hf hke
  have hg : ∀ b o, s.heap.get? b = some o → b ∉ news.map (·.1) → (hideAll s.heap (news.map (·.1))).get? b = some o := fun b o e n => hideAll_get _ e n
  refine codeAny_call_function hroom ((X₀.keeps F.keep) _ _ ho) rfl hco hgen rfl (codeRec_of (X₀.keeps F.keep) hcd) (hbind _ _ _ _ ?_)
  refine wpAny_newFunctionEnv_cells hk (kindsX hkind _) fun env' he s' x => ?_
  subst he
  refine ⟨(T.nolimit.keeps F.keep).keeps x.toInCall.keep, codeAny_func ?_⟩
  obtain ⟨h₁, tk, rfl, _⟩ := x.done
  have hk₁ := x.toInCall.keep
  obtain ⟨cells, NC, Y⟩ := Cl.news (h₀ := s.heap) (Nat.le_refl _) fun n c hm => ⟨x.cell n c (lookup_of_mem_nodup (cellsFrom_names scope.names 0 (s.heap.objs.size + 1) [] [] rfl ▸ hnd) hm), x.above n c hm⟩
  have NN : News (hideAll s.heap (news.map (·.1))) s.heap.objs.size h₁ (cells ++ news) := fun p hp => by
    rcases List.mem_append.mp hp with hp | hp
    · refine ⟨(NC p hp).1, (NC p hp).2.1, ?_⟩
      cases q : (hideAll s.heap (news.map (·.1))).get? p.1 with
      | none => rfl
      | some o => have := of_hideAll _ q; rw [(NC p hp).2.2] at this; cases this
    · exact ⟨hk₁ _ _ (N p hp).1, Nat.ne_of_lt (Heap.lt_size (N p hp).1), hideAll_none _ (List.mem_map_of_mem hp)⟩
  refine wpAny_mono (h _ s.heap.objs.size h₁ tk cells hg FG ⟨x.toInCall.ns, fun b o e => hk₁ b o (of_hideAll _ e), Nat.le_of_eq (hideAll_size _ _)⟩ NN Y BG (X₀.keeps st) (T.keeps st) (fun p hp => Heap.lt_size (N p hp).1)) (fun fl s' hl => ?_) fun _ _ y => y
  obtain ⟨L', m', news', F', N', k⟩ := hl
  exact leaveX_out F N FG st hg F' N' k

theorem seq_cut {M : Model} {A : Around} {E : Value → Shared → Prop} {s : Shared} {st : Stmt} {rest : List Stmt} {env : Env} {Q : Flow → Shared → Prop} (J : Shared → Prop)
    (h1 : wpAny M A (exec st env) (fun fl s' => fl = .next ∧ J s') E s) (h2 : ∀ s', J s' → wpAny M A (execs rest env) Q E s') : wpAny M A (execs (st :: rest) env) Q E s := by
  rw [execs_cons]
  refine wpAny_bind (wpAny_mono h1 (fun fl s' q => ?_) fun _ _ e => e)
  obtain ⟨rfl, j⟩ := q
  exact h2 s' j
theorem room_0 {a d : Nat} (h : a + d < recursionLimit) : a < recursionLimit := Nat.lt_of_le_of_lt (Nat.le_add_right a d) h

set_option genInjectivity true in
inductive Mix where
  | i (k : Int)
  | s (x : Str)
deriving DecidableEq
noncomputable def Mix.is : Mix → Value → Bool
  | .i k, v => Value.isInt k v
  | .s x, v => Value.isStrOf x v
theorem Mix.shape {k : Mix} {v : Value} (h : k.is v = true) : (∃ n t, k = .i n ∧ v = .int n t) ∨ ∃ x t, k = .s x ∧ v = .str x t := by
  cases k with
  | i n => obtain ⟨t, rfl⟩ := Value.isInt_shape h; exact .inl ⟨n, t, rfl, rfl⟩
  | s x => obtain ⟨t, rfl⟩ := Value.isStrOf_shape h; exact .inr ⟨x, t, rfl, rfl⟩
section
variable {prog : Program} {w : World} {A : Around} {E : Value → Shared → Prop} {s : Shared}
theorem eqBool_int_str {a : Int} {t : Tok} {b : Str} {u : Tok} {Q : Bool → Shared → Prop} (h : Q false s) : wpAny (model prog w) A (eqBool (.int a t) (.str b u)) Q E s := by
  unfold eqBool
  have e : (Value.int a t == Value.str b u) = false := rfl
  (try with_reducible refine wpAny_holding ?_)
  simp only [e, Bool.false_eq_true, if_false]
  exact wpAny_bind (EqMixed.eq_int_str (a := a) (t := t) (b := b) (u := u) (wpAny_truthy_bool h))
theorem eqBool_str_int {a : Str} {t : Tok} {b : Int} {u : Tok} {Q : Bool → Shared → Prop} (h : Q false s) : wpAny (model prog w) A (eqBool (.str a t) (.int b u)) Q E s := by
  unfold eqBool
  have e : (Value.str a t == Value.int b u) = false := rfl
  (try with_reducible refine wpAny_holding ?_)
  simp only [e, Bool.false_eq_true, if_false]
  exact wpAny_bind (EqMixed.eq_str_int (a := a) (t := t) (b := b) (u := u) (wpAny_truthy_bool h))
end
noncomputable def mixKind (prog : Program) (w : World) : KeyKind prog w Mix where
  is := Mix.is
  hash := fun k => match k with | .i n => hashInt n | .s x => hashStr w x
  inj := fun v a b ha hb => by
    rcases Mix.shape ha with ⟨n, t, rfl, rfl⟩ | ⟨x, t, rfl, rfl⟩ <;> rcases Mix.shape hb with ⟨n', t', rfl, e⟩ | ⟨x', t', rfl, e⟩ <;> cases e <;> rfl
  byValue := fun k v h => by rcases Mix.shape h with ⟨n, t, rfl, rfl⟩ | ⟨x, t, rfl, rfl⟩ <;> rfl
  pyHash := fun hv h => by
    rcases Mix.shape hv with ⟨n, t, rfl, rfl⟩ | ⟨x, t, rfl, rfl⟩
    · exact wpAny_pyHash_int h
    · exact wpAny_pyHash_str h
  eqBool := fun hu hv h => by
    rcases Mix.shape hu with ⟨n, t, rfl, rfl⟩ | ⟨x, t, rfl, rfl⟩ <;> rcases Mix.shape hv with ⟨n', t', rfl, rfl⟩ | ⟨x', t', rfl, rfl⟩
    · refine wpAny_eqBool_int ?_
      have e : (n == n') = decide (Mix.i n = Mix.i n') := by by_cases q : n = n' <;> simp [q]
      rw [e]; exact h
    · exact eqBool_int_str (by simpa using h)
    · exact eqBool_str_int (by simpa using h)
    · refine wpAny_eqBool_str ?_
      simpa using h
  «strs» := fun k x t v h => by
    rcases Mix.shape h with ⟨n, t', rfl, e⟩ | ⟨x', t', rfl, e⟩
    · cases e
    · cases e; cases v <;> rfl

/-- the pairs (port, kind) as keys -/
noncomputable abbrev Key := Int × Str
noncomputable abbrev PK (w : World) : HeapKind PySem.Challenge.rw_pc0371_01.row.prog w (List Mix) := tupleKind (mixKind PySem.Challenge.rw_pc0371_01.row.prog w)
noncomputable abbrev mk (k : Key) : List Mix := [.i k.1, .s k.2]
theorem mk_inj {a b : Key} (h : mk a = mk b) : a = b := by
  obtain ⟨a1, a2⟩ := a; obtain ⟨b1, b2⟩ := b
  simp only [mk, List.cons.injEq, Mix.i.injEq, Mix.s.injEq, and_true] at h
  rw [h.1, h.2]
/-- a key's tuple -/
noncomputable abbrev tupObj (p : Int) (t : Tok) (x : Str) (u : Tok) : Obj := { cls := .type "tuple", data := .seq [Value.int p t, .str x u].toArray }
noncomputable def KeyObj (k : Key) (o : Obj) : Prop := ∃ t u, o = tupObj k.1 t k.2 u
theorem KeyObj.is {w : World} {k : Key} {o : Obj} {h : Heap} {a : Addr} (ko : KeyObj k o) (ha : h.get? a = some o) : (PK w).is h (mk k) a := by
  obtain ⟨t, u, rfl⟩ := ko
  exact ⟨_, _, _, ha, rfl, rfl, .cons (by simp [mixKind, Mix.is, Value.isInt]) (.cons (by simp [mixKind, Mix.is, Value.isStrOf]) .nil)⟩

section
variable {prog : Program} {w : World}
noncomputable abbrev SK : KeyKind PySem.Challenge.rw_pc0371_01.row.prog w Str := PySem.strKind PySem.Challenge.rw_pc0371_01.row.prog w
theorem isStr_iff {x : Str} {v : Value} : v.isStr x = (PySem.strKind prog w).is x v := ((PySem.strKind prog w).strs x x 0 v (by simp [PySem.strKind, Value.isStrOf])).symm
theorem stored_cons {K : Type} [DecidableEq K] {kv : K × Value} {kvs : List (K × Value)} {x : K} {v : Value} (h : ¬ kv.1 = x) : stored (kv :: kvs) x v = kv :: stored kvs x v := by
  unfold stored
  simp only [List.any_cons, List.map_cons, h, decide_false, Bool.false_or, if_false]
  split <;> rfl
theorem stored_hit {K : Type} [DecidableEq K] {kv : K × Value} {kvs : List (K × Value)} {x : K} {v : Value} (h : kv.1 = x) (hn : x ∉ kvs.map (·.1)) : stored (kv :: kvs) x v = (kv.1, v) :: kvs := by
  have e : kvs.map (fun kv => if kv.1 = x then (kv.1, v) else kv) = kvs := by
    refine (List.map_congr_left fun q hq => ?_).trans (List.map_id _)
    rw [if_neg (fun (z : q.1 = x) => hn (z ▸ List.mem_map_of_mem hq))]; rfl
  unfold stored
  simp only [List.any_cons, h, decide_true, Bool.true_or, if_true, List.map_cons, e]
theorem putL_pairs {x : Str} {tk : Tok} {v : Value} {hh : Int} {es : List DictEntry} {kvs : List (Str × Value)} (P : Pairs (PySem.strKind prog w) es kvs) (hn : (kvs.map (·.1)).Nodup) :
    Pairs (PySem.strKind prog w) (putL x hh (.str x tk) v es) (stored kvs x v) := by
  induction P with
  | nil => exact .cons (by simp [PySem.strKind, Value.isStrOf]) rfl .nil
  | @cons e kv es kvs h1 h2 P ih =>
    rw [List.map_cons, List.nodup_cons] at hn
    unfold putL
    by_cases q : e.key.isStr x = true
    · rw [if_pos q]
      have e1 : kv.1 = x := (PySem.strKind prog w).inj _ _ _ h1 (isStr_iff.symm.trans q)
      rw [stored_hit e1 (e1 ▸ hn.1)]
      exact .cons h1 rfl P
    · rw [if_neg q, stored_cons fun z => q (isStr_iff.trans (z ▸ h1))]
      exact .cons h1 h2 (ih hn.2)
theorem putL_keys {x : Str} {tk : Tok} {v : Value} {es : List DictEntry} (h : ∀ e ∈ es, ∃ k, (PySem.strKind prog w).is k e.key = true ∧ e.hash = (PySem.strKind prog w).hash k) :
    ∀ e ∈ putL x (PyData.keyHash w.params x) (.str x tk) v es, ∃ k, (PySem.strKind prog w).is k e.key = true ∧ e.hash = (PySem.strKind prog w).hash k := by
  induction es with
  | nil => intro e he; rcases List.mem_singleton.mp he with rfl; exact ⟨x, by simp [PySem.strKind, Value.isStrOf], rfl⟩
  | cons a r ih =>
    intro e he
    unfold putL at he
    split at he
    · rcases List.mem_cons.mp he with rfl | he
      · exact h a (.head _)
      · exact h e (.tail _ he)
    · rcases List.mem_cons.mp he with rfl | he
      · exact h e (.head _)
      · exact ih (fun e he => h e (.tail _ he)) e he
theorem putL_length (x : Str) (hh : Int) (k v : Value) : ∀ es : List DictEntry, (putL x hh k v es).length ≤ es.length + 1
  | [] => Nat.le_refl _
  | e :: r => by
    unfold putL
    split
    · simp
    · simp only [List.length_cons]; exact Nat.succ_le_succ (putL_length x hh k v r)
theorem stored_nodup {x : Str} {v : Value} {kvs : List (Str × Value)} (hn : (kvs.map (·.1)).Nodup) : ((stored kvs x v).map (·.1)).Nodup := by
  induction kvs with
  | nil => simp [stored]
  | cons kv r ih =>
    have hn' := hn
    rw [List.map_cons, List.nodup_cons] at hn
    by_cases q : kv.1 = x
    · rw [stored_hit q (q ▸ hn.1)]; simpa using hn'
    · rw [stored_cons q, List.map_cons, List.nodup_cons]
      refine ⟨fun hm => ?_, ih hn.2⟩
      obtain ⟨p, hp, e⟩ := List.mem_map.mp hm
      unfold stored at hp
      split at hp
      · obtain ⟨p', hp', rfl⟩ := List.mem_map.mp hp
        refine hn.1 (e ▸ ?_)
        split
        · exact List.mem_map_of_mem (f := (·.1)) hp'
        · exact List.mem_map_of_mem hp'
      · rcases List.mem_append.mp hp with hp | hp
        · exact hn.1 (e ▸ List.mem_map_of_mem hp)
        · rcases List.mem_singleton.mp hp with rfl; exact q e.symm
theorem getL_pairs {x : Str} {es : List DictEntry} {kvs : List (Str × Value)} (P : Pairs (PySem.strKind prog w) es kvs) : getL x es = some (valueAt kvs x) := by
  have e : (es.find? fun e => e.key.isStr x) = es.find? fun e => (PySem.strKind prog w).is x e.key := congrArg (fun f => es.find? f) (funext fun _ => isStr_iff)
  have f := P.find x
  unfold getL
  rw [e]
  cases q : es.find? fun e => (PySem.strKind prog w).is x e.key with
  | some a => rw [q] at f; rw [← f]; rfl
  | none =>
    rw [q] at f
    rw [← f]
    have : (es.any (·.refKey)) = false := by
      rw [List.any_eq_false]
      intro e he
      clear f q
      rename_i e0; clear e0
      induction P with
      | nil => cases he
      | cons h1 _ _ ih =>
        rcases List.mem_cons.mp he with rfl | he
        · obtain ⟨t, ht⟩ := Value.isStrOf_shape h1
          simp [DictEntry.refKey, ht]
        · exact ih he
    dsimp only
    rw [this]; rfl
/-- an object's dict, opened -/
theorem fld_open {o : Obj} {kvs : List (Str × Value)} (ho : o.IsDictOf (PySem.strKind prog w) kvs) : ∃ es n, o = dictOf es n ∧ (∀ x, getL x es = some (valueAt kvs x)) ∧ es.length = kvs.length ∧
    ∀ x v tk, (dictOf (putL x (PyData.keyHash w.params x) (.str x tk) v es) (putN x es n)).IsDictOf (PySem.strKind prog w) (stored kvs x v) := by
  obtain ⟨es, ep, ⟨h1, h2, h3⟩, h4, h5, h6, h7⟩ := ho
  refine ⟨es.toList, ep, ?_, fun x => getL_pairs h6, h6.length, fun x v tk => ⟨_, _, ⟨rfl, rfl, rfl⟩, rfl, ?_, putL_pairs h6 h7, stored_nodup h7⟩⟩
  · obtain ⟨c, d, dt, sl⟩ := o
    subst h1; subst h2; subst h3; subst h4
    simp [dictOf]
  · intro e he
    exact putL_keys (fun e he => h5 e (Array.mem_toList_iff.mp he)) e (by simpa using he)
end
section
variable {prog : Program} {w : World} {A : Around} {E : Value → Shared → Prop} {s : Shared} {K : Frag} {x C dx L : Addr} {h₀ : Heap} {m : Str → Option Value} {news news' : List (Addr × Obj)} {o : Obj} {kvs : List (Str × Value)} {name : Str} {v : Value}
theorem get_fld {expr : Bool} {Q : Value → Shared → Prop} {attr : Option Value} {ox : Obj} (F : Fr h₀ L s.heap m) (X₀ : K.In h₀) (I : InstAt s.heap x ox C (some o)) (ho : o.IsDictOf (PySem.strKind prog w) kvs) (hg : plainGet K C name = true) (hh : hasDictIn K C = true)
    (ha : findIn K (.ref C) name = some attr) (hn : noGet K attr = true) {nm : Str} (hl : (kvs.find? fun kv => kv.1 = name) = some (nm, v)) (hv : handedIn v = true) (h : Q v { s with toks := s.toks + 1 }) :
    wpAny (model prog w) A (getAttr (.ref x) name expr) Q E s := by
  obtain ⟨es, n, rfl, hG, _, _⟩ := fld_open ho
  exact get_own F X₀ I hg hh ha hn ((hG name).trans (by unfold valueAt; rw [hl]; rfl)) hv h
theorem method_fld {pl : Sem Bool} {Q : Value × List Value → Shared → Prop} {f : Addr} {ox : Obj} (F : Fr h₀ L s.heap m) (X₀ : K.In h₀) (I : InstAt s.heap x ox C (some o)) (ho : o.IsDictOf (PySem.strKind prog w) kvs) (hg : plainGet K C name = true)
    (hf : findIn K (.ref C) name = some (some (.ref f))) (ht : isFn K (.ref f) = true) (hl : valueAt kvs name = none) (h : Q (.ref f, [.ref x]) s) : wpAny (model prog w) A (getMethod (.ref x) name pl) Q E s := by
  obtain ⟨es, n, rfl, hG, _, _⟩ := fld_open ho
  exact method_inst F X₀ I hg hf ht ((hG name).trans (congrArg some hl)) h
theorem set_fld {Q : Unit → Shared → Prop} {g : Obj → List (Addr × Obj)} (F : Fr h₀ L s.heap m) (X₀ : K.In h₀) (N : News h₀ L s.heap news) (I : InstAt s.heap x (instObj C dx) C (some o)) (ho : o.IsDictOf (PySem.strKind prog w) kvs)
    (hs : findIn K (.ref C) "__setattr__" = some (some (.builtin "object.__setattr__"))) (hp : plainOver K C = true) (ht : takerIn K C name = some none) (hh : hasDictIn K C = true)
    (U : UpdF dx o news g) (hz : kvs.length ≤ 100)
    (h : ∀ h' o' tk, Fr h₀ L h' m → News h₀ L h' (g o') → o'.IsDictOf (PySem.strKind prog w) (stored kvs name v) → Q () { s with heap := h', toks := tk }) :
    wpAny (model prog w) A (setAttr (.ref x) name v) Q E s := by
  obtain ⟨es, n, rfl, hG, hlen, hput⟩ := fld_open ho
  obtain ⟨pre, post, rfl, hg, a, b⟩ := U.split
  have hlen' := putL_length name (PyData.keyHash w.params name) (.str name (s.toks + 1)) v es
  refine set_plain (X₀.keeps F.keep) I hs (osa_dict (s := { s with toks := s.toks + 1 }) F N (X₀.keeps F.keep) I rfl hp ht hh (by rw [lookIn_dict, hG]; rfl) a b (putName_dict ..) rfl (by dsimp only [putL] at hlen' ⊢; omega) fun h' F' N' => h h' _ _ F' ?_ (hput name v (s.toks + 1)))
  rw [hg]; exact N'
end

section
variable {prog : Program} {w : World} {A : Around} {E : Value → Shared → Prop} {s : Shared} {env : Env} {h₀ : Heap} {x : Str} {body : List Stmt} {Q : Flow → Shared → Prop}
theorem loopJ {I : Addr} {fp : List Addr} {n : Nat} {P : Nat → Value → Prop} {St : Nat → Heap → Prop} {m₀ : Str → Option Value} {news : List (Addr × Obj)} {hp : Heap} (J : Nat → (Str → Option Value) → List (Addr × Obj) → Prop)
    (W : Walks prog w A I fp [I] n P St) (hIf : I ∈ fp) (hfp : ∀ b ∈ fp, b = I ∨ (∃ q, h₀.get? b = some q) ∨ ∃ o, ∀ i m nx, J i m nx → (b, o) ∈ nx) (hobj : ∀ i h, St i h → ∃ it, h.get? I = some it) (hnew : h₀.get? I = none) (hL : env.locals ∉ fp) (hoff : ∀ p ∈ news, p.1 ≠ I)
    (hst : St 0 hp) (F : Fr h₀ env.locals hp m₀) (N : News h₀ env.locals hp news) (hj : J 0 m₀ news)
    (turn : ∀ i v m₁ news₁ it h tk, i < n → P i v → J i m₁ news₁ → Fr h₀ env.locals h (fun y => if y = x then some v else m₁ y) → News h₀ env.locals h ((I, it) :: news₁) → (∀ p ∈ news₁, p.1 ≠ I) →
      wpAny (model prog w) A (execs body env) (UnrPost h₀ env.locals { s with heap := h, toks := tk } I it (J (i + 1)) Q) E { s with heap := h, toks := tk })
    (done : ∀ m₁ news₁ h tk, J n m₁ news₁ → Fr h₀ env.locals h m₁ → News h₀ env.locals h news₁ → Q .next { s with heap := h, toks := tk }) :
    LoopAtV prog w A h₀ env x body Q E (.ref I) { s with heap := hp } := by
  refine ⟨I, fp, [I], n, P, St, m₀, news, J, rfl, W, hL, ?_, ?_, hst, F, N, hj, ?_, ?_⟩
  · intro b hb; rw [List.mem_singleton.mp hb]; exact hnew
  · intro p hp hI; exact hoff p hp (List.mem_singleton.mp hI)
  · rintro i v m₁ news₁ s₁ own ⟨hh', tk', rfl⟩ hin hP hJ hof hown hget hall hst F₁ N₁
    obtain ⟨it, hit⟩ := hobj _ _ hst
    have hmemI := hall I hIf hnew _ hit
    have N₂ : News h₀ env.locals hh' ((I, it) :: news₁) := fun p hp => by
      rcases List.mem_cons.mp hp with rfl | hp
      · exact N₁ _ (List.mem_append_left _ hmemI)
      · exact N₁ _ (List.mem_append_right _ hp)
    refine wpAny_mono (turn i v m₁ news₁ it hh' tk' hin hP hJ F₁ N₂ fun p hp e => hof p hp (List.mem_singleton.mpr e)) (fun f s₂ p => ?_) fun _ _ e => e
    have fin : UnrEnd h₀ env.locals { s with heap := hh', toks := tk' } I it (J (i + 1)) s₂ → LoopStepU h₀ env.locals [I] own (J (i + 1)) { s with heap := hh', toks := tk' } .next s₂ := by
      rintro ⟨h', tk, m', news', e, F', N', ho, r⟩
      refine ⟨rfl, h', tk, m', news', e, F', fun p hp => ?_, fun p hp hI => ho p hp (List.mem_singleton.mp hI), r⟩
      rcases List.mem_append.mp hp with hp | hp
      · have h2 : hh'.get? p.1 = some p.2 := hget p hp
        rcases hfp _ (hown _ hp) with h1 | ⟨q, h1⟩ | ⟨o, h1⟩
        · have h3 : p = (I, it) := by
            rw [h1, hit] at h2
            exact Prod.ext h1 (Option.some.inj h2).symm
          rw [h3]; exact N' _ (List.mem_cons_self ..)
        · have := (N₁ p (List.mem_append_left _ hp)).2.2
          rw [h1] at this; cases this
        · have h3 := (N₁ _ (List.mem_append_right _ (h1 _ _ _ hJ))).1
          dsimp only at h3
          rw [h2] at h3
          have h4 : p = (p.1, o) := Prod.ext rfl (Option.some.inj h3)
          rw [h4]; exact N' _ (List.mem_cons_of_mem _ (h1 _ _ _ r))
      · exact N' _ (List.mem_cons_of_mem _ hp)
    cases f with
    | ret v => exact .ret p
    | brk => exact .brk p
    | next => exact .next (fin p)
    | cont => exact .cont (fin p)
  · intro h' tk m' news' F' N' _ hJ
    exact done m' news' h' tk hJ F' N'
end

noncomputable def lastOf (now : Int) (ns : List Int) : List Int := ns.filter fun k => decide (now - k < 100)
noncomputable def overB (mo : Option Int) (n : Nat) : Bool := match mo with | none => false | some i => decide (i < (n : Int))
/-- how a bucket fills -/
noncomputable def fillG (rate burst grains time now : Int) : Int := if now ≤ time then grains else if burst * 100 < grains + rate * (now - time) then burst * 100 else grains + rate * (now - time)
/-- what a bucket holds behind a try to take -/
noncomputable def takeG (cost g : Int) : Int := if cost * 100 ≤ g then g - cost * 100 else g

noncomputable abbrev PR := PySem.Challenge.rw_pc0371_01.row.prog
/-- a plain value, its token left open -/
inductive PV where
  | none
  | bool (b : Bool)
  | int (i : Int)
  | str (x : Str)
  | ref (a : Addr)
noncomputable def PV.is : PV → Value → Prop
  | .none, v => v = .none
  | .bool b, v => v = .bool b
  | .int i, v => ∃ t, v = .int i t
  | .str x, v => ∃ t, v = .str x t
  | .ref a, v => v = .ref a
noncomputable def PvsAre : List PV → List Value → Prop
  | [], vs => vs = []
  | p :: ps, vs => ∃ v r, vs = v :: r ∧ p.is v ∧ PvsAre ps r
noncomputable abbrev Led := List (Addr × Obj)
noncomputable abbrev Lm := List (Str × PV)
/-- what holds all through a body's run -/
structure Cx (w : World) (A : Around) (env : Env) (g : Heap) (d : Nat) (sc : Scope) : Prop where
  eX : ∃ cn L a ccd cl, env = envX cn sc L a ccd cl
  kind : sc.kind = .function
  hand : A.handled = none
  X : (Mine.pre.heap_1 w.params).In g
  ctx : ∃ p loose mean mg mb outer A₀ base, Top p loose mean mg mb g ∧ Below A₀ base outer g ∧ A.frames = some (env :: outer)
  dep : A.depth + d < recursionLimit
  un : A.units + 8 * d < cLine
/-- where a body's run stands -/
structure S1 (g : Heap) (env : Env) (s₀ s : Shared) (lm : Lm) (news : Led) : Prop where
  fr : ∃ m, Fr g env.locals s.heap m ∧ ∀ x p, lm.lookup x = some p → ∃ v, m x = some v ∧ p.is v
  N : News g env.locals s.heap news
  same : s.gens = s₀.gens ∧ s.drawn = s₀.drawn ∧ s.os = s₀.os
theorem S1.keep {g : Heap} {env : Env} {s₀ s : Shared} {lm : Lm} {news : Led} (S : S1 g env s₀ s lm news) : ∀ b o, g.get? b = some o → s.heap.get? b = some o := by
  obtain ⟨⟨m, F, _⟩, _⟩ := S; exact F.keep
theorem S1.mem {g : Heap} {env : Env} {s₀ s : Shared} {lm : Lm} {news : Led} (S : S1 g env s₀ s lm news) {a : Addr} {o : Obj} (h : (a, o) ∈ news) : s.heap.get? a = some o := (S.N _ h).1
theorem S1.led {g : Heap} {env : Env} {s₀ s : Shared} {lm : Lm} {news news' : Led} (S : S1 g env s₀ s lm news) (h : ∀ p ∈ news', p ∈ news) : S1 g env s₀ s lm news' := ⟨S.fr, cb_drop S.N h, S.same⟩
/-- an expression that only reckons -/
noncomputable def Pu (w : World) (A : Around) (env : Env) (s : Shared) (e : PySem.Expr) (p : PV) : Prop :=
  ∀ Q E tk, (∀ v tk', p.is v → Q v { s with toks := tk' }) → wpAny (model PR w) A (eval e env) Q E { s with toks := tk }
section
variable {w : World} {A : Around} {env : Env} {g : Heap} {d : Nat} {sc : Scope} {s₀ s : Shared} {lm : Lm} {news : Led} {x : Str} {pos pos' : Pos} {p q : PV} {a b e : PySem.Expr} {i j : Int} {k : Nat}
theorem Pu.int : Pu w A env s (.Constant (.int i) k pos) (.int i) := fun _ _ _ h => wpAny_Constant_int (h _ _ ⟨_, rfl⟩)
theorem Pu.str : Pu w A env s (.Constant (.str x) k pos) (.str x) := fun _ _ _ h => Calls.Constant_str (h _ _ ⟨_, rfl⟩)
theorem Pu.none : Pu w A env s (.Constant .none k pos) .none := fun _ _ tk h => wpAny_Constant_none (h _ tk rfl)
theorem Pu.bool {c : Bool} : Pu w A env s (.Constant (.bool c) k pos) (.bool c) := fun _ _ tk h => wpAny_Constant_bool (h _ tk rfl)
theorem Pu.name (C : Cx w A env g d sc) (S : S1 g env s₀ s lm news) (hl : lm.lookup x = some p) (hx : sc.names.lookup x = some .local) (hd : (x == ("__debug__" : Str)) = false) : Pu w A env s (.Name x pos) p := fun Q E tk h => by
  obtain ⟨⟨m, F, hm⟩, _⟩ := S
  obtain ⟨cn, L, a, ccd, cl, rfl⟩ := C.eX
  obtain ⟨v, hv, hi⟩ := hm x p hl
  exact nameX_L (s := { s with toks := tk }) F hv (h v tk hi) C.kind hx hd
theorem Pu.glob {v : Value} (C : Cx w A env g d sc) (S : S1 g env s₀ s lm news) (hg : nsIn (Mine.pre.heap_1 w.params) mainGlobals x = some (some v)) (hv : p.is v) (hx : sc.names.lookup x = some .globalImplicit) (hd : (x == ("__debug__" : Str)) = false) : Pu w A env s (.Name x pos) p := fun Q E tk h => by
  obtain ⟨⟨m, F, _⟩, _⟩ := S
  obtain ⟨cn, L, a, ccd, cl, rfl⟩ := C.eX
  obtain ⟨pp, loose, mean, mg, mb, outer, A₀, base, T, _⟩ := C.ctx
  exact nameX_K (s := { s with toks := tk }) F C.X (topRead_of T) hg (h v tk hv) C.kind hx hd
theorem Pu.add (ha : Pu w A env s a (.int i)) (hb : Pu w A env s b (.int j)) : Pu w A env s (.BinOp a .Add b pos) (.int (i + j)) := fun _ _ tk h =>
  wpAny_BinOp (ha _ _ tk fun v tk1 hv => hb _ _ tk1 fun u tk2 hu => by obtain ⟨t, rfl⟩ := hv; obtain ⟨t', rfl⟩ := hu; exact add_int (h _ _ ⟨_, rfl⟩))
theorem Pu.sub (ha : Pu w A env s a (.int i)) (hb : Pu w A env s b (.int j)) : Pu w A env s (.BinOp a .Sub b pos) (.int (i - j)) := fun _ _ tk h =>
  wpAny_BinOp (ha _ _ tk fun v tk1 hv => hb _ _ tk1 fun u tk2 hu => by obtain ⟨t, rfl⟩ := hv; obtain ⟨t', rfl⟩ := hu; exact sub_int (h _ _ ⟨_, rfl⟩))
theorem Pu.mul (ha : Pu w A env s a (.int i)) (hb : Pu w A env s b (.int j)) (ok : IntMulOk i j) : Pu w A env s (.BinOp a .Mult b pos) (.int (i * j)) := fun _ _ tk h =>
  wpAny_BinOp (ha _ _ tk fun v tk1 hv => hb _ _ tk1 fun u tk2 hu => by obtain ⟨t, rfl⟩ := hv; obtain ⟨t', rfl⟩ := hu; exact mul_int (h _ _ ⟨_, rfl⟩) ok)
/-- a test -/
noncomputable def Te (w : World) (A : Around) (env : Env) (s : Shared) (e : PySem.Expr) (b : Bool) : Prop :=
  ∀ Q E tk, (∀ tk', Q b { s with toks := tk' }) → wpAny (model PR w) A (isTrue e env (eval e env)) Q E { s with toks := tk }
theorem Te.le (ha : Pu w A env s a (.int i)) (hb : Pu w A env s b (.int j)) (hm : behindInMarks .LtE b = false) : Te w A env s (.Compare a [.LtE] [b] pos) (decide (i ≤ j)) := fun _ _ tk h =>
  wpAny_isTrue_Compare1 (ha _ _ tk fun v tk1 hv => hb _ _ tk1 fun u tk2 hu => by obtain ⟨t, rfl⟩ := hv; obtain ⟨t', rfl⟩ := hu; exact le_int (wpAny_truthy_bool (h _))) hm
theorem Te.ge (ha : Pu w A env s a (.int i)) (hb : Pu w A env s b (.int j)) (hm : behindInMarks .GtE b = false) : Te w A env s (.Compare a [.GtE] [b] pos) (decide (j ≤ i)) := fun _ _ tk h =>
  wpAny_isTrue_Compare1 (ha _ _ tk fun v tk1 hv => hb _ _ tk1 fun u tk2 hu => by obtain ⟨t, rfl⟩ := hv; obtain ⟨t', rfl⟩ := hu; exact ge_int (wpAny_truthy_bool (h _))) hm
theorem Te.lt (ha : Pu w A env s a (.int i)) (hb : Pu w A env s b (.int j)) (hm : behindInMarks .Lt b = false) : Te w A env s (.Compare a [.Lt] [b] pos) (decide (i < j)) := fun _ _ tk h =>
  wpAny_isTrue_Compare1 (ha _ _ tk fun v tk1 hv => hb _ _ tk1 fun u tk2 hu => by obtain ⟨t, rfl⟩ := hv; obtain ⟨t', rfl⟩ := hu; exact lt_int (wpAny_truthy_bool (h _))) hm
theorem Te.gt (ha : Pu w A env s a (.int i)) (hb : Pu w A env s b (.int j)) (hm : behindInMarks .Gt b = false) : Te w A env s (.Compare a [.Gt] [b] pos) (decide (j < i)) := fun _ _ tk h =>
  wpAny_isTrue_Compare1 (ha _ _ tk fun v tk1 hv => hb _ _ tk1 fun u tk2 hu => by obtain ⟨t, rfl⟩ := hv; obtain ⟨t', rfl⟩ := hu; exact gt_int (wpAny_truthy_bool (h _))) hm
theorem Pu.ge (ha : Pu w A env s a (.int i)) (hb : Pu w A env s b (.int j)) (hm : behindInMarks .GtE b = false) : Pu w A env s (.Compare a [.GtE] [b] pos) (.bool (decide (j ≤ i))) := fun _ _ tk h =>
  wpAny_Compare1 (ha _ _ tk fun v tk1 hv => hb _ _ tk1 fun u tk2 hu => by obtain ⟨t, rfl⟩ := hv; obtain ⟨t', rfl⟩ := hu; exact ge_int (h _ _ rfl)) hm
theorem Te.not {c : Bool} (h : Te w A env s e c) : Te w A env s (.UnaryOp .Not e pos) (!c) := fun _ _ tk k => isTrue_not (h _ _ tk k)
noncomputable def PV.noneB : PV → Bool
  | .none => true
  | _ => false
theorem PV.is_none {v : Value} (hv : p.is v) : (v == Value.none) = p.noneB := by
  cases p
  · cases hv; rfl
  · cases hv; rfl
  · obtain ⟨_, rfl⟩ := hv; rfl
  · obtain ⟨_, rfl⟩ := hv; rfl
  · cases hv; rfl
theorem Te.isNone (ha : Pu w A env s a p) : Te w A env s (.Compare a [.Is] [.Constant .none k pos'] pos) p.noneB := fun _ _ tk h =>
  wpAny_isTrue_Compare1 (ha _ _ tk fun v tk1 hv => wpAny_Constant_none (is_none_gen (wpAny_truthy_bool (by rw [PV.is_none hv]; exact h _)))) rfl
theorem Te.isNot (ha : Pu w A env s a p) : Te w A env s (.Compare a [.IsNot] [.Constant .none k pos'] pos) (!p.noneB) := fun _ _ tk h =>
  wpAny_isTrue_Compare1 (ha _ _ tk fun v tk1 hv => wpAny_Constant_none (isnot_none_gen (wpAny_truthy_bool (by rw [PV.is_none hv]; exact h _)))) rfl
theorem S1.tok (S : S1 g env s₀ s lm news) (tk : Nat) : S1 g env s₀ { s with toks := tk } lm news := ⟨S.fr, S.N, S.same⟩
/-- an expression, whatever it does -/
noncomputable def Ev (w : World) (A : Around) (env : Env) (g : Heap) (s₀ s : Shared) (lm : Lm) (e : PySem.Expr) {α : Type} (C : α → Shared → Prop) (P : α → PV) (fn : α → Led) : Prop :=
  ∀ Q E, (∀ x v s', (P x).is v → C x s' → S1 g env s₀ s' lm (fn x) → Q v s') → wpAny (model PR w) A (eval e env) Q E s
theorem Pu.ev (h : Pu w A env s e p) (S : S1 g env s₀ s lm news) : Ev w A env g s₀ s lm e (fun (_ : Unit) s' => s'.heap = s.heap) (fun _ => p) (fun _ => news) := fun Q E k => h Q E s.toks fun v tk' hv => k () v _ hv rfl (S.tok tk')
variable {α : Type} {C : α → Shared → Prop} {P : α → PV} {fn : α → Led} {Q : Flow → Shared → Prop} {E : Value → Shared → Prop} {rest body orelse : List Stmt}
theorem S1.put {h' : Heap} {tk : Nat} {m : Str → Option Value} {v : Value} (hm : ∀ x p, lm.lookup x = some p → ∃ v, m x = some v ∧ p.is v) (hv : p.is v) (F : Fr g env.locals h' (fun y => if y = x then some v else m y)) (N : News g env.locals h' news) (same : s.gens = s₀.gens ∧ s.drawn = s₀.drawn ∧ s.os = s₀.os) :
    S1 g env s₀ { s with heap := h', toks := tk } ((x, p) :: lm) news := by
  refine ⟨⟨_, F, fun y q hq => ?_⟩, N, same⟩
  rw [List.lookup_cons] at hq
  by_cases e : y = x
  · subst e
    rw [beq_self_eq_true] at hq
    cases hq
    exact ⟨v, if_pos rfl, hv⟩
  · rw [beq_eq_false_iff_ne.mpr e] at hq
    obtain ⟨u, hu, hi⟩ := hm y q hq
    exact ⟨u, (if_neg e).trans hu, hi⟩
theorem r_set (Cc : Cx w A env g d sc) (hE : Ev w A env g s₀ s lm e C P fn) (hx : sc.names.lookup x = some .local) (hs : ∀ en, swapsWith e (some (.Name x pos')) pos.line en = pure false)
    (k : ∀ y s' s'', C y s' → S1 g env s₀ s'' ((x, P y) :: lm) (fn y) → (∀ b, b ≠ env.locals → s''.heap.get? b = s'.heap.get? b) → wpAny (model PR w) A (execs rest env) Q E s'') : wpAny (model PR w) A (execs (.Assign [.Name x pos'] e pos :: rest) env) Q E s := by
  refine wpAny_execs_cons (wpAny_Assign_Name (hE _ _ fun y v s' hv hc S => ?_) (hs env))
  obtain ⟨⟨m, F, hm⟩, N, same⟩ := S
  obtain ⟨cn, L, a, ccd, cl, rfl⟩ := Cc.eX
  refine wpAny_storeName_local hx F.ns (fun h' hn hsb => k y s' _ hc (S1.put hm hv (F.set hn hsb) (N.set hsb) same) fun b hb => hsb.2 b hb) ?_
  show (sc.kind == .class || (sc.kind == .module && L != mainGlobals)) = false
  rw [Cc.kind]; rfl
theorem r_ret (hE : Ev w A env g s₀ s lm e C P fn) (k : ∀ y v s', (P y).is v → C y s' → S1 g env s₀ s' lm (fn y) → Q (.ret v) s') : wpAny (model PR w) A (execs (.Return (some e) pos :: rest) env) Q E s :=
  wpAny_execs_cons (wpAny_Return_some (hE _ _ k))
theorem r_expr (Cc : Cx w A env g d sc) (hE : Ev w A env g s₀ s lm e C P fn) (hs : ∀ en, swapsWith e none pos.line en = pure false) (k : ∀ y s', C y s' → S1 g env s₀ s' lm (fn y) → wpAny (model PR w) A (execs rest env) Q E s') :
    wpAny (model PR w) A (execs (.Expr e pos :: rest) env) Q E s := by
  refine wpAny_execs_cons (wpAny_Expr_any (hE _ _ fun y v s' _ hc S => k y s' hc S) ?_ (hs env))
  obtain ⟨cn, L, a, ccd, cl, rfl⟩ := Cc.eX
  show (sc.kind == .module && _) = false
  rw [Cc.kind]; rfl
/-- behind a branch: on, or out -/
noncomputable def Then (w : World) (A : Around) (env : Env) (rest : List Stmt) (Q : Flow → Shared → Prop) (E : Value → Shared → Prop) (f : Flow) (s' : Shared) : Prop := match f with
  | .next => wpAny (model PR w) A (execs rest env) Q E s'
  | f => Q f s'
theorem r_if {c : Bool} (hT : Te w A env s e c) (S : S1 g env s₀ s lm news) (k1 : c = true → ∀ s', S1 g env s₀ s' lm news → s'.heap = s.heap → wpAny (model PR w) A (execs body env) (Then w A env rest Q E) E s')
    (k2 : c = false → ∀ s', S1 g env s₀ s' lm news → s'.heap = s.heap → wpAny (model PR w) A (execs orelse env) (Then w A env rest Q E) E s') : wpAny (model PR w) A (execs (.If e body orelse pos :: rest) env) Q E s := by
  refine wpAny_execs_cons (wpAny_mono (wpAny_If (Q := Then w A env rest Q E) (hT _ _ s.toks fun tk' => ?_)) (fun f s' h => by cases f <;> exact h) fun _ _ h => h)
  cases c with
  | true => exact k1 rfl _ (S.tok tk') rfl
  | false => exact k2 rfl _ (S.tok tk') rfl
theorem r_end (h : Q .next s) : wpAny (model PR w) A (execs [] env) Q E s := wpAny_execs_nil h
end
section
variable {K : Type} [DecidableEq K] [BEq K] [LawfulBEq K]
/-- dicts of an object -/
noncomputable def DL {K : Type} : List (K × PV) → List (K × Value) → Prop
  | [], kvs => kvs = []
  | q :: r, kvs => ∃ v t, kvs = (q.1, v) :: t ∧ q.2.is v ∧ DL r t
noncomputable def DctK {w : World} (knd : KeyKind PR w K) (o : Obj) (l : List (K × PV)) : Prop := ∃ kvs, o.IsDictOf knd kvs ∧ DL l kvs
noncomputable abbrev Dct (w : World) (o : Obj) (l : Lm) : Prop := DctK (SK (w := w)) o l
noncomputable def putP : List (K × PV) → K → PV → List (K × PV)
  | [], x, p => [(x, p)]
  | q :: r, x, p => if q.1 = x then (x, p) :: r else q :: putP r x p
theorem DL.find : ∀ {l : List (K × PV)} {kvs : List (K × Value)} {x : K} {p : PV}, DL l kvs → l.lookup x = some p → ∃ v, (kvs.find? fun kv => kv.1 = x) = some (x, v) ∧ p.is v
  | [], _, _, _, _, h => by cases h
  | q :: r, kvs, x, p, hd, h => by
    obtain ⟨v, t, rfl, hv, hd⟩ := hd
    rw [List.lookup_cons] at h
    by_cases e : x = q.1
    · rw [beq_iff_eq.mpr e] at h
      cases h
      exact ⟨v, by simp [e], hv⟩
    · rw [beq_eq_false_iff_ne.mpr e] at h
      obtain ⟨u, h1, h2⟩ := DL.find hd h
      refine ⟨u, ?_, h2⟩
      rw [List.find?_cons_of_neg (by simpa using fun z => e z.symm)]
      exact h1
theorem DL.miss : ∀ {l : List (K × PV)} {kvs : List (K × Value)} {x : K}, DL l kvs → l.lookup x = none → valueAt kvs x = none
  | [], _, _, hd, _ => by cases hd; rfl
  | q :: r, kvs, x, hd, h => by
    obtain ⟨v, t, rfl, hv, hd⟩ := hd
    rw [List.lookup_cons] at h
    by_cases e : x = q.1
    · rw [beq_iff_eq.mpr e] at h; cases h
    · rw [beq_eq_false_iff_ne.mpr e] at h
      have := DL.miss hd h
      unfold valueAt at this ⊢
      rw [List.find?_cons_of_neg (by simpa using fun z => e z.symm)]
      exact this
omit [BEq K] [LawfulBEq K] in
theorem DL.put : ∀ {l : List (K × PV)} {kvs : List (K × Value)} {x : K} {p : PV} {v : Value}, DL l kvs → (kvs.map (·.1)).Nodup → p.is v → DL (putP l x p) (stored kvs x v)
  | [], _, x, p, v, hd, _, hv => by cases hd; exact ⟨v, [], rfl, hv, rfl⟩
  | q :: r, kvs, x, p, v, hd, hn, hv => by
    obtain ⟨u, t, rfl, hu, hd⟩ := hd
    rw [List.map_cons, List.nodup_cons] at hn
    unfold putP
    by_cases e : q.1 = x
    · rw [if_pos e, stored_hit (kv := (q.1, u)) e (e ▸ hn.1)]
      exact ⟨v, t, by rw [e], hv, hd⟩
    · rw [if_neg e, stored_cons (kv := (q.1, u)) e]
      exact ⟨u, _, rfl, hu, DL.put hd hn.2 hv⟩
theorem DL.length {K : Type} : ∀ {l : List (K × PV)} {kvs : List (K × Value)}, DL l kvs → kvs.length = l.length
  | [], _, h => by cases h; rfl
  | _ :: _, _, h => by obtain ⟨v, t, rfl, _, h⟩ := h; simp [DL.length h]
end
theorem PV.handed {p : PV} {v : Value} (h : p.is v) : handedIn v = true := by
  cases p
  · cases h; rfl
  · cases h; rfl
  · obtain ⟨_, rfl⟩ := h; rfl
  · obtain ⟨_, rfl⟩ := h; rfl
  · cases h; rfl
structure AttrOk (w : World) (C : Addr) (n : Str) : Prop where
  g : plainGet (Mine.pre.heap_1 w.params) C n = true
  h : hasDictIn (Mine.pre.heap_1 w.params) C = true
  f : ∃ attr, findIn (Mine.pre.heap_1 w.params) (.ref C) n = some attr ∧ noGet (Mine.pre.heap_1 w.params) attr = true
structure SetOk (w : World) (C : Addr) (n : Str) : Prop where
  s : findIn (Mine.pre.heap_1 w.params) (.ref C) "__setattr__" = some (some (.builtin "object.__setattr__"))
  p : plainOver (Mine.pre.heap_1 w.params) C = true
  t : takerIn (Mine.pre.heap_1 w.params) C n = some none
  h : hasDictIn (Mine.pre.heap_1 w.params) C = true
structure MethOk (w : World) (C : Addr) (n : Str) (fa : Addr) : Prop where
  g : plainGet (Mine.pre.heap_1 w.params) C n = true
  f : findIn (Mine.pre.heap_1 w.params) (.ref C) n = some (some (.ref fa))
  i : isFn (Mine.pre.heap_1 w.params) (.ref fa) = true
  k : keepIn (Mine.pre.heap_1 w.params) (.ref fa) = true
/-- an object, and its dict -/
noncomputable def Inst (h : Heap) (a C : Addr) (o : Obj) : Prop := ∃ dx, h.get? a = some (instObj C dx) ∧ h.get? dx = some o
theorem Inst.at {h : Heap} {a C : Addr} {o : Obj} (I : Inst h a C o) : ∃ dx, InstAt h a (instObj C dx) C (some o) := let ⟨dx, h1, h2⟩ := I; ⟨dx, h1, rfl, rfl, h2⟩
section
variable {w : World} {A : Around} {env : Env} {g : Heap} {d : Nat} {sc : Scope} {s₀ s : Shared} {lm l : Lm} {news : Led} {x n : Str} {xpos pos pos' : Pos} {p q : PV} {e : PySem.Expr} {a K : Addr} {o : Obj}
theorem S1.inst {dx : Addr} (S : S1 g env s₀ s lm news) (h1 : (a, instObj K dx) ∈ news) (h2 : (dx, o) ∈ news) : Inst s.heap a K o := ⟨dx, S.mem h1, S.mem h2⟩
theorem S1.instB (S : S1 g env s₀ s lm news) (h : Inst g a K o) : Inst s.heap a K o := let ⟨dx, h1, h2⟩ := h; ⟨dx, S.keep _ _ h1, S.keep _ _ h2⟩
theorem Pu.attr (C : Cx w A env g d sc) (S : S1 g env s₀ s lm news) (hx : Pu w A env s (.Name x xpos) (.ref a)) (I : Inst s.heap a K o) (hD : Dct w o l) (hl : l.lookup n = some p) (ok : AttrOk w K n) :
    Pu w A env s (.Attribute (.Name x xpos) n pos) p := fun Q E tk h => by
  refine Attribute_Name_ (hx _ _ tk fun v tk1 hv => ?_)
  cases hv
  obtain ⟨⟨m, F, _⟩, _⟩ := S
  obtain ⟨dx, I⟩ := I.at
  obtain ⟨kvs, hD, hd⟩ := hD
  obtain ⟨v, hf, hv⟩ := hd.find hl
  obtain ⟨attr, f1, f2⟩ := ok.f
  exact get_fld (s := { s with toks := tk1 }) F C.X I hD ok.g ok.h f1 f2 hf (PV.handed hv) (h v _ hv)
theorem r_attr {α : Type} {Cy : α → Shared → Prop} {P : α → PV} {Q : Flow → Shared → Prop} {E : Value → Shared → Prop} {rest : List Stmt} {dx : Addr} {gg : Obj → Led} (C : Cx w A env g d sc) (hE : Ev w A env g s₀ s lm e Cy P (fun _ => news)) (hx : lm.lookup x = some (.ref a)) (hk : sc.names.lookup x = some .local)
    (h1 : (a, instObj K dx) ∈ news) (U : UpdF dx o news gg) (hD : Dct w o l) (ok : SetOk w K n) (hz : l.length ≤ 100) (hs : ∀ en, swapsWith e (some (.Attribute (.Name x xpos) n pos')) pos.line en = pure false)
    (k : ∀ y s' s'' o', Cy y s' → S1 g env s₀ s'' lm (gg o') → Dct w o' (putP l n (P y)) → wpAny (model PR w) A (execs rest env) Q E s'') (hd : (x == ("__debug__" : Str)) = false := by decide) :
    wpAny (model PR w) A (execs (.Assign [.Attribute (.Name x xpos) n pos'] e pos :: rest) env) Q E s := by
  refine wpAny_execs_cons (plainObj_wpAny_Assign_Attribute (hE _ _ fun y v s' hv hc S => ?_) (hs env))
  refine Pu.name C S hx hk hd _ _ s'.toks fun u tk hu => ?_
  cases hu
  obtain ⟨⟨m, F, hm⟩, N, same⟩ := S
  obtain ⟨kvs, hD, hd⟩ := hD
  have h2 : (dx, o) ∈ news := by obtain ⟨pre, post, rfl, _⟩ := U.split; simp
  have hnd : (kvs.map (·.1)).Nodup := by obtain ⟨_, _, _, _, _, _, h⟩ := hD; exact h
  exact set_fld (s := { s' with toks := tk }) F C.X N ⟨(N _ h1).1, rfl, rfl, (N _ h2).1⟩ hD ok.s ok.p ok.t ok.h U (by rw [DL.length hd]; exact hz) fun h' o' tk' F' N' hD' =>
    k y s' _ o' hc ⟨⟨m, F', hm⟩, N', same⟩ ⟨_, hD', DL.put hd hnd hv⟩
/-- reckoned arguments -/
noncomputable def PuL (w : World) (A : Around) (env : Env) (s : Shared) : List PySem.Expr → List PV → Prop
  | [], ps => ps = []
  | e :: es, ps => ∃ p r, ps = p :: r ∧ Pu w A env s e p ∧ starEach (e :: es) env = (false, eval e env) :: starEach es env ∧ PuL w A env s es r
theorem PuL.go : ∀ {es : List PySem.Expr} {ps : List PV}, PuL w A env s es ps → ∀ {pos : Pos} {Q : List Value → Shared → Prop} {E : Value → Shared → Prop} {tk : Nat}, (∀ vs tk', PvsAre ps vs → Q vs { s with toks := tk' }) → wpAny (model PR w) A (spliced (backTo pos (starEach es env))) Q E { s with toks := tk }
  | [], _, h, _, _, _, tk, k => by cases h; exact args_nil (k [] tk rfl)
  | e :: es, _, h, _, _, _, tk, k => by
    obtain ⟨p, r, rfl, h1, h2, h3⟩ := h
    exact args_cons (h1 _ _ tk fun v tk1 hv => PuL.go h3 fun vs tk2 hvs => k (v :: vs) tk2 ⟨v, vs, rfl, hv, hvs⟩) h2
end

theorem Cx.less {w : World} {A : Around} {env : Env} {g : Heap} {d d' : Nat} {sc : Scope} (C : Cx w A env g d sc) (h : d' ≤ d) : Cx w A env g d' sc :=
  ⟨C.eX, C.kind, C.hand, C.X, C.ctx, Nat.lt_of_le_of_lt (Nat.add_le_add_left h _) C.dep, Nat.lt_of_le_of_lt (Nat.add_le_add_left (Nat.mul_le_mul_left 8 h) _) C.un⟩
/-- what a call of a def does -/
noncomputable def SpecV (w : World) (d : Nat) (f : Addr) (args : List PV) (pre news : Led) {α : Type} (C : α → Prop) (fr : α → PV) (fn : α → Led) : Prop :=
  ∀ A env g sc lm s₀ s vs R, Cx w A env g d sc → S1 g env s₀ s lm news → PvsAre args vs → (∀ p ∈ pre, s.heap.get? p.1 = some p.2 ∧ p.1 ∉ news.map (·.1)) →
    (∀ x v s', C x → (fr x).is v → S1 g env s₀ s' lm (fn x) → Keep (news.map (·.1)) s.heap s'.heap → (∀ p ∈ fn x, p.1 ∈ news.map (·.1) ∨ s.heap.get? p.1 = none) → R (.ok (.ret v)) s') → codeAny (model PR w) A (.call (.ref f) ⟨vs, []⟩) R s
noncomputable def RetV (g : Heap) (env : Env) (s : Shared) {α : Type} (C : α → Prop) (fr : α → PV) (fn : α → Led) (fl : Flow) (s' : Shared) : Prop :=
  ∃ x lm, C x ∧ (fr x).is (match fl with | .ret v => v | _ => .none) ∧ S1 g env s s' lm (fn x)
theorem mem_of_lookup : ∀ {l : List (Str × Value)} {x : Str} {v : Value}, l.lookup x = some v → (x, v) ∈ l
  | [], _, _, h => by cases h
  | q :: r, x, v, h => by
    rw [List.lookup_cons] at h
    by_cases e : x = q.1
    · rw [beq_iff_eq.mpr e] at h; cases h; rw [e]; exact .head _
    · rw [beq_eq_false_iff_ne.mpr e] at h; exact .tail _ (mem_of_lookup h)
theorem lookup_rev {l : List (Str × Value)} (h : (l.map (·.1)).Nodup) (x : Str) : l.reverse.lookup x = l.lookup x := by
  induction l with
  | nil => rfl
  | cons q r ih =>
    rw [List.map_cons, List.nodup_cons] at h
    rw [List.reverse_cons, List.lookup_append, ih h.2, List.lookup_cons]
    by_cases e : x = q.1
    · have : r.lookup x = none := by
        cases z : r.lookup x with
        | none => rfl
        | some v => exact absurd (List.mem_map_of_mem (f := (·.1)) (mem_of_lookup z)) (e ▸ h.1)
      rw [this, beq_iff_eq.mpr e, List.lookup_cons, beq_iff_eq.mpr e]; rfl
    · rw [beq_eq_false_iff_ne.mpr e, List.lookup_cons, beq_eq_false_iff_ne.mpr e]
      simp
theorem zip_lm : ∀ {ps : List Str} {args : List PV} {vs : List Value}, PvsAre args vs → ∀ x p, (ps.zip args).lookup x = some p → ∃ v, (ps.zip vs).lookup x = some v ∧ p.is v
  | [], _, _, _, _, _, h => by simp at h
  | _ :: _, [], _, _, _, _, h => by simp at h
  | n :: ps, a :: args, _, hv, x, p, h => by
    obtain ⟨v, r, rfl, h1, h2⟩ := hv
    rw [List.zip_cons_cons, List.lookup_cons] at h ⊢
    by_cases e : x = n
    · rw [beq_iff_eq.mpr e] at h ⊢
      cases h; exact ⟨v, rfl, h1⟩
    · rw [beq_eq_false_iff_ne.mpr e] at h ⊢
      exact zip_lm h2 x p h
theorem PvsAre.app : ∀ {a b : List PV} {vs us : List Value}, PvsAre a vs → PvsAre b us → PvsAre (a ++ b) (vs ++ us)
  | [], _, _, _, h, h' => by cases h; exact h'
  | _ :: _, _, _, _, h, h' => by obtain ⟨v, r, rfl, h1, h2⟩ := h; exact ⟨v, _, rfl, h1, h2.app h'⟩
theorem zip_map_nodup : ∀ {ps : List Str} {vs : List Value}, ps.Nodup → ((ps.zip vs).map (·.1)).Nodup
  | [], _, _ => by simp
  | _ :: _, [], _ => by simp
  | n :: ps, v :: vs, h => by
    rw [List.zip_cons_cons, List.map_cons, List.nodup_cons]
    rw [List.nodup_cons] at h
    refine ⟨fun q => ?_, zip_map_nodup h.2⟩
    obtain ⟨p, hp, e⟩ := List.mem_map.mp q
    have e' : p.1 = n := e
    exact h.1 (e' ▸ (List.of_mem_zip hp).1)
theorem PvsAre.one {a : PV} {vs : List Value} (h : PvsAre [a] vs) : ∃ x, vs = [x] := by obtain ⟨_, _, rfl, _, rfl⟩ := h; exact ⟨_, rfl⟩
theorem PvsAre.two {a b : PV} {vs : List Value} (h : PvsAre [a, b] vs) : ∃ x y, vs = [x, y] := by obtain ⟨x, _, rfl, _, h⟩ := h; obtain ⟨_, rfl⟩ := PvsAre.one h; exact ⟨_, _, rfl⟩
theorem PvsAre.three {a b c : PV} {vs : List Value} (h : PvsAre [a, b, c] vs) : ∃ x y z, vs = [x, y, z] := by obtain ⟨x, _, rfl, _, h⟩ := h; obtain ⟨_, _, rfl⟩ := PvsAre.two h; exact ⟨_, _, _, rfl⟩
theorem PvsAre.five {a b c d e : PV} {vs : List Value} (h : PvsAre [a, b, c, d, e] vs) : ∃ x y z u v, vs = [x, y, z, u, v] := by obtain ⟨x, _, rfl, _, y, _, rfl, _, h⟩ := h; obtain ⟨_, _, _, rfl⟩ := PvsAre.three h; exact ⟨_, _, _, _, _, rfl⟩
theorem PvsAre.seven {a b c d e f g : PV} {vs : List Value} (h : PvsAre [a, b, c, d, e, f, g] vs) : ∃ x y z u v p q, vs = [x, y, z, u, v, p, q] := by obtain ⟨x, _, rfl, _, y, _, rfl, _, h⟩ := h; obtain ⟨_, _, _, _, _, rfl⟩ := PvsAre.five h; exact ⟨_, _, _, _, _, _, _, rfl⟩
section
variable {w : World} {d : Nat} {f : Addr} {args : List PV} {pre news : Led} {α : Type} {C : α → Prop} {fr : α → PV} {fn : α → Led} {name qual : Str} {params : Arguments} {body : List Stmt} {scope : Scope} {dV kV doc pm cdv ct oc : Value} {an od : Option Addr} {osl : Array (Option Value)}
theorem specV_of (ps : List Str) (dfl : List Value) (pd : List PV) (hpd : PvsAre pd dfl) (ho : (Mine.pre.heap_1 w.params).lookup f = some ⟨oc, od, .func (fnOf name qual params body scope dV kV doc pm an cdv ct), osl⟩) (hcd : codeIn (Mine.pre.heap_1 w.params) cdv qual = true) (hn : ps.Nodup)
    (hbind : ∀ vs s, PvsAre args vs → (Mine.pre.heap_1 w.params).In s.heap → BindsTo s (fnOf name qual params body scope dV kV doc pm an cdv ct) ⟨vs, []⟩ (ps.zip (vs ++ dfl))) (hloc : ∀ x ∈ ps, scope.names.lookup x = some .local)
    (hco : scope.isCoroutine = false) (hgen : scope.isGenerator = false) (hk : scope.kind = .function) (hcell : ∀ x ∈ scope.names, x.2 ≠ .cell)
    (hb : ∀ A env g s Q E, PassesOwn (model PR w) A env E → (∀ fl s', RetV g env s C fr fn fl s' → Q fl s') → Cx w A env g d scope → S1 g env s s (ps.zip (args ++ pd)) news → (∀ p ∈ pre, g.get? p.1 = some p.2) → (∀ p ∈ news, p.1 < env.locals) → wpAny (model PR w) A (execs body env) Q E s) :
    SpecV w (d + 1) f args pre news C fr fn := by
  intro A env g₀ sc lm s₀ s vs R Cc S hvs hpre hQ
  obtain ⟨⟨m, F, hm⟩, N, same⟩ := S
  obtain ⟨p, loose, mean, mg, mb, outer, A₀, base, T, B, hA⟩ := Cc.ctx
  have hroom := room_0 Cc.dep
  have hX := Cc.X.keeps F.keep
  obtain ⟨cn, L, a, ccd, cl, rfl⟩ := Cc.eX
  refine enterX (ps.zip (vs ++ dfl)).reverse B F Cc.X N T hA rfl Cc.kind ho hcd hroom (by rw [List.reverse_reverse]; exact hbind vs s hvs hX) (fun y hy => ?_) (fun g L' h₁ tk hg FG F' N' B' X' T' lt => ?_) hco hgen hk hcell
  · rw [List.reverse_reverse] at hy
    exact hloc _ (List.of_mem_zip hy).1
  · have hl := zip_lm (ps := ps) (hvs.app hpd)
    refine wpAny_mono (hb _ _ g { s with heap := h₁, toks := tk } (RetV g _ _ C fr fn) _ (by passes_own) (fun _ _ h => h) ⟨⟨_, L', f, cdv, [], rfl⟩, hk, Cc.hand, X', ⟨p, loose, mean, mg, mb, _, A, base, T', B', by simp only [Around.frames_deeper hA]⟩, ?_, ?_⟩
      ⟨⟨_, F', fun x q hq => ?_⟩, N', rfl, rfl, rfl⟩ (fun p hp => hg _ _ (hpre p hp).1 (hpre p hp).2) lt) (fun fl s' hr => ?_) fun _ _ x => x
    · show A.depth + 1 + d < _
      have := Cc.dep; omega
    · show A.units + 3 + 8 * d < _
      have := Cc.un; omega
    · obtain ⟨v, h1, h2⟩ := hl x q hq
      exact ⟨v, by rw [lookup_rev (zip_map_nodup hn)]; exact h1, h2⟩
    · obtain ⟨x, lm', c, hv, ⟨m', F₁, _⟩, N₁, same'⟩ := hr
      exact ⟨L', m', fn x, F₁, N₁, fun F₂ N₂ K₂ D₂ => hQ x _ s' c hv ⟨⟨m, F₂, hm⟩, N₂, ⟨same'.1.trans same.1, same'.2.1.trans same.2.1, same'.2.2.trans same.2.2⟩⟩ K₂ D₂⟩
end
section
variable {w : World} {A : Around} {env : Env} {g : Heap} {d d' : Nat} {sc : Scope} {s₀ s : Shared} {lm l : Lm} {all pre news : Led} {x n : Str} {xpos apos pos : Pos} {ps : List PV} {c e : PySem.Expr} {es : List PySem.Expr} {a K f : Addr} {o : Obj} {α : Type} {Cc : α → Prop} {fr : α → PV} {fn : α → Led}
/-- what is known behind a call -/
structure Bk (news : Led) (s : Shared) {α : Type} (Cc : α → Prop) (fn : α → Led) (y : α) (s' : Shared) : Prop where
  c : Cc y
  keep : Keep (news.map (·.1)) s.heap s'.heap
  new : ∀ p ∈ fn y, p.1 ∈ news.map (·.1) ∨ s.heap.get? p.1 = none
theorem useV (Sp : SpecV w d' f ps pre news Cc fr fn) (C : Cx w A env g d sc) (hdd : d' ≤ d) (rest : Led) (sub : ∀ p ∈ news, p ∈ all) (hr : ∀ p ∈ rest, p ∈ all) (off : ∀ p ∈ rest, p.1 ∉ news.map (·.1)) (hpre : ∀ p ∈ pre, s.heap.get? p.1 = some p.2 ∧ p.1 ∉ news.map (·.1))
    {s' : Shared} (S : S1 g env s₀ s' lm all) (hh : s'.heap = s.heap) {vs : List Value} (hvs : PvsAre ps vs) {Q E : Value → Shared → Prop} (k : ∀ y v s'', (fr y).is v → Bk news s Cc fn y s'' → S1 g env s₀ s'' lm (fn y ++ rest) → Q v s'') : wpAny (model PR w) A (call (.ref f) vs) Q E s' :=
  wpAny_call (Sp A env g sc lm s₀ s' vs _ (C.less hdd) (S.led sub) hvs (fun p hp => hh ▸ hpre p hp) fun y v s'' c hv S'' K' D' =>
    k y v s'' hv ⟨c, hh ▸ K', hh ▸ D'⟩ ⟨S''.fr, fun p hp => (List.mem_append.mp hp).elim (S''.N p) fun hp => ⟨K' _ _ (S.N p (hr p hp)).1 (off p hp), (S.N p (hr p hp)).2⟩, S''.same⟩)
/-- a method call's own tree -/
noncomputable def MethShape (c : PySem.Expr) (n : Str) (apos : Pos) (args : List PySem.Expr) (pos : Pos) : Prop := ∀ en, ∃ pl : Sem Bool, eval (.Call (.Attribute c n apos) args [] pos) en = (do let ov ← eval c en; standAt apos.atName; let (f, first) ← holding [ov] (getMethod ov n pl); callWith pos f first (backTo pos (starEach args en)) [])
theorem ev_meth (Sp : SpecV w d' f (.ref a :: ps) pre news Cc fr fn) (C : Cx w A env g d sc) (hdd : d' ≤ d) (S : S1 g env s₀ s lm all) (hc : Pu w A env s c (.ref a)) (I : Inst s.heap a K o) (hD : Dct w o l) (hl : l.lookup n = none) (ok : MethOk w K n f) (hargs : PuL w A env s (e :: es) ps)
    (hplain : ∀ en, (backTo pos (starEach es en)).any (·.1) = false) (hm : MethShape c n apos (e :: es) pos) (rest : Led) (sub : ∀ p ∈ news, p ∈ all) (hr : ∀ p ∈ rest, p ∈ all) (off : ∀ p ∈ rest, p.1 ∉ news.map (·.1)) (hpre : ∀ p ∈ pre, s.heap.get? p.1 = some p.2 ∧ p.1 ∉ news.map (·.1)) :
    Ev w A env g s₀ s lm (.Call (.Attribute c n apos) (e :: es) [] pos) (Bk news s Cc fn) fr (fun y => fn y ++ rest) := fun Q E k => by
  obtain ⟨pl, hm⟩ := hm env
  refine MethodCall_ (pl := pl) (hc _ _ s.toks fun u tk hu => ?_) hm
  cases hu
  obtain ⟨⟨m, F, hm⟩, N, same⟩ := id S
  obtain ⟨kvs, hD, hl'⟩ := hD
  obtain ⟨dx, I⟩ := I.at
  refine method_fld (s := { s with toks := tk }) F C.X I hD ok.g ok.f ok.i (DL.miss hl' hl) ?_
  refine callWith_K C.X ok.k (hargs.go fun vs tk' hvs => ⟨C.X.keeps F.keep, ?_⟩) hargs.choose_spec.choose_spec.2.2.1 (hplain env)
  exact useV Sp C hdd rest sub hr off hpre (S.tok tk') rfl ⟨.ref a, vs, rfl, rfl, hvs⟩ fun y v s'' hv hb S'' => k y v s'' hv hb S''
theorem ev_fun (Sp : SpecV w d' f ps pre news Cc fr fn) (C : Cx w A env g d sc) (hdd : d' ≤ d) (S : S1 g env s₀ s lm all) (hg : nsIn (Mine.pre.heap_1 w.params) mainGlobals x = some (some (.ref f))) (hk : sc.names.lookup x = some .globalImplicit) (hkeep : keepIn (Mine.pre.heap_1 w.params) (.ref f) = true) (hargs : PuL w A env s (e :: es) ps)
    (hplain : ∀ en, (backTo pos (starEach es en)).any (·.1) = false) (rest : Led) (sub : ∀ p ∈ news, p ∈ all) (hr : ∀ p ∈ rest, p ∈ all) (off : ∀ p ∈ rest, p.1 ∉ news.map (·.1)) (hpre : ∀ p ∈ pre, s.heap.get? p.1 = some p.2 ∧ p.1 ∉ news.map (·.1)) (hdb : (x == ("__debug__" : Str)) = false := by decide) :
    Ev w A env g s₀ s lm (.Call (.Name x xpos) (e :: es) [] pos) (Bk news s Cc fn) fr (fun y => fn y ++ rest) := fun Q E k => by
  refine Call_ (Pu.glob (p := .ref f) C S hg rfl hk hdb _ _ s.toks fun u tk hu => ?_)
  cases hu
  obtain ⟨⟨m, F, hm⟩, N, same⟩ := id S
  refine callWith_K C.X hkeep (hargs.go fun vs tk' hvs => ⟨C.X.keeps F.keep, ?_⟩) hargs.choose_spec.choose_spec.2.2.1 (hplain env)
  exact useV Sp C hdd rest sub hr off hpre (S.tok tk') rfl hvs fun y v s'' hv hb S'' => k y v s'' hv hb S''
end

set_option maxRecDepth 100000
theorem at127_rate (w : World) : AttrOk w 127 (Str.ofString "rate") := ⟨by k_is, by k_is, ⟨_, by k_is, by k_is⟩⟩
theorem at127_burst (w : World) : AttrOk w 127 (Str.ofString "burst") := ⟨by k_is, by k_is, ⟨_, by k_is, by k_is⟩⟩
theorem at127_grains (w : World) : AttrOk w 127 (Str.ofString "grains") := ⟨by k_is, by k_is, ⟨_, by k_is, by k_is⟩⟩
theorem at127_time (w : World) : AttrOk w 127 (Str.ofString "time") := ⟨by k_is, by k_is, ⟨_, by k_is, by k_is⟩⟩
theorem st127_rate (w : World) : SetOk w 127 (Str.ofString "rate") := ⟨by k_is, by k_is, by k_is, by k_is⟩
theorem st127_burst (w : World) : SetOk w 127 (Str.ofString "burst") := ⟨by k_is, by k_is, by k_is, by k_is⟩
theorem st127_grains (w : World) : SetOk w 127 (Str.ofString "grains") := ⟨by k_is, by k_is, by k_is, by k_is⟩
theorem st127_time (w : World) : SetOk w 127 (Str.ofString "time") := ⟨by k_is, by k_is, by k_is, by k_is⟩
theorem me127_fill (w : World) : MethOk w 127 (Str.ofString "fill") 82 := ⟨by k_is, by k_is, by k_is, by k_is⟩
theorem me127_has (w : World) : MethOk w 127 (Str.ofString "has") 96 := ⟨by k_is, by k_is, by k_is, by k_is⟩
theorem me127_spend (w : World) : MethOk w 127 (Str.ofString "spend") 103 := ⟨by k_is, by k_is, by k_is, by k_is⟩
theorem me127_take (w : World) : MethOk w 127 (Str.ofString "take") 110 := ⟨by k_is, by k_is, by k_is, by k_is⟩
theorem at162_port (w : World) : AttrOk w 162 (Str.ofString "port") := ⟨by k_is, by k_is, ⟨_, by k_is, by k_is⟩⟩
theorem at162_kind (w : World) : AttrOk w 162 (Str.ofString "kind") := ⟨by k_is, by k_is, ⟨_, by k_is, by k_is⟩⟩
theorem at162_is_by_frames (w : World) : AttrOk w 162 (Str.ofString "is_by_frames") := ⟨by k_is, by k_is, ⟨_, by k_is, by k_is⟩⟩
theorem at162_most (w : World) : AttrOk w 162 (Str.ofString "most") := ⟨by k_is, by k_is, ⟨_, by k_is, by k_is⟩⟩
theorem at162_bucket (w : World) : AttrOk w 162 (Str.ofString "bucket") := ⟨by k_is, by k_is, ⟨_, by k_is, by k_is⟩⟩
theorem at162_times (w : World) : AttrOk w 162 (Str.ofString "times") := ⟨by k_is, by k_is, ⟨_, by k_is, by k_is⟩⟩
theorem at162_dropped (w : World) : AttrOk w 162 (Str.ofString "dropped") := ⟨by k_is, by k_is, ⟨_, by k_is, by k_is⟩⟩
theorem st162_port (w : World) : SetOk w 162 (Str.ofString "port") := ⟨by k_is, by k_is, by k_is, by k_is⟩
theorem st162_kind (w : World) : SetOk w 162 (Str.ofString "kind") := ⟨by k_is, by k_is, by k_is, by k_is⟩
theorem st162_is_by_frames (w : World) : SetOk w 162 (Str.ofString "is_by_frames") := ⟨by k_is, by k_is, by k_is, by k_is⟩
theorem st162_most (w : World) : SetOk w 162 (Str.ofString "most") := ⟨by k_is, by k_is, by k_is, by k_is⟩
theorem st162_bucket (w : World) : SetOk w 162 (Str.ofString "bucket") := ⟨by k_is, by k_is, by k_is, by k_is⟩
theorem st162_times (w : World) : SetOk w 162 (Str.ofString "times") := ⟨by k_is, by k_is, by k_is, by k_is⟩
theorem st162_dropped (w : World) : SetOk w 162 (Str.ofString "dropped") := ⟨by k_is, by k_is, by k_is, by k_is⟩
theorem me162_lets (w : World) : MethOk w 162 (Str.ofString "lets") 154 := ⟨by k_is, by k_is, by k_is, by k_is⟩
theorem me162_note_drop (w : World) : MethOk w 162 (Str.ofString "note_drop") 159 := ⟨by k_is, by k_is, by k_is, by k_is⟩
theorem at212_rows (w : World) : AttrOk w 212 (Str.ofString "rows") := ⟨by k_is, by k_is, ⟨_, by k_is, by k_is⟩⟩
theorem at212_recovery (w : World) : AttrOk w 212 (Str.ofString "recovery") := ⟨by k_is, by k_is, ⟨_, by k_is, by k_is⟩⟩
theorem at212_shut (w : World) : AttrOk w 212 (Str.ofString "shut") := ⟨by k_is, by k_is, ⟨_, by k_is, by k_is⟩⟩
theorem st212_rows (w : World) : SetOk w 212 (Str.ofString "rows") := ⟨by k_is, by k_is, by k_is, by k_is⟩
theorem st212_recovery (w : World) : SetOk w 212 (Str.ofString "recovery") := ⟨by k_is, by k_is, by k_is, by k_is⟩
theorem st212_shut (w : World) : SetOk w 212 (Str.ofString "shut") := ⟨by k_is, by k_is, by k_is, by k_is⟩
theorem me212_is_shut (w : World) : MethOk w 212 (Str.ofString "is_shut") 188 := ⟨by k_is, by k_is, by k_is, by k_is⟩
theorem me212_mend (w : World) : MethOk w 212 (Str.ofString "mend") 195 := ⟨by k_is, by k_is, by k_is, by k_is⟩
theorem me212_asked (w : World) : MethOk w 212 (Str.ofString "asked") 202 := ⟨by k_is, by k_is, by k_is, by k_is⟩
theorem me212_dropped (w : World) : MethOk w 212 (Str.ofString "dropped") 209 := ⟨by k_is, by k_is, by k_is, by k_is⟩
section
variable {w : World} {A : Around} {env : Env} {g : Heap} {d d' : Nat} {sc : Scope} {s₀ s : Shared} {lm l : Lm} {news : Led} {x n : Str} {xpos apos pos : Pos} {ps : List PV} {a b e : PySem.Expr} {es : List PySem.Expr} {i j : Int} {α : Type} {Cc : α → Shared → Prop} {fr : α → PV} {fn : α → Led}
theorem ev_builtin {id : String} (C : Cx w A env g d sc) (S : S1 g env s₀ s lm news) (hg : nsIn (Mine.pre.heap_1 w.params) mainGlobals x = some none) (hb : bootBuiltins x = some (.builtin id)) (hn : x ≠ Str.ofString "__name__") (hk : sc.names.lookup x = some .globalImplicit) (hargs : PuL w A env s (e :: es) ps) (hplain : ∀ en, (backTo pos (starEach es en)).any (·.1) = false)
    (call : ∀ vs tk Q E, PvsAre ps vs → (∀ y v s'', (fr y).is v → Cc y s'' → S1 g env s₀ s'' lm (fn y) → Q v s'') → wpAny (model PR w) A (call (.builtin id) vs) Q E { s with toks := tk }) (hdb : (x == ("__debug__" : Str)) = false := by decide) : Ev w A env g s₀ s lm (.Call (.Name x xpos) (e :: es) [] pos) Cc fr fn := fun Q E k => by
  obtain ⟨⟨m, F, hm⟩, N, same⟩ := S
  obtain ⟨cn, L, a, ccd, cl, rfl⟩ := C.eX
  obtain ⟨pp, loose, mean, mg, mb, outer, A₀, base, T, _⟩ := C.ctx
  refine Call_ (nameX_B F C.X (topRead_of T) hg hb hn ?_ C.kind hk hdb)
  exact PyProof.Rows.callWith_builtin1 (hargs.go (tk := s.toks) fun vs tk' hvs => call vs tk' Q E hvs k) hargs.choose_spec.choose_spec.2.2.1 (hplain _)
theorem ev_min (C : Cx w A env g d sc) (S : S1 g env s₀ s lm news) (hg : nsIn (Mine.pre.heap_1 w.params) mainGlobals (Str.ofString "min") = some none) (hk : sc.names.lookup (Str.ofString "min") = some .globalImplicit) (ha : Pu w A env s a (.int i)) (hb : Pu w A env s b (.int j)) (h1 : ∀ en, starEach (a :: [b]) en = (false, eval a en) :: starEach [b] en) (h2 : ∀ en, starEach [b] en = (false, eval b en) :: starEach [] en) :
    Ev w A env g s₀ s lm (.Call (.Name (Str.ofString "min") xpos) [a, b] [] pos) (fun (_ : Unit) _ => True) (fun _ => .int (if j < i then j else i)) (fun _ => news) :=
  ev_builtin C S hg boot_min (by decide) hk ⟨_, _, rfl, ha, h1 _, _, _, rfl, hb, h2 _, rfl⟩ (fun en => by rw [h2]; rfl) fun vs tk Q E hvs k => by
    obtain ⟨_, _, rfl, ⟨t, rfl⟩, _, _, rfl, ⟨u, rfl⟩, rfl⟩ := hvs
    obtain ⟨⟨m, F, hm⟩, N, same⟩ := S
    exact min_two_N (s := { s with toks := tk }) C.hand F N fun h' tk' F' N' => k () _ _ ⟨_, rfl⟩ trivial ⟨⟨m, F', hm⟩, N', same⟩
end
theorem mul_l {a b : Int} (h1 : 0 ≤ a) (h2 : a ≤ 1000) : IntMulOk a b := IntMulOk.of_left (PySem.intBits_le_64 (by omega) (by omega))
theorem mul_100 {a : Int} : IntMulOk a 100 := IntMulOk.of_right (PySem.intBits_le_64 (by omega) (by omega))

section
variable {w : World} {A : Around} {env : Env} {g : Heap} {d : Nat} {sc : Scope} {s₀ s : Shared} {lm : Lm} {news : Led} {pos : Pos} {e a b : PySem.Expr} {α : Type} {C : α → Shared → Prop} {t : α → Bool} {fn : α → Led} {Q : Flow → Shared → Prop} {E : Value → Shared → Prop} {rest body orelse : List Stmt}
/-- a test, whatever it does -/
noncomputable def TEv (w : World) (A : Around) (env : Env) (g : Heap) (s₀ s : Shared) (lm : Lm) (e : PySem.Expr) {α : Type} (C : α → Shared → Prop) (t : α → Bool) (fn : α → Led) : Prop :=
  ∀ Q E, (∀ x s', C x s' → S1 g env s₀ s' lm (fn x) → Q (t x) s') → wpAny (model PR w) A (isTrue e env (eval e env)) Q E s
theorem TEv.call {f : PySem.Expr} {as : List PySem.Expr} {ks : List Keyword} (h : Ev w A env g s₀ s lm (.Call f as ks pos) C (fun x => .bool (t x)) fn) : TEv w A env g s₀ s lm (.Call f as ks pos) C t fn := fun Q E k =>
  isTrue_plain (h _ _ fun x v s' hv hc S => by cases hv; exact wpAny_truthy_bool (k x s' hc S)) rfl
theorem TEv.not (h : TEv w A env g s₀ s lm e C t fn) : TEv w A env g s₀ s lm (.UnaryOp .Not e pos) C (fun x => !t x) fn := fun _ _ k => isTrue_not (h _ _ k)
theorem Te.ev {c : Bool} (h : Te w A env s e c) (S : S1 g env s₀ s lm news) : TEv w A env g s₀ s lm e (fun (_ : Unit) s' => s'.heap = s.heap) (fun _ => c) (fun _ => news) := fun _ _ k => h _ _ s.toks fun tk => k () _ rfl (S.tok tk)
theorem TEv.or_t (h : Te w A env s a true) (S : S1 g env s₀ s lm news) : TEv w A env g s₀ s lm (.BoolOp .Or [a, b] pos) (fun (_ : Unit) s' => s'.heap = s.heap) (fun _ => true) (fun _ => news) := fun _ _ k =>
  isTrue_or (h _ _ s.toks fun tk => k () _ rfl (S.tok tk))
theorem TEv.or_f {C : Nat → α → Shared → Prop} (h : Te w A env s a false) (hb : ∀ tk, TEv w A env g s₀ { s with toks := tk } lm b (C tk) t fn) : TEv w A env g s₀ s lm (.BoolOp .Or [a, b] pos) (fun y s' => ∃ tk, C tk y s') t fn := fun Q E k =>
  isTrue_or (h _ _ s.toks fun tk => isTrue_or (hb tk _ _ fun x s' hc S => by
    have := k x s' ⟨tk, hc⟩ S
    cases hx : t x with
    | true => rw [hx] at this; exact this
    | false => rw [hx] at this; exact isTrue_or_nil this))
theorem TEv.and_t {C : Nat → α → Shared → Prop} (h : Te w A env s a true) (hb : ∀ tk, TEv w A env g s₀ { s with toks := tk } lm b (C tk) t fn) : TEv w A env g s₀ s lm (.BoolOp .And [a, b] pos) (fun y s' => ∃ tk, C tk y s') t fn := fun Q E k =>
  isTrue_and (h _ _ s.toks fun tk => isTrue_and (hb tk _ _ fun x s' hc S => by
    have := k x s' ⟨tk, hc⟩ S
    cases hx : t x with
    | false => rw [hx] at this; exact this
    | true => rw [hx] at this; exact isTrue_and_nil this))
theorem TEv.gtE {P : α → Int} {j : Int} (hE : Ev w A env g s₀ s lm a C (fun y => .int (P y)) fn) (hb : ∀ y s', C y s' → S1 g env s₀ s' lm (fn y) → Pu w A env s' b (.int j)) (hm : behindInMarks .Gt b = false) : TEv w A env g s₀ s lm (.Compare a [.Gt] [b] pos) (fun y _ => ∃ s', C y s') (fun y => decide (j < P y)) fn := fun Q E k =>
  wpAny_isTrue_Compare1 (hE _ _ fun y v s' hv hc S => hb y s' hc S _ _ s'.toks fun u tk hu => by
    obtain ⟨t, rfl⟩ := hv; obtain ⟨t', rfl⟩ := hu
    exact gt_int (wpAny_truthy_bool (k y _ ⟨s', hc⟩ (S.tok _)))) hm
theorem Te.and_f (h : Te w A env s a false) {bs : List PySem.Expr} : Te w A env s (.BoolOp .And (a :: bs) pos) false := fun _ _ tk k => isTrue_and (h _ _ tk fun tk => k tk)
theorem Te.and_t {bs : List PySem.Expr} {c : Bool} (h : Te w A env s a true) (hb : Te w A env s (.BoolOp .And bs pos) c) : Te w A env s (.BoolOp .And (a :: bs) pos) c := fun _ _ tk k => isTrue_and (h _ _ tk fun tk => hb _ _ tk k)
theorem Te.and_nil : Te w A env s (.BoolOp .And [] pos) true := fun _ _ tk k => isTrue_and_nil (k tk)
theorem r_ifE (hT : TEv w A env g s₀ s lm e C t fn) (k1 : ∀ y s', t y = true → C y s' → S1 g env s₀ s' lm (fn y) → wpAny (model PR w) A (execs body env) (Then w A env rest Q E) E s')
    (k2 : ∀ y s', t y = false → C y s' → S1 g env s₀ s' lm (fn y) → wpAny (model PR w) A (execs orelse env) (Then w A env rest Q E) E s') : wpAny (model PR w) A (execs (.If e body orelse pos :: rest) env) Q E s := by
  refine wpAny_execs_cons (wpAny_mono (wpAny_If (Q := Then w A env rest Q E) (hT _ _ fun y s' hc S => ?_)) (fun f s' h => by cases f <;> exact h) fun _ _ h => h)
  cases h : t y with
  | true => exact k1 y s' h hc S
  | false => exact k2 y s' h hc S
end

/-- objects that lie in the base or are listed -/
noncomputable def Has (R : Led) (g : Heap) (news : Led) : Prop := ∀ p ∈ R, g.get? p.1 = some p.2 ∨ p ∈ news
noncomputable abbrev TXs := List (List Mix × Addr × Value)
/-- a dict with (int, text) keys that nobody changes -/
structure TD (w : World) (g : Heap) (news : Led) (d : Addr) (xs : TXs) : Prop where
  lo : (d == sysModules) = false
  h : ∃ R, Has R g news ∧ ∀ h : Heap, (∀ p ∈ R, h.get? p.1 = some p.2) → h.DictOfH (PK w) d xs
section
variable {w : World} {A : Around} {env : Env} {g : Heap} {d d' : Nat} {sc : Scope} {s₀ s : Shared} {lm l : Lm} {news : Led} {x n : Str} {xpos apos pos tp : Pos} {k : Nat} {p q : PV} {a b c e : PySem.Expr} {i j : Int} {D ka : Addr} {xs : TXs} {v : Value} {o : Obj} {ps : List PV} {es : List PySem.Expr}
theorem TD.at {lm' : Lm} (T : TD w g news D xs) (S : S1 g env s₀ s lm' news) : s.heap.DictOfH (PK w) D xs :=
  let ⟨_, _, h1, h2⟩ := T; h2 _ fun p hp => (h1 p hp).elim (S.keep _ _) fun q => S.mem q
theorem TD.mono {news' : Led} (T : TD w g news D xs) (sub : ∀ p ∈ news, p ∈ news') : TD w g news' D xs := let ⟨lo, R, h1, h2⟩ := T; ⟨lo, R, fun p hp => (h1 p hp).imp id (sub p), h2⟩
/-- no star among reckoned arguments -/
noncomputable def Plain (es : List PySem.Expr) : Prop := ∀ en (pos : Pos), (backTo pos (starEach es en)).any (·.1) = false
theorem PvsAre.length : ∀ {ps : List PV} {vs : List Value}, PvsAre ps vs → vs.length = ps.length
  | [], _, h => by cases h; rfl
  | _ :: _, _, h => by obtain ⟨v, r, rfl, _, h⟩ := h; simp [h.length]
theorem ev_tup (S : S1 g env s₀ s lm news) (ha : PuL w A env s es ps) (hz : ps.length ≤ 100) : Ev w A env g s₀ s lm (.Tuple es k pos) (fun (y : Addr × List Value) s' => PvsAre ps y.2 ∧ s.heap.get? y.1 = none) (fun y => .ref y.1) (fun y => (y.1, { cls := .type "tuple", data := .seq y.2.toArray }) :: news) := fun Q E k' =>
  Tuple_ (ha.go (tk := s.toks) fun vs tk hvs => by
    obtain ⟨⟨m, F, hm⟩, N, same⟩ := S
    exact newTuple_N (s := { s with toks := tk }) F N (fun h' F' N' => k' (_, vs) _ _ rfl ⟨hvs, Heap.get?_none_of_le (Nat.le_refl _)⟩ ⟨⟨m, F', hm⟩, N', same⟩) (by rw [hvs.length, sizeLine_eq]; omega))
theorem ev_list (S : S1 g env s₀ s lm news) (ha : PuL w A env s es ps) (hz : ps.length ≤ 100) : Ev w A env g s₀ s lm (.List es pos) (fun (y : Addr × List Value) s' => PvsAre ps y.2 ∧ s.heap.get? y.1 = none) (fun y => .ref y.1) (fun y => (y.1, listOf y.2.toArray 0) :: news) := fun Q E k' =>
  List_ (ha.go (tk := s.toks) fun vs tk hvs => by
    obtain ⟨⟨m, F, hm⟩, N, same⟩ := S
    exact newList_N (s := { s with toks := tk }) F N (fun h' F' N' => k' (_, vs) _ _ rfl ⟨hvs, Heap.get?_none_of_le (Nat.le_refl _)⟩ ⟨⟨m, F', hm⟩, N', same⟩) (by rw [hvs.length, sizeLine_eq]; omega))
/-- a key pair, just made -/
theorem ev_key (S : S1 g env s₀ s lm news) (ha : PuL w A env s [a, b] [.int i, .str x]) : Ev w A env g s₀ s lm (.Tuple [a, b] k pos) (fun (y : Addr × Tok × Tok) s' => s.heap.get? y.1 = none) (fun y => .ref y.1) (fun y => (y.1, tupObj i y.2.1 x y.2.2) :: news) := fun Q E k' =>
  ev_tup S ha (Nat.le_of_ble_eq_true rfl) Q E fun y v s' hv hc S' => by
    obtain ⟨T, vs⟩ := y
    obtain ⟨⟨_, _, rfl, ⟨t, rfl⟩, _, _, rfl, ⟨u, rfl⟩, rfl⟩, hn⟩ := hc
    exact k' (T, t, u) v s' hv hn S'
theorem key_is {T : Addr} {t u : Tok} (S : S1 g env s₀ s lm ((T, tupObj i t x u) :: news)) : (PK w).is s.heap (mk (i, x)) T := KeyObj.is (k := (i, x)) ⟨t, u, rfl⟩ (S.mem (.head _))
theorem Cx.unit (C : Cx w A env g d sc) (h1 : 1 ≤ d) : A.units + 1 < cLine := by have := C.un; omega
theorem TEv.inT (C : Cx w A env g d sc) (S : S1 g env s₀ s lm news) (T : TD w g news D xs) (ha : PuL w A env s [a, b] [.int i, .str x]) (hc : ∀ s', S1 g env s₀ s' lm news → Pu w A env s' c (.ref D)) (hm : behindInMarks .In c = false) (h1 : 1 ≤ d := by decide) :
    TEv w A env g s₀ s lm (.Compare (.Tuple [a, b] k tp) [.In] [c] pos) (fun (_ : Unit) _ => True) (fun _ => (atKey xs (mk (i, x))).isSome) (fun _ => news) := fun Q E k' =>
  wpAny_isTrue_Compare1 (ev_key S ha _ _ fun y v s' hv _ S' => hc s' (S'.led fun _ h => .tail _ h) _ _ s'.toks fun u tk hu => by
    cases hv; cases hu
    exact wpAny_in_heap (C.unit h1) (key_is (S'.tok tk)) T.lo (T.at ((S'.led fun _ h => .tail _ h).tok tk)) (wpAny_truthy_bool (k' () _ trivial ((S'.led fun _ h => .tail _ h).tok _)))) hm
theorem TEv.ninT (C : Cx w A env g d sc) (S : S1 g env s₀ s lm news) (T : TD w g news D xs) (ha : PuL w A env s [a, b] [.int i, .str x]) (hc : ∀ s', S1 g env s₀ s' lm news → Pu w A env s' c (.ref D)) (hm : behindInMarks .NotIn c = false) (h1 : 1 ≤ d := by decide) :
    TEv w A env g s₀ s lm (.Compare (.Tuple [a, b] k tp) [.NotIn] [c] pos) (fun (_ : Unit) _ => True) (fun _ => !(atKey xs (mk (i, x))).isSome) (fun _ => news) := fun Q E k' =>
  wpAny_isTrue_Compare1 (ev_key S ha _ _ fun y v s' hv _ S' => hc s' (S'.led fun _ h => .tail _ h) _ _ s'.toks fun u tk hu => by
    cases hv; cases hu
    exact wpAny_notIn_heap (C.unit h1) (key_is (S'.tok tk)) T.lo (T.at ((S'.led fun _ h => .tail _ h).tok tk)) (wpAny_truthy_bool (k' () _ trivial ((S'.led fun _ h => .tail _ h).tok _)))) hm
theorem ev_itemT (C : Cx w A env g d sc) (S : S1 g env s₀ s lm news) (T : TD w g news D xs) (hc : Pu w A env s c (.ref D)) (ha : PuL w A env s [a, b] [.int i, .str x]) (hl : atKey xs (mk (i, x)) = some (ka, v)) (hv : p.is v) (h1 : 1 ≤ d := by decide) :
    Ev w A env g s₀ s lm (.Subscript c (.Tuple [a, b] k tp) pos) (fun (_ : Unit) _ => True) (fun _ => p) (fun _ => news) := fun Q E k' =>
  Subscript_ (hc _ _ s.toks fun u tk hu => ev_key (s := { s with toks := tk }) (S.tok tk) ha _ _ fun y y' s' hy _ S' => by
    cases hy; cases hu
    exact tail_any (T.at (S'.led fun _ h => .tail _ h)).typeIs slot_dict_getitem.lookup (wpAny_getItem_heap (C.unit h1) (key_is S') (T.at (S'.led fun _ h => .tail _ h)) hl (k' () v _ hv trivial ((S'.led fun _ h => .tail _ h).tok _))) (by with_unfolding_all rfl))
theorem ev_getT (C : Cx w A env g d sc) (S : S1 g env s₀ s lm news) (T : TD w g news D xs) (hc : Pu w A env s c (.ref D)) (ha : PuL w A env s [a, b] [.int i, .str x]) (hv : p.is (((atKey xs (mk (i, x))).map (·.2)).getD .none))
    (hm : ∀ en, ∃ pl : Sem Bool, eval (.Call (.Attribute c (Str.ofString "get") apos) [.Tuple [a, b] k tp] [] pos) en = (do let ov ← eval c en; standAt apos.atName; let (f, first) ← holding [ov] (getMethod ov (Str.ofString "get") pl); callWith pos f first (backTo pos (starEach [.Tuple [a, b] k tp] en)) [])) (h1 : 1 ≤ d := by decide) :
    Ev w A env g s₀ s lm (.Call (.Attribute c (Str.ofString "get") apos) [.Tuple [a, b] k tp] [] pos) (fun (_ : Unit) _ => True) (fun _ => p) (fun _ => news) := fun Q E k' => by
  obtain ⟨pl, hm⟩ := hm env
  refine MethodCall_ (pl := pl) (hc _ _ s.toks fun u tk hu => ?_) hm
  cases hu
  have hD := T.at (S.tok tk)
  refine getMethod_builtin hD.typeIs PySem.F.plainAttrs_dict PySem.F.slot_dict_get PySem.F.type_dict_get (dictOfH_noDict hD) ?_
  refine callWith_method1 (args_cons (ev_key (s := { s with toks := tk }) (S.tok tk) ha _ _ fun y y' s' hy _ S' => args_nil ?_) (by rfl)) (by rfl) (by rfl)
  cases hy
  have S'' := S'.led (news' := news) fun _ h => .tail _ h
  exact call_meetsIn PySem.F.slot_dict_get (T.at S'').typeIs PySem.F.entry_dict_get (PySem.F.args_dict_get_2 _ _) (meetsH_dict_get (PK w) D y.1 T.lo) ⟨C.unit h1, mk (i, x), xs, key_is S', T.at S'', k' () _ _ hv trivial (S''.tok _)⟩
/-- plain keys -/
theorem Te.inD {K : Type} [DecidableEq K] [BEq K] [LawfulBEq K] {knd : KeyKind PR w K} {l : List (K × PV)} {key : K} (S : S1 g env s₀ s lm news) (ha : Pu w A env s a q) (hq : ∀ v, q.is v → knd.is key v = true) (hc : Pu w A env s c (.ref D)) (hm : (D, o) ∈ news) (hD : DctK knd o l) (lo : (D == sysModules) = false) (hb : behindInMarks .In c = false) :
    Te w A env s (.Compare a [.In] [c] pos) (l.lookup key).isSome := fun Q E tk k' =>
  wpAny_isTrue_Compare1 (ha _ _ tk fun v tk1 hv => hc _ _ tk1 fun u tk2 hu => by
    cases hu
    obtain ⟨kvs, h1, h2⟩ := hD
    refine kda_in (s := { s with toks := tk2 }) S.N hm h1 lo (hq v hv) _ ?_ (wpAny_truthy_bool (k' _))
    cases z : l.lookup key with
    | none => rw [h2.miss z]; rfl
    | some p => obtain ⟨v, f, _⟩ := h2.find z; unfold valueAt; rw [f]; rfl) hb
theorem Pu.item {K : Type} [DecidableEq K] [BEq K] [LawfulBEq K] {knd : KeyKind PR w K} {l : List (K × PV)} {key : K} (S : S1 g env s₀ s lm news) (hc : Pu w A env s c (.ref D)) (ha : Pu w A env s a q) (hq : ∀ v, q.is v → knd.is key v = true) (hm : (D, o) ∈ news) (hD : DctK knd o l) (hl : l.lookup key = some p)
    (hs : ∀ kv, subscripted a false (.ref D) kv = operate [.ref D, kv] (getItem (.ref D) kv)) :
    Pu w A env s (.Subscript c a pos) p := fun Q E tk k' =>
  Subscript_ (hc _ _ tk fun u tk1 hu => ha _ _ tk1 fun v tk2 hv => by
    cases hu
    obtain ⟨kvs, h1, h2⟩ := hD
    obtain ⟨y, f, hy⟩ := h2.find hl
    have hD := kda_dict (s := { s with toks := tk2 }) S.N hm h1
    exact tail_any hD.typeIs slot_dict_getitem.lookup (wpAny_getItem_of (s := { s with toks := tk2 }) (hq v hv) hD.mapOf (by unfold valueAt; rw [f]; rfl) (k' y _ hy)) (hs v))
theorem r_item {K : Type} [DecidableEq K] [BEq K] [LawfulBEq K] {knd : KeyKind PR w K} {l : List (K × PV)} {key : K} {α : Type} {Cy : α → Shared → Prop} {P : α → PV} {Q : Flow → Shared → Prop} {E : Value → Shared → Prop} {rest : List Stmt} {fn : α → Led} {gg : α → Obj → Led} (hE : Ev w A env g s₀ s lm e Cy P fn)
    (hc : ∀ y s', Cy y s' → S1 g env s₀ s' lm (fn y) → Pu w A env s' c (.ref D)) (ha : ∀ y s', Cy y s' → S1 g env s₀ s' lm (fn y) → Pu w A env s' a q) (hq : ∀ v, q.is v → knd.is key v = true) (U : ∀ y, UpdF D o (fn y) (gg y)) (hD : DctK knd o l) (hz : l.length ≤ 100) (hs : ∀ en, swapsWith e (some (.Subscript c a tp)) pos.line en = pure false)
    (k' : ∀ y s' s'' o', Cy y s' → S1 g env s₀ s'' lm (gg y o') → DctK knd o' (putP l key (P y)) → wpAny (model PR w) A (execs rest env) Q E s'') :
    wpAny (model PR w) A (execs (.Assign [.Subscript c a tp] e pos :: rest) env) Q E s := by
  refine wpAny_execs_cons (wpAny_Assign_Subscript (hE _ _ fun y v s' hv hcy S => hc y s' hcy S _ _ s'.toks fun u tk hu => ha y s' hcy S _ _ tk fun kv tk2 hkv => ?_) (hs env))
  cases hu
  obtain ⟨⟨m, F, hm⟩, N, same⟩ := S
  obtain ⟨kvs, h1, h2⟩ := hD
  have hnd : (kvs.map (·.1)).Nodup := by obtain ⟨_, _, _, _, _, _, h⟩ := h1; exact h
  exact kda_set (s := { s' with toks := tk2 }) F N (U y) h1 (hq kv hkv) (by rw [h2.length, sizeLine_eq]; omega) fun h' o' F' N' hD' => k' y s' _ o' hcy ⟨⟨m, F', hm⟩, N', same⟩ ⟨_, hD', h2.put hnd hv⟩
/-- a test that is a plain value -/
theorem Te.plain (h : Pu w A env s e (.bool z)) (hp : ∀ en wh, PySem.isTrue e en wh = (do let v ← wh; standAt e.pos; holding [v] (truthy v))) : Te w A env s e z := fun Q E tk k' => isTrue_plain (h _ _ tk fun v tk hv => by cases hv; exact wpAny_truthy_bool (k' tk)) (hp _ _)
theorem Pu.ifx {z : Bool} (h : Te w A env s e z) (ha : z = true → Pu w A env s a p) (hb : z = false → Pu w A env s b p) : Pu w A env s (.IfExp e a b pos) p := fun Q E tk k' =>
  IfExp_ (h _ _ tk fun tk => by
    cases z with
    | true => exact ha rfl _ _ tk k'
    | false => exact hb rfl _ _ tk k')
end

section
variable {w : World} {A : Around} {env : Env} {g : Heap} {d d' : Nat} {sc : Scope} {s₀ s : Shared} {lm l : Lm} {news : Led} {x n : Str} {xpos apos pos tp : Pos} {p q : PV} {a b c e : PySem.Expr} {i j : Int} {D : Addr} {v : Value} {o : Obj} {ps : List PV} {es : List PySem.Expr} {Q : Flow → Shared → Prop} {E : Value → Shared → Prop} {rest body orelse : List Stmt}
theorem S1.pre (S : S1 g env s₀ s lm news) {pre n' : Led} (h : ∀ p ∈ pre, g.get? p.1 = some p.2) (sub : ∀ p ∈ n', p ∈ news) : ∀ p ∈ pre, s.heap.get? p.1 = some p.2 ∧ p.1 ∉ n'.map (·.1) := fun p hp => ⟨S.keep _ _ (h p hp), fun q => by
  obtain ⟨r, hr, e⟩ := List.mem_map.mp q
  have := (S.N r (sub r hr)).2.2
  rw [e, h p hp] at this; cases this⟩
theorem r_attrE {α : Type} {Cy : α → Shared → Prop} {P : α → PV} {fn : α → Led} {gg : α → Obj → Led} {ax K dx : Addr} (C : Cx w A env g d sc) (hE : Ev w A env g s₀ s lm e Cy P fn)
    (hc : ∀ y s', Cy y s' → S1 g env s₀ s' lm (fn y) → Ev w A env g s₀ s' lm c (fun (_ : Unit) _ => True) (fun _ => .ref ax) (fun _ => fn y))
    (h1 : ∀ y, (ax, instObj K dx) ∈ fn y) (U : ∀ y s', Cy y s' → S1 g env s₀ s' lm (fn y) → UpdF dx o (fn y) (gg y)) (hD : Dct w o l) (ok : SetOk w K n) (hz : l.length ≤ 100) (hs : ∀ en, swapsWith e (some (.Attribute c n tp)) pos.line en = pure false)
    (k : ∀ y s' s'' o', Cy y s' → S1 g env s₀ s'' lm (gg y o') → Dct w o' (putP l n (P y)) → wpAny (model PR w) A (execs rest env) Q E s'') :
    wpAny (model PR w) A (execs (.Assign [.Attribute c n tp] e pos :: rest) env) Q E s := by
  refine wpAny_execs_cons (plainObj_wpAny_Assign_Attribute (hE _ _ fun y v s1 hv hcy S => hc y s1 hcy S _ _ fun _ u s' hu _ S' => ?_) (hs env))
  cases hu
  have U := U y s1 hcy S
  obtain ⟨⟨m, F, hm⟩, N, same⟩ := S'
  obtain ⟨kvs, hD, hd⟩ := hD
  have h2 : (dx, o) ∈ fn y := by obtain ⟨pre, post, e, _⟩ := U.split; rw [e]; simp
  have hnd : (kvs.map (·.1)).Nodup := by obtain ⟨_, _, _, _, _, _, h⟩ := hD; exact h
  exact set_fld F C.X N ⟨(N _ (h1 y)).1, rfl, rfl, (N _ h2).1⟩ hD ok.s ok.p ok.t ok.h U (by rw [DL.length hd]; exact hz) fun h' o' tk' F' N' hD' =>
    k y s1 _ o' hcy ⟨⟨m, F', hm⟩, N', same⟩ ⟨_, hD', DL.put hd hnd hv⟩
theorem r_itemE {K : Type} [DecidableEq K] [BEq K] [LawfulBEq K] {knd : KeyKind PR w K} {l : List (K × PV)} {key : K} {α : Type} {Cy : α → Shared → Prop} {P : α → PV} {fn : α → Led} {gg : α → Obj → Led} (hE : Ev w A env g s₀ s lm e Cy P fn)
    (hc : ∀ y s', Cy y s' → S1 g env s₀ s' lm (fn y) → Ev w A env g s₀ s' lm c (fun (_ : Unit) _ => True) (fun _ => .ref D) (fun _ => fn y)) (ha : ∀ y s', S1 g env s₀ s' lm (fn y) → Pu w A env s' a q) (hq : ∀ v, q.is v → knd.is key v = true)
    (U : ∀ y s', Cy y s' → S1 g env s₀ s' lm (fn y) → UpdF D o (fn y) (gg y)) (hD : DctK knd o l) (hz : l.length ≤ 100) (hs : ∀ en, swapsWith e (some (.Subscript c a tp)) pos.line en = pure false)
    (k' : ∀ y s' s'' o', Cy y s' → S1 g env s₀ s'' lm (gg y o') → DctK knd o' (putP l key (P y)) → wpAny (model PR w) A (execs rest env) Q E s'') :
    wpAny (model PR w) A (execs (.Assign [.Subscript c a tp] e pos :: rest) env) Q E s := by
  refine wpAny_execs_cons (wpAny_Assign_Subscript (hE _ _ fun y v s1 hv hcy S => hc y s1 hcy S _ _ fun _ u s' hu _ S' => ha y s' S' _ _ s'.toks fun kv tk2 hkv => ?_) (hs env))
  cases hu
  have U := U y s1 hcy S
  obtain ⟨⟨m, F, hm⟩, N, same⟩ := S'
  obtain ⟨kvs, h1, h2⟩ := hD
  have hnd : (kvs.map (·.1)).Nodup := by obtain ⟨_, _, _, _, _, _, h⟩ := h1; exact h
  exact kda_set (s := { s' with toks := tk2 }) F N U h1 (hq kv hkv) (by rw [h2.length, sizeLine_eq]; omega) fun h' o' F' N' hD' => k' y s1 _ o' hcy ⟨⟨m, F', hm⟩, N', same⟩ ⟨_, hD', h2.put hnd hv⟩
noncomputable def delP {K : Type} [DecidableEq K] (l : List (K × PV)) (x : K) : List (K × PV) := l.filter fun q => !decide (q.1 = x)
theorem DL.del {K : Type} [DecidableEq K] {x : K} : ∀ {l : List (K × PV)} {kvs : List (K × Value)}, DL l kvs → DL (delP l x) (without kvs x)
  | [], _, h => by cases h; rfl
  | q :: r, kvs, h => by
    obtain ⟨v, t, rfl, hv, h⟩ := h
    have := DL.del (x := x) h
    unfold delP without at *
    by_cases e : q.1 = x
    · simpa [e] using this
    · simp only [List.filter_cons, e, decide_false, Bool.not_false, if_true, ne_eq, not_false_eq_true, decide_true]
      exact ⟨v, _, rfl, hv, this⟩
theorem delP_none {K : Type} [DecidableEq K] [BEq K] [LawfulBEq K] {x : K} : ∀ {l : List (K × PV)}, l.lookup x = none → delP l x = l
  | [], _ => rfl
  | q :: r, h => by
    rw [List.lookup_cons] at h
    by_cases e : x = q.1
    · rw [beq_iff_eq.mpr e] at h; cases h
    · rw [beq_eq_false_iff_ne.mpr e] at h
      have := delP_none h
      unfold delP at *
      have e' : ¬ q.1 = x := fun z => e z.symm
      simp only [List.filter_cons, e', decide_false, Bool.not_false, if_true, this]
/-- `c.pop(a, None)` on a dict with plain keys -/
theorem r_pop {K : Type} [DecidableEq K] [BEq K] [LawfulBEq K] {knd : KeyKind PR w K} {l : List (K × PV)} {key : K} {gg : Obj → Led} (C : Cx w A env g d sc) (S : S1 g env s₀ s lm news) (hc : Pu w A env s c (.ref D)) (hargs : PuL w A env s [a, b] [q, .none]) (hq : ∀ v, q.is v → knd.is key v = true ∧ (keyPart v).isSome = true)
    (U : UpdF D o news gg) (hD : DctK knd o l) (lo : (D == sysModules) = false) (hz : l.length ≤ 100) (hm : MethShape c (Str.ofString "pop") apos [a, b] pos) (hplain : ∀ en, (backTo pos (starEach [b] en)).any (·.1) = false)
    (hs : ∀ en, swapsWith (.Call (.Attribute c (Str.ofString "pop") apos) [a, b] [] pos) none tp.line en = pure false) (k : ∀ s' o', S1 g env s₀ s' lm (gg o') → DctK knd o' (delP l key) → wpAny (model PR w) A (execs rest env) Q E s') :
    wpAny (model PR w) A (execs (.Expr (.Call (.Attribute c (Str.ofString "pop") apos) [a, b] [] pos) tp :: rest) env) Q E s := by
  refine wpAny_execs_cons (wpAny_Expr_any ?_ ?_ (hs env))
  · obtain ⟨pl, hm⟩ := hm env
    obtain ⟨kvs, h1, h2⟩ := hD
    have hmem : (D, o) ∈ news := by obtain ⟨pre, post, e, _⟩ := U.split; rw [e]; simp
    refine MethodCall_ (pl := pl) (hc _ _ s.toks fun u tk hu => ?_) hm
    cases hu
    refine kob_method PySem.F.slot_dict_pop PySem.F.type_dict_pop S.N hmem h1 ?_
    refine callWith_method1 (hargs.go fun vs tk' hvs => ?_) hargs.choose_spec.choose_spec.2.2.1 (hplain env)
    obtain ⟨kv, _, rfl, hkv, dv, _, rfl, hdv, rfl⟩ := hvs
    obtain ⟨q1, q2⟩ := hq kv hkv
    cases hl : l.lookup key with
    | none =>
      have hD : s.heap.DictOf knd D kvs := Heap.dictOf_iff.mpr ⟨o, S.mem hmem, h1⟩
      refine call_meetsIn PySem.F.slot_dict_pop hD.typeIs PySem.F.entry_dict_pop (PySem.F.args_dict_pop_3 _ _ _) (meets_dict_pop_default knd D q1 lo q2 dv) ⟨kvs, hD, h2.miss hl, k _ o ((S.led fun p hp => ?_).tok _) (by rw [delP_none hl]; exact ⟨kvs, h1, h2⟩)⟩
      obtain ⟨pre, post, e, e2, _⟩ := U.split
      rw [e2] at hp; rw [e]; exact hp
    | some p =>
      obtain ⟨v, hf, _⟩ := h2.find hl
      obtain ⟨⟨m, F, hm⟩, N, same⟩ := S
      exact kob_pop (s := { s with toks := tk' }) F N U h1 q1 (.inr ⟨dv, rfl⟩) q2 (PySem.F.args_dict_pop_3 _ _ _) (v := v) (by unfold valueAt; rw [hf]; rfl) (by rw [h2.length, sizeLine_eq]; omega) fun h' o' F' N' hD' => k _ o' ⟨⟨m, F', hm⟩, N', same⟩ ⟨_, hD', h2.del⟩
  · obtain ⟨cn, L, a, ccd, cl, rfl⟩ := C.eX
    show (sc.kind == .module && _) = false
    rw [C.kind]; rfl
theorem ev_append {its : Array Value} {k : Nat} {gg : Obj → Led} (S : S1 g env s₀ s lm news) (hc : Pu w A env s c (.ref D)) (ha : Pu w A env s a p) (U : UpdF D (listOf its k) news gg) (hz : its.size ≤ 100000) (hm : MethShape c (Str.ofString "append") apos [a] pos) (h1 : starEach [a] env = (false, eval a env) :: starEach [] env) :
    Ev w A env g s₀ s lm (.Call (.Attribute c (Str.ofString "append") apos) [a] [] pos) (fun (v : Value) _ => p.is v) (fun _ => .none) (fun v => gg (listOf (its.push v) (k + 1))) := fun Q E k' => by
  obtain ⟨pl, hm⟩ := hm env
  have hmem : (D, listOf its k) ∈ news := by obtain ⟨pre, post, e, _⟩ := U.split; rw [e]; simp
  refine MethodCall_ (pl := pl) (hc _ _ s.toks fun u tk hu => ?_) hm
  cases hu
  refine listMethod_K S.N hmem PySem.F.slot_list_append PySem.F.type_list_append ?_
  refine callWith_method1 (args_cons (ha _ _ tk fun v tk hv => args_nil ?_) h1) h1 rfl
  obtain ⟨⟨m, F, hm⟩, N, same⟩ := S
  obtain ⟨pre, post, e, e2, h3, h4⟩ := U.split
  subst e
  have z := N (D, listOf its k) (List.mem_append.mpr (.inr (.head _)))
  refine append_at (s := { s with toks := tk }) z.1 (fun h' hs' ho' => k' v _ _ rfl hv ⟨⟨m, F.change hs' z.2.1 z.2.2, hm⟩, ?_, same⟩) (by rw [sizeLine_eq]; omega)
  show News _ _ _ (gg _)
  rw [e2]; exact news_set N h3 h4 hs' ho'
/-- what a loop may walk over -/
noncomputable def Itr (w : World) (A : Around) (g : Heap) (L : Addr) (s : Shared) (xv : Value) (n : Nat) (pv : Nat → PV) (kp : Led) : Prop :=
  ∀ Q E, (∀ I fp P St hp, Walks PR w A I fp [I] n P St → I ∈ fp → (∀ b ∈ fp, b = I ∨ (∃ q, g.get? b = some q) ∨ ∃ o, (b, o) ∈ kp) → (∀ i h, St i h → ∃ it, h.get? I = some it) → L ∉ fp → (∀ i v, i < n → P i v → (pv i).is v) → g.get? I = none → s.heap.get? I = none →
    St 0 hp → (∀ m, Fr g L s.heap m → Fr g L hp m) → (∀ b o, s.heap.get? b = some o → hp.get? b = some o) → Q (.ref I) { s with heap := hp }) → wpAny (model PR w) A (pyIter xv) Q E s
theorem itr_tuple {ax : Addr} {vs : List Value} {pv : Nat → PV} (C : Cx w A env g d sc) (S : S1 g env s₀ s lm news) (hl : g.IsTuple ax vs.toArray) (hp : ∀ i v, vs[i]? = some v → (pv i).is v) : Itr w A g env.locals s (.ref ax) vs.length pv [] := fun Q E k => by
  obtain ⟨⟨m, F, _⟩, N, _⟩ := S
  have hls : s.heap.IsTuple ax vs.toArray := by obtain ⟨o, ho, r⟩ := hl; exact ⟨o, F.keep _ _ ho, r⟩
  obtain ⟨ol, hol, _⟩ := id hl
  have hlt : ax < g.objs.size := Heap.lt_size hol
  have hne : ax ≠ s.heap.objs.size := Nat.ne_of_lt (Nat.lt_trans (Nat.lt_of_lt_of_le hlt F.above) F.ns.lt)
  refine wpAny_pyIter_tuple hls ?_
  have W := Walks.tuple (prog := PR) (w := w) C.hand s.heap.objs.size ax hne vs.toArray
  rw [show vs.toArray.size = vs.length by simp] at W
  refine k _ _ _ _ _ W (.head _) (fun b hb => ?_) (fun i h st => ?_) (fun hm => ?_) (fun i v _ h => hp i v (by simpa using h)) (next_is_new F) (Heap.get?_none_of_le (Nat.le_refl _)) ⟨⟨_, Heap.get?_push_size _ rfl, rfl, rfl⟩, ?_⟩ (fun m F => F.push _) (fun b o e => Heap.get?_push_of_some _ e)
  · rcases List.mem_cons.mp hb with rfl | hb
    · exact .inl rfl
    · exact .inr (.inl ⟨ol, (List.mem_singleton.mp hb).symm ▸ hol⟩)
  · obtain ⟨o, ho, _⟩ := st.1; exact ⟨o, ho⟩
  · rcases List.mem_cons.mp hm with e | hm
    · exact absurd F.ns.lt (e ▸ Nat.lt_irrefl _)
    · exact absurd (Nat.lt_of_lt_of_le hlt F.above) ((List.mem_singleton.mp hm) ▸ Nat.lt_irrefl _)
  · obtain ⟨o, ho, r⟩ := hls; exact ⟨o, Heap.get?_push_of_some _ ho, r⟩
theorem itr_list {ax : Addr} {vs : List Value} {pv : Nat → PV} {kp : Led} (C : Cx w A env g d sc) (S : S1 g env s₀ s lm news) (hls : s.heap.IsList ax vs.toArray) (hb' : (∃ q, g.get? ax = some q) ∨ ∃ o, (ax, o) ∈ kp) (hL : ax ≠ env.locals) (hp : ∀ i v, vs[i]? = some v → (pv i).is v) : Itr w A g env.locals s (.ref ax) vs.length pv kp := fun Q E k => by
  obtain ⟨⟨m, F, _⟩, N, _⟩ := S
  obtain ⟨ol, hol, _⟩ := id hls
  have hne : ax ≠ s.heap.objs.size := Nat.ne_of_lt (Heap.lt_size hol)
  refine wpAny_pyIter_list hls ?_
  have W := Walks.list (prog := PR) (w := w) C.hand s.heap.objs.size ax hne vs.toArray
  rw [show vs.toArray.size = vs.length by simp] at W
  refine k _ _ _ _ _ W (.head _) (fun b hb => ?_) (fun i h st => ?_) (fun hm => ?_) (fun i v _ h => hp i v (by simpa using h)) (next_is_new F) (Heap.get?_none_of_le (Nat.le_refl _)) ⟨⟨_, Heap.get?_push_size _ rfl, rfl, rfl⟩, hls.at fun o e => Heap.get?_push_of_some _ e⟩ (fun m F => F.push _) (fun b o e => Heap.get?_push_of_some _ e)
  · rcases List.mem_cons.mp hb with rfl | hb
    · exact .inl rfl
    · exact .inr ((List.mem_singleton.mp hb).symm ▸ hb')
  · obtain ⟨o, ho, _⟩ := st.1; exact ⟨o, ho⟩
  · rcases List.mem_cons.mp hm with e | hm
    · exact absurd F.ns.lt (e ▸ Nat.lt_irrefl _)
    · exact hL (List.mem_singleton.mp hm).symm
/-- behind a turn -/
noncomputable def Turn (g : Heap) (env : Env) (s₀ : Shared) (Q : Flow → Shared → Prop) (I : Addr) (it : Obj) (J : Lm → Led → Prop) (f : Flow) (s' : Shared) : Prop := match f with
  | .ret v => Q (.ret v) s'
  | .brk => Q .next s'
  | _ => ∃ lm nx, S1 g env s₀ s' lm ((I, it) :: nx) ∧ (∀ p ∈ nx, p.1 ≠ I) ∧ J lm nx
theorem r_for {α : Type} {Cy : α → Shared → Prop} {P : α → PV} {fn : α → Led} (C : Cx w A env g d sc) (pE : PassesOwn (model PR w) A env E) (hE : Ev w A env g s₀ s lm e Cy P fn) (hx : sc.names.lookup x = some .local) (hs : ∀ y, foldedSetIterable e env y = pure y)
    (k : ∀ y v s', (P y).is v → Cy y s' → S1 g env s₀ s' lm (fn y) → ∃ (n : Nat) (pv : Nat → PV) (kp : Led) (J : Nat → Lm → Led → Prop), Itr w A g env.locals s' v n pv kp ∧ (∀ i l nx, J i l nx → ∀ p ∈ kp, p ∈ nx) ∧ J 0 lm (fn y) ∧
      (∀ I it i l nx s'' Q', i < n → J i l nx → S1 g env s₀ s'' ((x, pv i) :: l) ((I, it) :: nx) → (∀ p ∈ nx, p.1 ≠ I) → (∀ f s', Turn g env s₀ (Then w A env rest Q E) I it (J (i + 1)) f s' → Q' f s') → wpAny (model PR w) A (execs body env) Q' E s'') ∧
      ∀ l nx s'', J n l nx → S1 g env s₀ s'' l nx → wpAny (model PR w) A (execs rest env) Q E s'') :
    wpAny (model PR w) A (execs (.For (.Name x xpos) e body [] pos :: rest) env) Q E s := by
  have hkd := C.kind
  have hx1 : env.kindOf x = some .local := by obtain ⟨cn, L, a, ccd, cl, rfl⟩ := C.eX; exact hx
  have hx2 : (env.scope.kind == .class || (env.scope.kind == .module && env.locals != env.globals)) = false := by
    obtain ⟨cn, L, a, ccd, cl, rfl⟩ := C.eX
    show (sc.kind == .class || (sc.kind == .module && _)) = false
    rw [hkd]; rfl
  refine wpAny_execs_cons (wpAny_mono (For_invV (Q := Then w A env rest Q E) g hx1 hx2 (hE _ _ fun y v s' hv hc S => ?_) hs pE) (fun f s' h => by cases f <;> exact h) fun _ _ h => h)
  obtain ⟨n, pv, kp, J, hI, hkp, h0, turn, done⟩ := k y v s' hv hc S
  obtain ⟨⟨m, F, hm⟩, N, same⟩ := S
  refine hI _ _ fun I fp P' St hp W hIf hfp hobj hL hpv hnew hnewI hst hF hk => ?_
  refine loopJ (s := { s' with heap := hp }) (fun i m nx => ∃ l, J i l nx ∧ ∀ x p, l.lookup x = some p → ∃ v, m x = some v ∧ p.is v) W hIf (fun b hb => (hfp b hb).imp id (Or.imp id fun ⟨o, ho⟩ => ⟨o, fun i m nx ⟨l, hj, _⟩ => hkp i l nx hj _ ho⟩)) hobj hnew hL (fun p hp e => ?_) hst (hF m F) (fun p hp => ⟨hk _ _ (N p hp).1, (N p hp).2⟩) ⟨lm, h0, hm⟩ ?_ ?_
  · have := (N p hp).1; rw [e, hnewI] at this; cases this
  · rintro i v m₁ nx it h tk hi hP ⟨l, hj, hl⟩ F₁ N₁ off
    refine wpAny_mono (turn I it i l nx { s' with heap := h, toks := tk } (Turn g env s₀ (Then w A env rest Q E) I it (J (i + 1))) hi hj (S1.put (lm := l) (news := (I, it) :: nx) (s := s') hl (hpv i v hi hP) F₁ N₁ same) off fun _ _ h => h) (fun f s'' ht => ?_) fun _ _ h => h
    have fin : (∃ lm nx, S1 g env s₀ s'' lm ((I, it) :: nx) ∧ (∀ p ∈ nx, p.1 ≠ I) ∧ J (i + 1) lm nx) → UnrEnd g env.locals { s' with heap := h, toks := tk } I it (fun m nx => ∃ l, J (i + 1) l nx ∧ ∀ x p, l.lookup x = some p → ∃ v, m x = some v ∧ p.is v) s'' := by
      rintro ⟨l2, nx2, ⟨⟨m2, F2, hm2⟩, N2, same2⟩, off2, hj2⟩
      refine ⟨s''.heap, s''.toks, m2, nx2, ?_, F2, N2, off2, l2, hj2, hm2⟩
      obtain ⟨a1, a2, a3⟩ := same2
      obtain ⟨b1, b2, b3⟩ := same
      obtain ⟨h1, g1, d1, t1, o1⟩ := s''
      dsimp only at a1 a2 a3 ⊢
      rw [a1, a2, a3, b1, b2, b3]
    cases f with
    | ret v => exact ht
    | brk => exact ht
    | next => exact fin ht
    | cont => exact fin ht
  · rintro m₁ nx h tk ⟨l, hj, hl⟩ F₁ N₁
    exact done l nx _ hj ⟨⟨m₁, F₁, hl⟩, N₁, same⟩
end
/-- addresses that lie apart -/
noncomputable abbrev ND (l : Led) : Prop := (l.map (·.1)).Nodup
theorem ND.off {a b : Led} (h : ND (a ++ b)) : ∀ p ∈ b, p.1 ∉ a.map (·.1) := fun p hp q => by
  unfold ND at h
  rw [List.map_append, List.nodup_append] at h
  exact h.2.2 _ q _ (List.mem_map_of_mem hp) rfl
theorem ND.ne {a b : Addr} {o o' : Obj} {r : Led} (h : ND ((a, o) :: (b, o') :: r)) : @Ne Nat a b := fun e => (List.nodup_cons.mp h).1 (e ▸ .head _)
theorem ND.l {a b : Led} (h : ND (a ++ b)) : ND a := by unfold ND at *; rw [List.map_append] at h; exact (List.nodup_append.mp h).1
theorem ND.r {a b : Led} (h : ND (a ++ b)) : ND b := by unfold ND at *; rw [List.map_append] at h; exact (List.nodup_append.mp h).2.1
theorem ND.perm {a b : Led} (h : ND a) (p : a.Perm b) : ND b := (p.map _).nodup_iff.mp h
theorem ND.same {a b : Led} (h : ND a) (e : a.map (·.1) = b.map (·.1)) : ND b := by unfold ND at *; rw [← e]; exact h
theorem ND.step {a a' b : Led} {h : Heap} (hn : ND (a ++ b)) (h' : ND a') (hb : ∀ p ∈ b, ∃ o, h.get? p.1 = some o) (hf : ∀ p ∈ a', p.1 ∈ a.map (·.1) ∨ h.get? p.1 = none) : ND (a' ++ b) := by
  have hr := hn.r
  have ho := hn.off
  unfold ND at *
  rw [List.map_append, List.nodup_append]
  refine ⟨h', hr, fun x hx y hy e => ?_⟩
  obtain ⟨p, hp, rfl⟩ := List.mem_map.mp hx
  obtain ⟨q, hq, rfl⟩ := List.mem_map.mp hy
  rcases hf p hp with z | z
  · exact ho q hq (e ▸ z)
  · obtain ⟨o, z'⟩ := hb q hq
    rw [e, z'] at z; cases z
theorem UpdF.mid {dx : Addr} {o : Obj} {post : Led} : ∀ {pre : Led}, ND (pre ++ (dx, o) :: post) → UpdF dx o (pre ++ (dx, o) :: post) (fun o' => pre ++ (dx, o') :: post)
  | [], h => .head fun p hp e => (List.nodup_cons.mp h).1 (show dx ∈ post.map (·.1) from e ▸ List.mem_map_of_mem (f := (·.1)) hp)
  | q :: r, h => .tail (fun e => (List.nodup_cons.mp h).1 (by
      show q.1 ∈ (r ++ (dx, o) :: post).map (·.1)
      rw [e, List.map_append]; exact List.mem_append_right _ (.head _))) (UpdF.mid (List.nodup_cons.mp h).2)

theorem lookup_filter {l : List (Str × PV)} {x y : Str} {p : PV} (h : (l.filter fun q => !(q.1 == y)).lookup x = some p) : l.lookup x = some p ∧ x ≠ y := by
  induction l with
  | nil => cases h
  | cons q r ih =>
    rw [List.filter_cons] at h
    by_cases e : q.1 = y
    · rw [if_neg (by simp [e])] at h
      obtain ⟨h1, h2⟩ := ih h
      exact ⟨by rw [List.lookup_cons, beq_eq_false_iff_ne.mpr (e ▸ h2)]; exact h1, h2⟩
    · rw [if_pos (by simp [e]), List.lookup_cons] at h
      rw [List.lookup_cons]
      by_cases z : x = q.1
      · rw [beq_iff_eq.mpr z] at h ⊢; exact ⟨h, z ▸ e⟩
      · rw [beq_eq_false_iff_ne.mpr z] at h ⊢; exact ih h
theorem bindL_off {K : Str → Option NameKind} {x : Str} : ∀ {b : List (Str × Value)} {m : Str → Option Value}, x ∉ b.map (·.1) → bindL K b m x = m x
  | [], _, _ => rfl
  | q :: r, m, h => by
    rw [List.map_cons, List.mem_cons, not_or] at h
    show bindL K r _ x = _
    rw [bindL_off h.2]
    split
    · exact if_neg h.1
    · rfl
theorem bindL_hit {K : Str → Option NameKind} {x : Str} {v : Value} (hx : K x = some .local) : ∀ {b : List (Str × Value)} {m : Str → Option Value}, (b.map (·.1)).Nodup → b.lookup x = some v → bindL K b m x = some v
  | [], _, _, h => by cases h
  | q :: r, m, hn, h => by
    rw [List.map_cons, List.nodup_cons] at hn
    rw [List.lookup_cons] at h
    show bindL K r _ x = _
    by_cases e : x = q.1
    · rw [beq_iff_eq.mpr e] at h; cases h
      rw [bindL_off (e ▸ hn.1), ← e, if_pos hx]; exact if_pos rfl
    · rw [beq_eq_false_iff_ne.mpr e] at h
      exact bindL_hit hx hn.2 h
theorem bindC_off {K : Str → Option NameKind} {x : Str} : ∀ {b : List (Str × Value)} {m : Str → Option Value}, x ∉ b.map (·.1) → bindC K b m x = m x
  | [], _, _ => rfl
  | q :: r, m, h => by
    rw [List.map_cons, List.mem_cons, not_or] at h
    show bindC K r _ x = _
    rw [bindC_off h.2]
    split
    · rfl
    · exact if_neg h.1
theorem bindC_hit {K : Str → Option NameKind} {x : Str} {v : Value} (hx : K x ≠ some .local) : ∀ {b : List (Str × Value)} {m : Str → Option Value}, (b.map (·.1)).Nodup → b.lookup x = some v → bindC K b m x = some v
  | [], _, _, h => by cases h
  | q :: r, m, hn, h => by
    rw [List.map_cons, List.nodup_cons] at hn
    rw [List.lookup_cons] at h
    show bindC K r _ x = _
    by_cases e : x = q.1
    · rw [beq_iff_eq.mpr e] at h; cases h
      rw [bindC_off (e ▸ hn.1), ← e, if_neg hx]; exact if_pos rfl
    · rw [beq_eq_false_iff_ne.mpr e] at h
      exact bindC_hit hx hn.2 h
section
variable {w : World} {d : Nat} {f : Addr} {args : List PV} {pre news : Led} {α : Type} {C : α → Prop} {fr : α → PV} {fn : α → Led} {name qual : Str} {params : Arguments} {body : List Stmt} {scope : Scope} {dV kV doc pm cdv ct oc : Value} {an od : Option Addr} {osl : Array (Option Value)}
/-- a def one of whose parameters is a cell -/
theorem specV_ofC (ps : List Str) (lmx : Lm) (cx : Str) (pc : PV) (ho : (Mine.pre.heap_1 w.params).lookup f = some ⟨oc, od, .func (fnOf name qual params body scope dV kV doc pm an cdv ct), osl⟩) (hcd : codeIn (Mine.pre.heap_1 w.params) cdv qual = true) (hn : ps.Nodup)
    (hbind : ∀ vs s, PvsAre args vs → (Mine.pre.heap_1 w.params).In s.heap → BindsTo s (fnOf name qual params body scope dV kV doc pm an cdv ct) ⟨vs, []⟩ (ps.zip vs)) (hloc : (ps.all fun y => y == cx || scope.names.lookup y == some .local) = true)
    (hcells : ∀ n, cellsFrom n scope.names [] = [(cx, n)]) (hcx : scope.names.lookup cx = some .cell) (hpc : (ps.zip args).lookup cx = some pc) (hlx : (ps.zip args).filter (fun q => !(q.1 == cx)) = lmx)
    (hco : scope.isCoroutine = false) (hgen : scope.isGenerator = false) (hk : scope.kind = .function)
    (hb : ∀ A env g s Q E c o v, PassesOwn (model PR w) A env E → (∀ fl s', RetV g env s C fr fn fl s' → Q fl s') → Cx w A env g d scope → (∃ cn L a ccd, env = envX cn scope L a ccd [(cx, c)]) → o.data = .cell (some v) → pc.is v → S1 g env s s lmx ((c, o) :: news) → (∀ p ∈ news, p.1 ≠ c) → (∀ p ∈ pre, g.get? p.1 = some p.2) → (∀ p ∈ news, p.1 < env.locals) → wpAny (model PR w) A (execs body env) Q E s) :
    SpecV w (d + 1) f args pre news C fr fn := by
  intro A env g₀ sc lm s₀ s vs R Cc S hvs hpre hQ
  obtain ⟨⟨m, F, hm⟩, N, same⟩ := S
  obtain ⟨p, loose, mean, mg, mb, outer, A₀, base, T, B, hA⟩ := Cc.ctx
  have hroom := room_0 Cc.dep
  have hX := Cc.X.keeps F.keep
  obtain ⟨cn, L, a, ccd, cl, rfl⟩ := Cc.eX
  refine enterXC B F Cc.X N T hA rfl Cc.kind ho hcd hroom (hbind vs s hvs hX) ?_ ?_ (fun g L' h₁ tk cells hg FG F' N' Y B' X' T' lt => ?_) hco hgen hk
  · rw [List.all_eq_true]
    intro y hy
    have := List.all_eq_true.mp hloc _ (List.of_mem_zip hy).1
    rcases (Bool.or_eq_true _ _).mp this with h | h
    · rw [beq_iff_eq.mp h, hcx]; rfl
    · rw [h]; rfl
  · rw [hcells]; simp
  · have hl := zip_lm (ps := ps) hvs
    rw [hcells] at Y
    obtain ⟨o, rfl, hd⟩ := Y.one
    obtain ⟨v, hv1, hv2⟩ := hl cx pc hpc
    rw [bindC_hit (K := (envOfC qual scope L' f cdv).kindOf) (by show scope.names.lookup cx ≠ _; rw [hcx]; decide) (zip_map_nodup hn) hv1] at hd
    refine wpAny_mono (hb _ _ g { s with heap := h₁, toks := tk } (RetV g _ _ C fr fn) _ (L' + 1) o v (by passes_own) (fun _ _ h => h) ⟨⟨_, L', f, cdv, _, rfl⟩, hk, Cc.hand, X', ⟨p, loose, mean, mg, mb, _, A, base, T', B', by simp only [Around.frames_deeper hA]⟩, ?_, ?_⟩ ⟨_, L', f, cdv, by rw [← hcells]; rfl⟩ hd hv2
      ⟨⟨_, F', fun x q hq => ?_⟩, N', rfl, rfl, rfl⟩ (fun p hp e => absurd (lt p hp) (by rw [e]; exact Nat.not_lt_of_le (Nat.le_succ _))) (fun p hp => hg _ _ (hpre p hp).1 (hpre p hp).2) lt) (fun fl s' hr => ?_) fun _ _ x => x
    · show A.depth + 1 + d < _
      have := Cc.dep; omega
    · show A.units + 3 + 8 * d < _
      have := Cc.un; omega
    · obtain ⟨h1, h2⟩ := lookup_filter (hlx ▸ hq)
      obtain ⟨v, h3, h4⟩ := hl x q h1
      refine ⟨v, bindL_hit ?_ (zip_map_nodup hn) h3, h4⟩
      rcases (Bool.or_eq_true _ _).mp (List.all_eq_true.mp hloc x (List.of_mem_zip (mem_of_lookup h3)).1) with h | h
      · exact absurd (beq_iff_eq.mp h) h2
      · exact beq_iff_eq.mp h
    · obtain ⟨x, lm', c, hv, ⟨m', F₁, _⟩, N₁, same'⟩ := hr
      exact ⟨L', m', fn x, F₁, N₁, fun F₂ N₂ K₂ D₂ => hQ x _ s' c hv ⟨⟨m, F₂, hm⟩, N₂, ⟨same'.1.trans same.1, same'.2.1.trans same.2.1, same'.2.2.trans same.2.2⟩⟩ K₂ D₂⟩
end
section
variable {w : World} {A : Around} {env en : Env} {g : Heap} {d : Nat} {sc sc2 : Scope} {s₀ s : Shared} {lm : Lm} {news : Led} {x : Str} {pos xp px : Pos} {p : PV} {a : PySem.Expr} {i j : Int} {c : Addr} {o : Obj} {v : Value} {cl : List (Str × Addr)}
/-- names, wherever they are read -/
theorem Pu.cell (S : S1 g env s₀ s lm news) (hk : en.scope.kind = .function) (hx : en.kindOf x = some .cell) (hc : en.cells.lookup x = some c) (hm : (c, o) ∈ news) (hd : o.data = .cell (some v)) (hv : p.is v) (hb : (x == ("__debug__" : Str)) = false := by decide) : Pu w A en s (.Name x pos) p := fun _ _ tk h =>
  wpAny_Name (wpAny_loadName_cell (s := { s with toks := tk }) hk hx hc ⟨o, S.mem hm, hd⟩ (h v tk hv)) hb
theorem Pu.nsObj {m : Str → Option Value} (S : S1 g env s₀ s lm news) (hk : en.scope.kind = .function) (hx : en.kindOf x = some .local) (hm : (en.locals, o) ∈ news) (ho : LCg.NsObj o m) (he : m x = some v) (hv : p.is v) (hb : (x == ("__debug__" : Str)) = false := by decide) : Pu w A en s (.Name x pos) p := fun _ _ tk h =>
  wpAny_Name (wpAny_loadName_local (s := { s with toks := tk }) hk hx (ho.ns (S.mem hm)) he (h v tk hv)) hb
theorem Pu.globAny (C : Cx w A env g d sc) (S : S1 g env s₀ s lm news) (hg : nsIn (Mine.pre.heap_1 w.params) mainGlobals x = some (some v)) (hv : p.is v) (hk : en.scope.kind = .function) (hx : en.kindOf x = some .globalImplicit) (he : en.globals = mainGlobals) (hb : (x == ("__debug__" : Str)) = false := by decide) : Pu w A en s (.Name x pos) p := fun _ _ tk h => by
  obtain ⟨⟨m, F, _⟩, _⟩ := S
  obtain ⟨pp, loose, mean, mg, mb, outer, A₀, base, T, _⟩ := C.ctx
  have T := topRead_of T
  exact Calls.Name_function_global hk hx (Calls.loadGlobal_global (s := { s with toks := tk }) (by rw [he]; exact T.g.keeps F.keep) (mg_of C.X T.g hg) (h v tk hv)) hb
/-- `[x for x in a if ct]` over ints -/
theorem ev_filter {ct : PySem.Expr} {vs : List Value} {ns : List Int} {n : Nat} {pred : Int → Bool} (C : Cx w A env g d sc) (S : S1 g env s₀ s lm news) (hcl : closureFor sc2 env = pure cl) (hs : ∀ y, foldedSetIterable a env y = pure y) (ha : Pu w A env s a (.ref c)) (hm : (c, listOf vs.toArray n) ∈ news) (hi : IntsAre vs ns) (hz : vs.length ≤ 100000)
    (ht : ∀ k t I oI Ca oC m₂ s' nx, LCg.NsObj oC m₂ → m₂ x = some (.int k t) → S1 g env s₀ s' lm nx → (Ca, oC) ∈ nx → (∀ p ∈ news, p ∈ nx) → (I, oI) ∈ nx → Te w A (compEnvC sc2 cl Ca env) s' ct (pred k) ∧ Pu w A (compEnvC sc2 cl Ca env) s' (.Name x xp) (.int k))
    (hcell : ∀ y ∈ sc2.names, y.2 ≠ .cell := by decide) (hkind : sc2.kind = .function := by rfl) (hnames : ∀ y ∈ sc2.names, y.2 = .local → sc2.names.lookup y.1 = some .local := by decide) (hx : sc2.names.lookup x = some .local := by rfl) :
    Ev w A env g s₀ s lm (.ListComp (.Name x xp) [⟨.Name x px, a, [ct], 0⟩] sc2 pos) (fun (y : Addr × List Value) _ => IntsAre y.2 (ns.filter pred) ∧ ∀ p ∈ news, p.1 ≠ y.1) (fun y => .ref y.1) (fun y => (y.1, LCg.lst y.2) :: news) := fun Q E k => by
  obtain ⟨m, F, hlm⟩ := S.fr
  have N := S.N
  have same := S.same
  refine LCt.ListComp_T F hcl hcell hkind hnames hx (ha _ _ s.toks fun u tk hu => ?_) hs
  cases hu
  refine LCt.CompSrcT.ledger C.hand F N hm (by rw [List.size_toArray, sizeLine_eq]; omega) fun h2 => ?_
  refine kci_list (fun l k => if pred k then l ++ [k] else l) hi (fun k t I oI Ca oC D m₂ ys l h tk' E' hk hI hC hx' F' N' off ne _ => ?_) (fun ys hys hl => fun D h tk' F' N' off => k (D, ys) _ _ rfl ⟨?_, ?_⟩ ⟨⟨m, F', hlm⟩, N', same⟩) (fun l k => ?_)
  · have S' : S1 g env s₀ { s with heap := h, toks := tk' } lm ((I, oI) :: (Ca, oC) :: (D, LCg.lst ys) :: news) := ⟨⟨m, F', hlm⟩, N', same⟩
    obtain ⟨h1, h2⟩ := ht k t I oI Ca oC m₂ _ _ hC hx' S' (.tail _ (.head _)) (fun p hp => .tail _ (.tail _ (.tail _ hp))) (.head _)
    refine h1 _ _ tk' fun tk2 => ?_
    cases hp : pred k with
    | true => exact h2 _ _ tk2 fun v tk3 hv => ⟨h, tk3, news, rfl, F', N', off, .inr ⟨_, hm, rfl, _, rfl⟩, rfl, k, hv.choose, hv.choose_spec, by simp [hp]⟩
    | false => exact ⟨h, tk2, news, rfl, F', N', off, .inr ⟨_, hm, rfl, _, rfl⟩, rfl, by simp [hp]⟩
  · have e : ∀ (l : List Int) (r : List Int), l.foldl (fun l k => if pred k then l ++ [k] else l) r = r ++ l.filter pred := by
      intro l
      induction l with
      | nil => intro r; simp
      | cons k l ih =>
        intro r
        rw [List.foldl_cons, ih]
        by_cases h : pred k <;> simp [h]
    rw [e, List.nil_append] at hys
    exact hys
  · clear k F N hlm S hm ht F' N'
    induction news with
    | nil => intro p hp; cases hp
    | cons q r ih => intro p hp; rcases List.mem_cons.mp hp with rfl | hp; exact off.1; exact ih off.2 p hp
  · show (if _ then _ else _ : List Int).length ≤ _
    split <;> simp
end

section
variable {w : World} {A : Around} {env : Env} {g : Heap} {d : Nat} {sc : Scope} {s₀ s : Shared} {lm : Lm} {news : Led} {x : Str} {xpos pos pos' : Pos} {p q : PV} {a b e : PySem.Expr} {i j : Int} {α : Type} {Cy : α → Shared → Prop} {P : α → PV} {fn : α → Led} {la : α → Addr} {its : α → Array Value}
/-- what held somewhere -/
noncomputable abbrev Was {α : Type} (Cy : α → Shared → Prop) (y : α) (_ : Shared) : Prop := ∃ s', Cy y s'
theorem ev_len (C : Cx w A env g d sc) (S : S1 g env s₀ s lm news) (hg : nsIn (Mine.pre.heap_1 w.params) mainGlobals (Str.ofString "len") = some (Option.none : Option Value)) (hk : sc.names.lookup (Str.ofString "len") = some .globalImplicit) (ha : ∀ tk, Ev w A env g s₀ { s with toks := tk } lm a Cy (fun y => .ref (la y)) fn) (hl : ∀ y s', Cy y s' → S1 g env s₀ s' lm (fn y) → s'.heap.IsList (la y) (its y) ∧ (its y).size ≤ 100000)
    (h1 : starEach [a] env = (false, eval a env) :: starEach [] env) : Ev w A env g s₀ s lm (.Call (.Name (Str.ofString "len") xpos) [a] [] pos) (Was Cy) (fun y => .int ((its y).size : Nat)) fn := fun Q E k => by
  obtain ⟨⟨m, F, hm⟩, N, same⟩ := S
  obtain ⟨cn, L, a', ccd, cl, rfl⟩ := C.eX
  obtain ⟨pp, loose, mean, mg, mb, outer, A₀, base, T, _⟩ := C.ctx
  refine Call_ (nameX_B F C.X (topRead_of T) hg boot_len (by decide) ?_ C.kind hk (by decide))
  refine PyProof.Rows.callWith_builtin1 (args_cons (ha s.toks _ _ fun y v s' hv hc S' => args_nil ?_) h1) h1 rfl
  cases hv
  obtain ⟨h2, h3⟩ := hl y s' hc S'
  exact PySem.Calls.call_len_list h2 (by omega) (k y _ _ ⟨_, rfl⟩ ⟨s', hc⟩ (S'.tok _))
theorem Pu.len {l : Addr} {it : Array Value} (C : Cx w A env g d sc) (S : S1 g env s₀ s lm news) (hg : nsIn (Mine.pre.heap_1 w.params) mainGlobals (Str.ofString "len") = some (Option.none : Option Value)) (hk : sc.names.lookup (Str.ofString "len") = some .globalImplicit) (ha : Pu w A env s a (.ref l)) (hl : s.heap.IsList l it) (hz : it.size ≤ 100000)
    (h1 : starEach [a] env = (false, eval a env) :: starEach [] env) : Pu w A env s (.Call (.Name (Str.ofString "len") xpos) [a] [] pos) (.int (it.size : Nat)) := fun Q E tk k => by
  obtain ⟨⟨m, F, hm⟩, N, same⟩ := S
  obtain ⟨cn, L, a', ccd, cl, rfl⟩ := C.eX
  obtain ⟨pp, loose, mean, mg, mb, outer, A₀, base, T, _⟩ := C.ctx
  refine Call_ (nameX_B (s := { s with toks := tk }) F C.X (topRead_of T) hg boot_len (by decide) ?_ C.kind hk (by decide))
  refine PyProof.Rows.callWith_builtin1 (args_cons (ha _ _ tk fun v tk hv => args_nil ?_) h1) h1 rfl
  cases hv
  exact PySem.Calls.call_len_list (s := { s with toks := tk }) hl (by omega) (k _ _ ⟨_, rfl⟩)
theorem Pu.gt (ha : Pu w A env s a (.int i)) (hb : Pu w A env s b (.int j)) (hm : behindInMarks .Gt b = false) : Pu w A env s (.Compare a [.Gt] [b] pos) (.bool (decide (j < i))) := fun _ _ tk h =>
  wpAny_Compare1 (ha _ _ tk fun v tk1 hv => hb _ _ tk1 fun u tk2 hu => by obtain ⟨t, rfl⟩ := hv; obtain ⟨t', rfl⟩ := hu; exact gt_int (h _ _ rfl)) hm
/-- two lists of ints, one behind the other -/
theorem ev_addl {vs : α → List Value} {ns : List Int} (hE : Ev w A env g s₀ s lm a Cy (fun y => .ref (la y)) fn) (hl : ∀ y s', Cy y s' → (la y, LCg.lst (vs y)) ∈ fn y ∧ IntsAre (vs y) ns ∧ ns.length ≤ 100000)
    (hb : ∀ y s', Cy y s' → S1 g env s₀ s' lm (fn y) → Pu w A env s' b (.int i)) (h1 : starEach [b] env = (false, eval b env) :: starEach [] env) :
    Ev w A env g s₀ s lm (.BinOp a .Add (.List [b] pos') pos) (fun (y : α × Addr × List Value) s' => Was Cy y.1 s' ∧ IntsAre y.2.2 (ns ++ [i]) ∧ ∀ p ∈ fn y.1, p.1 ≠ y.2.1) (fun y => .ref y.2.1) (fun y => (y.2.1, listOf y.2.2.toArray 0) :: fn y.1) := fun Q E k =>
  wpAny_BinOp (hE _ _ fun y v s' hv hc S => ev_list (ps := [.int i]) S (by exact ⟨_, _, rfl, hb y s' hc S, h1, rfl⟩) (Nat.le_of_ble_eq_true rfl) _ _ fun y2 v2 s2 hv2 hc2 S2 => by
    obtain ⟨D2, ws⟩ := y2
    obtain ⟨⟨wv, _, rfl, ⟨t, rfl⟩, rfl⟩, hn⟩ := hc2
    cases hv; cases hv2
    obtain ⟨z1, z2, z3⟩ := hl y s' hc
    have z4 : s2.heap.IsList (la y) (vs y).toArray := ⟨_, S2.mem (.tail _ z1), rfl, _, rfl⟩
    obtain ⟨⟨m, F, hm⟩, N, same⟩ := S2
    refine kmk_add_ints F N z4 ⟨_, (N _ (.head _)).1, rfl, _, rfl⟩ z2 (.cons i t .nil) (fun D us h' F' N' hlt hi => k (y, D, us) _ _ rfl ⟨⟨_, hc⟩, hi, fun p hp e => Nat.ne_of_lt (hlt p (.tail _ hp)) e⟩ ⟨⟨m, F', hm⟩, cb_drop N' fun p hp => ?_, same⟩) (by rw [sizeLine_eq]; show _ + 1 ≤ _; omega)
    rcases List.mem_cons.mp hp with rfl | hp
    · exact .head _
    · exact .tail _ (.tail _ hp))
end

theorem Cx.under {w : World} {A : Around} {env : Env} {g : Heap} {d d' : Nat} {sc : Scope} {K : Addr} {vs : List Value} (C : Cx w A env g d sc) (h : d' + 1 ≤ d) : Cx w (A.under (.builtin "type.__call__" ⟨.ref K :: vs, []⟩)) env g d' sc :=
  ⟨C.eX, C.kind, C.hand, C.X, by
    obtain ⟨p, loose, mean, mg, mb, outer, A₀, base, T, B, hA⟩ := C.ctx
    exact ⟨p, loose, mean, mg, mb, outer, A₀, base, T, B, (by unfold Around.under; rw [hA]; rfl)⟩, by
    have := C.dep
    show A.depth + 1 + d' < _
    omega, by
    have := C.un
    show A.units + 1 + 8 * d' < _
    omega⟩
section
variable {w : World} {A : Around} {env : Env} {g : Heap} {d d' : Nat} {sc : Scope} {s₀ s : Shared} {lm : Lm} {all news : Led} {x : Str} {xpos pos : Pos} {ps : List PV} {e : PySem.Expr} {es : List PySem.Expr} {K fI : Addr} {β : Type} {Cc : Addr → Addr → β → Prop} {fn : Addr → Addr → β → Led}
/-- what is known behind the making of an object -/
noncomputable def Mk (news all : Led) (Cc : Addr → Addr → β → Prop) (fn : Addr → Addr → β → Led) (y : Addr × Addr × β) : Prop :=
  Cc y.1 y.2.1 y.2.2 ∧ (∀ p ∈ all, p.1 < y.2.1) ∧ @LT.lt Nat _ y.2.1 y.1 ∧ ∀ p ∈ fn y.1 y.2.1 y.2.2, p.1 ∈ news.map (·.1) ∨ ∀ q ∈ all, q.1 ≠ p.1
theorem ev_cls (Sp : ∀ x dx, @LT.lt Nat _ dx x → (∀ p ∈ news, p.1 < dx) → SpecV w d' fI (.ref x :: ps) [] ((x, instObj K dx) :: (dx, dictOf [] 0) :: news) (Cc x dx) (fun _ => .none) (fn x dx)) (C : Cx w A env g d sc) (hdd : d' + 1 ≤ d) (S : S1 g env s₀ s lm all) (hm : makesIn (Mine.pre.heap_1 w.params) K = true) (hi : findIn (Mine.pre.heap_1 w.params) (.ref K) "__init__" = some (some (.ref fI))) (hf : isFn (Mine.pre.heap_1 w.params) (.ref fI) = true)
    (hg : nsIn (Mine.pre.heap_1 w.params) mainGlobals x = some (some (.ref K))) (hk : sc.names.lookup x = some .globalImplicit) (hkeep : keepIn (Mine.pre.heap_1 w.params) (.ref K) = true) (hargs : PuL w A env s (e :: es) ps) (hplain : ∀ en, (backTo pos (starEach es en)).any (·.1) = false)
    (rest : Led) (sub : ∀ p ∈ news, p ∈ all) (hr : ∀ p ∈ rest, p ∈ all) (off : ∀ p ∈ rest, p.1 ∉ news.map (·.1)) (hdb : (x == ("__debug__" : Str)) = false := by decide) :
    Ev w A env g s₀ s lm (.Call (.Name x xpos) (e :: es) [] pos) (fun y _ => Mk news all Cc fn y) (fun y => .ref y.1) (fun y => fn y.1 y.2.1 y.2.2 ++ rest) := fun Q E k => by
  refine Call_ (Pu.glob (p := .ref K) C S hg rfl hk hdb _ _ s.toks fun u tk hu => ?_)
  cases hu
  obtain ⟨⟨m, F, hlm⟩, N, same⟩ := id S
  refine callWith_K C.X hkeep (hargs.go fun vs tk' hvs => ⟨C.X.keeps F.keep, ?_⟩) hargs.choose_spec.choose_spec.2.2.1 (hplain env)
  refine call_cls (s := { s with toks := tk' }) F C.X N hm hi hf fun x dx h' F' N' hlt hxd => ?_
  have S' : S1 g env s₀ { s with heap := h', toks := tk' } lm ((x, instObj K dx) :: (dx, dictOf [] 0) :: all) := ⟨⟨m, F', hlm⟩, N', same⟩
  have hxd' : ∀ p ∈ all, p.1 < x := fun p hp => Nat.lt_trans (hlt p hp) hxd
  refine Sp x dx hxd (fun p hp => hlt p (sub p hp)) _ env g sc lm s₀ _ _ _ (C.under hdd) (S'.led fun p hp => ?_) ⟨.ref x, vs, rfl, rfl, hvs⟩ (fun _ h => nomatch h) fun y v s'' hc hv S'' K' D' => ⟨hv, k (x, dx, y) _ s'' rfl ⟨hc, hlt, hxd, fun p hp => ?_⟩ ⟨S''.fr, fun p hp => (List.mem_append.mp hp).elim (S''.N p) fun hp => ?_, S''.same⟩⟩
  · rcases List.mem_cons.mp hp with rfl | hp
    · exact .head _
    · rcases List.mem_cons.mp hp with rfl | hp
      · exact .tail _ (.head _)
      · exact .tail _ (.tail _ (sub p hp))
  · rcases D' p hp with h | h
    · rcases List.mem_cons.mp h with h | h
      · exact .inr fun q hq => h ▸ Nat.ne_of_lt (hxd' q hq)
      · rcases List.mem_cons.mp h with h | h
        · exact .inr fun q hq => h ▸ Nat.ne_of_lt (hlt q hq)
        · exact .inl h
    · exact .inr fun q hq z => by
        have := (N' q (.tail _ (.tail _ hq))).1
        rw [z] at this; exact absurd (h.symm.trans this) (fun e => nomatch e)
  · have z := N' p (.tail _ (.tail _ (hr p hp)))
    refine ⟨K' _ _ z.1 fun h => ?_, z.2⟩
    rcases List.mem_cons.mp h with h | h
    · exact Nat.ne_of_lt (hxd' p (hr p hp)) h
    · rcases List.mem_cons.mp h with h | h
      · exact Nat.ne_of_lt (hlt p (hr p hp)) h
      · exact off p hp h
end

/-- a dict with (int, text) keys, its keys' tuples apart -/
noncomputable def KD (w : World) (o : Obj) (KT : Led) (xs : TXs) : Prop :=
  (∃ es ep, o.ExactDict ∧ o.data = .dict es ep ∧ es.toList = xs.map (entryOfKey (PK w)) ∧ (xs.map (·.1)).Nodup) ∧ ∀ x ∈ xs, ∃ k q, x.1 = mk k ∧ KeyObj k q ∧ (x.2.1, q) ∈ KT
theorem KD.at {w : World} {o : Obj} {KT : Led} {xs : TXs} (K : KD w o KT xs) {h : Heap} {D : Addr} (hD : h.get? D = some o) (hk : ∀ p ∈ KT, h.get? p.1 = some p.2) : h.DictOfH (PK w) D xs := by
  obtain ⟨⟨es, ep, h1, h2, h3, h4⟩, h5⟩ := K
  refine ⟨o, es, ep, hD, h1, h2, h3, fun x hx => ?_, h4⟩
  obtain ⟨k, q, e, hq, hm⟩ := h5 x hx
  rw [e]; exact hq.is (hk _ hm)
section
variable {w : World} {A : Around} {env : Env} {g : Heap} {d : Nat} {sc : Scope} {s₀ s : Shared} {lm : Lm} {news KT : Led} {D T : Addr} {o : Obj} {xs : TXs} {i : Int} {x : Str} {t u : Tok} {v : Value} {pos : Pos}
theorem KD.td (K : KD w o KT xs) (lo : (D == sysModules) = false) (hm : (D, o) ∈ news) (hk : ∀ p ∈ KT, p ∈ news) : TD w g news D xs :=
  ⟨lo, (D, o) :: KT, List.forall_mem_cons.mpr ⟨.inr hm, fun p hp => .inr (hk p hp)⟩, fun _ h => K.at (h _ (.head _)) fun p hp => h p (.tail _ hp)⟩
theorem ev_dict0 (C : Cx w A env g d sc) (S : S1 g env s₀ s lm news) : Ev w A env g s₀ s lm (.Dict [] [] pos) (fun (y : Addr × Obj) _ => Dct w y.2 [] ∧ DctK (PySem.intKind PR w) y.2 [] ∧ KD w y.2 [] [] ∧ (y.1 == sysModules) = false ∧ s.heap.get? y.1 = none) (fun y => .ref y.1) (fun y => (y.1, y.2) :: news) := fun Q E k => by
  obtain ⟨⟨m, F, hm⟩, N, same⟩ := S
  obtain ⟨p, loose, mean, mg, mb, outer, A₀, base, T, B, hA⟩ := C.ctx
  refine Dict_empty_made2 F N (modules_low T.nolimit) fun h' o F' N' lo a _ c _ hn => k (_, o) _ _ rfl ⟨⟨[], a, rfl⟩, ⟨[], c, rfl⟩, ⟨?_, fun _ h => nomatch h⟩, lo, Heap.get?_none_of_le (Nat.le_refl _)⟩ ⟨⟨m, F', hm⟩, N', same⟩
  obtain ⟨es, ep, h1, h2, _, h4, _⟩ := a
  refine ⟨es, ep, h1, h2, ?_, List.nodup_nil⟩
  generalize es.toList = l at h4
  cases h4; rfl
theorem set_T {gg : Obj → Led} {Q : Unit → Shared → Prop} {E : Value → Shared → Prop} (C : Cx w A env g d sc) (h1 : 1 ≤ d) (S : S1 g env s₀ s lm ((T, tupObj i t x u) :: news)) (K : KD w o KT xs) (U : UpdF D o ((T, tupObj i t x u) :: news) gg) (hk : ∀ p ∈ KT, p ∈ news) (hn : atKey xs (mk (i, x)) = none) (hz : xs.length ≤ 100)
    (k : ∀ s' o', S1 g env s₀ s' lm (gg o') → KD w o' ((T, tupObj i t x u) :: KT) (xs ++ [(mk (i, x), T, v)]) → Q () s') : wpAny (model PR w) A (setItem (.ref D) (.ref T) v) Q E s := by
  obtain ⟨⟨m, F, hm⟩, N, same⟩ := id S
  obtain ⟨pre, post, e, e2, h3, h4⟩ := U.split
  have hD : (D, o) ∈ (T, tupObj i t x u) :: news := by rw [e]; simp
  have z := N _ hD
  refine wpAny_setItem_heap (knd := PK w) (k := mk (i, x)) (C.unit h1) (key_is S) (K.at z.1 fun p hp => S.mem (.tail _ (hk p hp))) (fun h' hd hs => ?_) (by rw [sizeLine_eq]; omega)
  rw [storedH_new hn] at hd
  obtain ⟨o', es, ep, q1, q2, q3, q4, q5, q6⟩ := hd
  refine k _ o' ⟨⟨m, F.change hs z.2.1 z.2.2, hm⟩, ?_, same⟩ ⟨⟨es, ep, q2, q3, q4, q6⟩, fun y hy => ?_⟩
  · rw [e2]; rw [e] at N; exact news_set N h3 h4 hs q1
  · rcases List.mem_append.mp hy with hy | hy
    · obtain ⟨k, q, r1, r2, r3⟩ := K.2 y hy
      exact ⟨k, q, r1, r2, .tail _ r3⟩
    · rw [List.mem_singleton.mp hy]
      exact ⟨(i, x), _, rfl, ⟨t, u, rfl⟩, .head _⟩
end

noncomputable abbrev bktL (rate burst grains time : Int) : Lm := [(Str.ofString "rate", .int rate), (Str.ofString "burst", .int burst), (Str.ofString "grains", .int grains), (Str.ofString "time", .int time)]
theorem fill_v (w : World) (bx bd : Addr) (hne : @Ne Nat bx bd) (rate burst grains time now : Int) (o : Obj) (ho : Dct w o (bktL rate burst grains time)) (h1 : 0 ≤ rate) (h2 : rate ≤ 1000) (h4 : time ≤ now) :
    SpecV w 1 82 [.ref bx, .int now] [] [(bx, instObj 127 bd), (bd, o)] (fun (x : Int × Obj) => Dct w x.2 (bktL rate burst (fillG rate burst grains time now) now)) (fun x => .int x.1) (fun x => [(bx, instObj 127 bd), (bd, x.2)]) := by
  refine specV_of [Str.ofString "self", Str.ofString "now"] [] [] rfl (by k_is) (by k_is) (by decide) (fun vs s hvs hX => ?_) (by decide) rfl rfl rfl (by decide) fun A env g s Q E pE hQ C S hpre lt => ?_
  · obtain ⟨_, _, rfl⟩ := hvs.two; exact BindsTo.of_eq rfl
  refine r_if (Te.le (Pu.name C S rfl rfl rfl) (Pu.attr C S (Pu.name C S rfl rfl rfl) (S.inst (by k_mem) (by k_mem)) ho rfl (at127_time w)) rfl) S (fun q s S _ => ?_) fun q s S _ => ?_
  · exact r_ret (Pu.int.ev S) fun y v s' hv hc S' => hQ _ _ ⟨(0, o), _, by rw [show fillG rate burst grains time now = grains from if_pos (of_decide_eq_true q), show now = time from Int.le_antisymm (of_decide_eq_true q) h4]; exact ho, hv, S'⟩
  refine r_end ?_
  have I := S.inst (a := bx) (K := 127) (o := o) (by k_mem) (by k_mem)
  refine r_set C (Pu.ev (Pu.add (Pu.attr C S (Pu.name C S rfl rfl rfl) I ho rfl (at127_grains w)) (Pu.mul (Pu.attr C S (Pu.name C S rfl rfl rfl) I ho rfl (at127_rate w)) (Pu.sub (Pu.name C S rfl rfl rfl) (Pu.attr C S (Pu.name C S rfl rfl rfl) I ho rfl (at127_time w))) (mul_l h1 h2))) S) rfl (fun _ => rfl) fun _ _ s _ S _ => ?_
  refine r_attr C (Pu.ev (Pu.name C S rfl rfl rfl) S) rfl rfl (by k_mem) (.tail hne (.head fun _ h => nomatch h)) ho (st127_time w) (Nat.le_of_ble_eq_true rfl) (fun _ => rfl) fun _ _ s o1 _ S ho1 => ?_
  have I := S.inst (a := bx) (K := 127) (o := o1) (by k_mem) (by k_mem)
  refine r_attr C (ev_min C S (by k_is) rfl (Pu.name C S rfl rfl rfl) (Pu.mul (Pu.attr C S (Pu.name C S rfl rfl rfl) I ho1 rfl (at127_burst w)) (Pu.glob C S (by k_is) ⟨_, rfl⟩ rfl rfl) mul_100) (fun _ => rfl) (fun _ => rfl)) rfl rfl (by k_mem) (.tail hne (.head fun _ h => nomatch h)) ho1 (st127_grains w) (Nat.le_of_ble_eq_true rfl) (fun _ => rfl) fun _ _ s o2 _ S ho2 => ?_
  refine r_ret (Pu.ev (Pu.sub (Pu.name C S rfl rfl rfl) (Pu.attr C S (Pu.name C S rfl rfl rfl) (S.inst (by k_mem) (by k_mem)) ho2 rfl (at127_grains w))) S) fun y v s' hv hc S' => hQ _ _ ⟨(_, o2), _, ?_, hv, S'⟩
  rw [show fillG rate burst grains time now = _ from if_neg (of_decide_eq_false q)]; exact ho2
theorem has_v (w : World) (bx bd : Addr) (hne : @Ne Nat bx bd) (rate burst grains time size now : Int) (o : Obj) (ho : Dct w o (bktL rate burst grains time)) (h1 : 0 ≤ rate) (h2 : rate ≤ 1000) (h4 : time ≤ now) :
    SpecV w 2 96 [.ref bx, .int size, .int now] [] [(bx, instObj 127 bd), (bd, o)] (fun x => Dct w x (bktL rate burst (fillG rate burst grains time now) now)) (fun _ => .bool (decide (size * 100 ≤ fillG rate burst grains time now))) (fun x => [(bx, instObj 127 bd), (bd, x)]) := by
  refine specV_of [Str.ofString "self", Str.ofString "size", Str.ofString "now"] [] [] rfl (by k_is) (by k_is) (by decide) (fun vs s hvs hX => ?_) (by decide) rfl rfl rfl (by decide) fun A env g s Q E pE hQ C S hpre lt => ?_
  · obtain ⟨_, _, _, rfl⟩ := hvs.three; exact BindsTo.of_eq rfl
  refine r_expr C (ev_meth (fill_v w bx bd hne rate burst grains time now o ho h1 h2 h4) C (Nat.le_refl _) S (Pu.name C S rfl rfl rfl) (S.inst (by k_mem) (by k_mem)) ho rfl (me127_fill w) (by exact ⟨_, _, rfl, (Pu.name C S rfl rfl rfl), rfl, rfl⟩) (fun _ => rfl) (fun _ => ⟨_, rfl⟩) [] (by kcj_all) (by kcj_all) (by kcj_all) (by kcj_all)) (fun _ => rfl) fun y s B S => ?_
  exact r_ret (Pu.ev (Pu.ge (Pu.attr C S (Pu.name C S rfl rfl rfl) (S.inst (by k_mem) (by k_mem)) B.c rfl (at127_grains w)) (Pu.mul (Pu.name C S rfl rfl rfl) (Pu.glob C S (by k_is) ⟨_, rfl⟩ rfl rfl) mul_100) rfl) S) fun _ v s' hv hc S' => hQ _ _ ⟨y.2, _, B.c, hv, S'⟩
noncomputable abbrev bkLed (bx bd : Addr) (o : Obj) : Led := [(bx, instObj 127 bd), (bd, o)]
theorem spend_v (w : World) (bx bd : Addr) (hne : @Ne Nat bx bd) (rate burst grains time size : Int) (o : Obj) (ho : Dct w o (bktL rate burst grains time)) :
    SpecV w 1 103 [.ref bx, .int size] [] (bkLed bx bd o) (fun x => Dct w x (bktL rate burst (grains - size * 100) time)) (fun _ => .none) (fun x => bkLed bx bd x) := by
  refine specV_of [Str.ofString "self", Str.ofString "size"] [] [] rfl (by k_is) (by k_is) (by decide) (fun vs s hvs hX => ?_) (by decide) rfl rfl rfl (by decide) fun A env g s Q E pE hQ C S hpre lt => ?_
  · obtain ⟨_, _, rfl⟩ := hvs.two; exact BindsTo.of_eq rfl
  refine r_attr C (Pu.ev (Pu.sub (Pu.attr C S (Pu.name C S rfl rfl rfl) (S.inst (by k_mem) (by k_mem)) ho rfl (at127_grains w)) (Pu.mul (Pu.name C S rfl rfl rfl) (Pu.glob C S (by k_is) ⟨_, rfl⟩ rfl rfl) mul_100)) S) rfl rfl (by k_mem) (.tail hne (.head fun _ h => nomatch h)) ho (st127_grains w) (Nat.le_of_ble_eq_true rfl) (fun _ => rfl) fun _ _ s o2 _ S ho2 => r_end (hQ _ _ ⟨o2, _, ho2, rfl, S⟩)
theorem take_v (w : World) (bx bd : Addr) (hne : @Ne Nat bx bd) (rate burst grains time size now : Int) (o : Obj) (ho : Dct w o (bktL rate burst grains time)) (h1 : 0 ≤ rate) (h2 : rate ≤ 1000) (h4 : time ≤ now) :
    SpecV w 3 110 [.ref bx, .int size, .int now] [] (bkLed bx bd o) (fun x => Dct w x (bktL rate burst (takeG size (fillG rate burst grains time now)) now)) (fun _ => .bool (decide (size * 100 ≤ fillG rate burst grains time now))) (fun x => bkLed bx bd x) := by
  refine specV_of [Str.ofString "self", Str.ofString "size", Str.ofString "now"] [] [] rfl (by k_is) (by k_is) (by decide) (fun vs s hvs hX => ?_) (by decide) rfl rfl rfl (by decide) fun A env g s Q E pE hQ C S hpre lt => ?_
  · obtain ⟨_, _, _, rfl⟩ := hvs.three; exact BindsTo.of_eq rfl
  refine r_ifE (TEv.not (TEv.call (ev_meth (has_v w bx bd hne rate burst grains time size now o ho h1 h2 h4) C (Nat.le_refl _) S (Pu.name C S rfl rfl rfl) (S.inst (by k_mem) (by k_mem)) ho rfl (me127_has w) (by exact ⟨_, _, rfl, (Pu.name C S rfl rfl rfl), rfl, _, _, rfl, (Pu.name C S rfl rfl rfl), rfl, rfl⟩) (fun _ => rfl) (fun _ => ⟨_, rfl⟩) [] (by kcj_all) (by kcj_all) (by kcj_all) (by kcj_all)))) (fun o1 s q B S => ?_) fun o1 s q B S => ?_
  · have q := of_decide_eq_false (by simpa only [Bool.not_eq_true'] using q)
    exact r_ret (Pu.bool.ev S) fun _ v s' hv hc S' => hQ _ _ ⟨o1, _, by rw [show takeG size _ = _ from if_neg q]; exact B.c, by rw [decide_eq_false q]; exact hv, S'⟩
  have q := of_decide_eq_true (by simpa only [Bool.not_eq_false'] using q)
  refine r_end ?_
  refine r_expr C (ev_meth (spend_v w bx bd hne rate burst _ now size o1 B.c) C (Nat.le_of_ble_eq_true rfl) S (Pu.name C S rfl rfl rfl) (S.inst (by k_mem) (by k_mem)) B.c rfl (me127_spend w) (by exact ⟨_, _, rfl, (Pu.name C S rfl rfl rfl), rfl, rfl⟩) (fun _ => rfl) (fun _ => ⟨_, rfl⟩) [] (by kcj_all) (by kcj_all) (by kcj_all) (by kcj_all)) (fun _ => rfl) fun o2 s B2 S => ?_
  exact r_ret (Pu.bool.ev S) fun _ v s' hv hc S' => hQ _ _ ⟨o2, _, by rw [show takeG size _ = _ from if_pos q]; exact B2.c, by rw [decide_eq_true q]; exact hv, S'⟩
noncomputable def moP : Option Int → PV
  | none => .none
  | some i => .int i
noncomputable abbrev rowL (k : Key) (fr : Bool) (mo : Option Int) (bx tl : Addr) (cnt : Int) : Lm := [(Str.ofString "port", .int k.1), (Str.ofString "kind", .str k.2), (Str.ofString "is_by_frames", .bool fr), (Str.ofString "most", moP mo), (Str.ofString "bucket", .ref bx), (Str.ofString "times", .ref tl), (Str.ofString "dropped", .int cnt)]
noncomputable def costF (fr : Bool) (size : Int) : Int := if fr = true then 1 else size
noncomputable abbrev rwLed (rx rd : Addr) (o : Obj) : Led := [(rx, instObj 162 rd), (rd, o)]
theorem lets_v (w : World) (rx rd bx bd tl : Addr) (k : Key) (fr : Bool) (mo : Option Int) (cnt : Int) (rate burst grains time size now : Int) (or o : Obj) (hnd : ND (bkLed bx bd o ++ rwLed rx rd or)) (hr : Dct w or (rowL k fr mo bx tl cnt)) (ho : Dct w o (bktL rate burst grains time)) (h1 : 0 ≤ rate) (h2 : rate ≤ 1000) (h4 : time ≤ now) :
    SpecV w 4 154 [.ref rx, .int size, .int now] [] (bkLed bx bd o ++ rwLed rx rd or) (fun x => Dct w x (bktL rate burst (takeG (costF fr size) (fillG rate burst grains time now)) now)) (fun _ => .bool (decide (costF fr size * 100 ≤ fillG rate burst grains time now))) (fun x => bkLed bx bd x ++ rwLed rx rd or) := by
  refine specV_of [Str.ofString "self", Str.ofString "size", Str.ofString "now"] [] [] rfl (by k_is) (by k_is) (by decide) (fun vs s hvs hX => ?_) (by decide) rfl rfl rfl (by decide) fun A env g s Q E pE hQ C S hpre lt => ?_
  · obtain ⟨_, _, _, rfl⟩ := hvs.three; exact BindsTo.of_eq rfl
  have I := S.inst (a := rx) (K := 162) (o := or) (by k_mem) (by k_mem)
  exact r_ret (ev_meth (take_v w bx bd hnd.ne rate burst grains time (costF fr size) now o ho h1 h2 h4) C (Nat.le_refl _) S (Pu.attr C S (Pu.name C S rfl rfl rfl) I hr rfl (at162_bucket w)) (S.inst (by k_mem) (by k_mem)) ho rfl (me127_take w)
    (by exact ⟨_, _, rfl, Pu.ifx (Te.plain (Pu.attr C S (Pu.name C S rfl rfl rfl) I hr rfl (at162_is_by_frames w)) (fun _ _ => rfl)) (fun h => by rw [show costF fr size = _ from if_pos h]; exact Pu.int) (fun h => by rw [show costF fr size = size from if_neg (by rw [h]; decide)]; exact (Pu.name C S rfl rfl rfl)), rfl, _, _, rfl, (Pu.name C S rfl rfl rfl), rfl, rfl⟩) (fun _ => rfl) (fun _ => ⟨_, rfl⟩) (rwLed rx rd or) (by kcj_all) (by kcj_all) hnd.off (by kcj_all)) fun y v s' hv B S' => hQ _ _ ⟨y, _, B.c, hv, S'⟩

theorem Pu.evT {w : World} {A : Around} {env : Env} {g : Heap} {s₀ s : Shared} {lm : Lm} {news : Led} {e : PySem.Expr} {p : PV} (h : Pu w A env s e p) (S : S1 g env s₀ s lm news) : Ev w A env g s₀ s lm e (fun (_ : Unit) _ => True) (fun _ => p) (fun _ => news) := fun Q E k => h Q E s.toks fun v tk' hv => k () v _ hv trivial (S.tok tk')
noncomputable def timesF (mo : Option Int) (now : Int) (ns : List Int) : List Int := match mo with | none => ns | some _ => lastOf now ns ++ [now]
theorem note_v (w : World) (rx rd bx tl : Addr) (k : Key) (fr : Bool) (mo : Option Int) (cnt now : Int) (o : Obj) (vs : List Value) (n : Nat) (ns : List Int) (hnd : ND (rwLed rx rd o ++ [(tl, listOf vs.toArray n)])) (ho : Dct w o (rowL k fr mo bx tl cnt)) (hv : IntsAre vs ns) (hlen : ns.length ≤ 1000) :
    SpecV w 1 159 [.ref rx, .int now] [] (rwLed rx rd o ++ [(tl, listOf vs.toArray n)]) (fun (y : Obj × Addr × List Value × Nat) => Dct w y.1 (rowL k fr mo bx y.2.1 (cnt + 1)) ∧ IntsAre y.2.2.1 (timesF mo now ns) ∧ ND (rwLed rx rd y.1 ++ [(y.2.1, listOf y.2.2.1.toArray y.2.2.2)]))
      (fun _ => .bool (overB mo (lastOf now ns ++ [now]).length)) (fun y => rwLed rx rd y.1 ++ [(y.2.1, listOf y.2.2.1.toArray y.2.2.2)]) := by
  refine specV_ofC [Str.ofString "self", Str.ofString "now"] [(Str.ofString "self", .ref rx)] (Str.ofString "now") (.int now) (by k_is) (by k_is) (by decide) (fun vs s hvs hX => ?_) (by decide) (fun _ => rfl) rfl rfl rfl rfl rfl rfl fun A env g s Q E c oc v pE hQ C he hoc hpv S hoff _ lt => ?_
  · obtain ⟨_, _, rfl⟩ := hvs.two; exact BindsTo.of_eq rfl
  obtain ⟨cn, L, a, ccd, rfl⟩ := he
  have n1 : @Ne Nat rx rd := hnd.ne
  have n2 : @Ne Nat tl rd := fun e => (hnd.off (a := rwLed rx rd o)) _ (.head _) (by rw [e]; exact .tail _ (.head _))
  have n3 : @Ne Nat c rd := fun e => hoff _ (.tail _ (.head _)) e.symm
  refine r_attr C (Pu.ev (Pu.add (Pu.attr C S (Pu.name C S rfl rfl rfl) (S.inst (by k_mem) (by k_mem)) ho rfl (at162_dropped w)) Pu.int) S) rfl rfl (by k_mem) (.tail n3 (.tail n1 (.head fun p hp e => n2 (by rw [List.mem_singleton.mp hp] at e; exact e)))) ho (st162_dropped w) (Nat.le_of_ble_eq_true rfl) (fun _ => rfl) fun _ _ s o1 _ S ho1 => ?_
  have I := S.inst (a := rx) (K := 162) (o := o1) (by k_mem) (by k_mem)
  refine r_if (Te.isNone (Pu.attr C S (Pu.name C S rfl rfl rfl) I ho1 rfl (at162_most w))) S (fun q s S _ => ?_) fun q s S _ => ?_
  · cases mo with
    | some i => cases q
    | none => exact r_ret (Pu.bool.ev S) fun _ v s' hv' hc S' => hQ _ _ ⟨(o1, tl, vs, n), _, ⟨ho1, hv, hnd.same rfl⟩, hv', S'.led (by kcj_all)⟩
  refine r_end ?_
  cases mo with
  | none => cases q
  | some i =>
    have I := S.inst (a := rx) (K := 162) (o := o1) (by k_mem) (by k_mem)
    have hl := hv.length
    refine r_attrE (o := o1) (gg := fun y o' => (y.2.1, listOf y.2.2.toArray 0) :: (y.1.1, LCg.lst y.1.2) :: (c, oc) :: (rx, instObj 162 rd) :: (rd, o') :: [(tl, listOf vs.toArray n)]) C (ev_addl (i := now) (ns := lastOf now ns) (ev_filter (pred := fun k => decide (now - k < 100)) (cl := [(Str.ofString "now", c)]) C S (by with_unfolding_all rfl) (fun _ => rfl) (Pu.attr C S (Pu.name C S rfl rfl rfl) I ho1 rfl (at162_times w)) (by k_mem) hv (by omega) (fun k t I oI Ca oC m₂ s' nx hC hx S' hm hsub _ => ?_))
      (fun y s' hc => ⟨.head _, hc.1, Nat.le_trans (List.length_filter_le _ _) (Nat.le_trans hlen (by decide))⟩) (fun y s' hc S' => Pu.cell S' rfl rfl rfl (by k_mem) hoc hpv) rfl) (fun y s' hc S => (Pu.evT (Pu.name C S rfl rfl rfl) S)) (fun y => (by k_mem)) (fun y s' hc S' => ?_) ho1 (st162_times w) (Nat.le_of_ble_eq_true rfl) (fun _ => rfl) fun y s' s'' o2 hc S ho2 => ?_
    · exact ⟨Te.lt (Pu.sub (Pu.cell S' rfl rfl rfl (hsub _ (.head _)) hoc hpv) (Pu.nsObj S' rfl rfl hm hC hx ⟨t, rfl⟩)) (Pu.globAny C S' (by k_is) ⟨_, rfl⟩ rfl rfl rfl) rfl, Pu.nsObj S' rfl rfl hm hC hx ⟨t, rfl⟩⟩
    · exact .tail (fun e => hc.2.2 _ (.tail _ (.tail _ (.tail _ (.head _)))) e.symm) (.tail (fun e => hc.1.choose_spec.2 _ (.tail _ (.tail _ (.head _))) e.symm) (.tail n3 (.tail n1 (.head fun p hp e => n2 (by rw [List.mem_singleton.mp hp] at e; exact e)))))
    · have hi : IntsAre y.2.2 (lastOf now ns ++ [now]) := hc.2.1
      have hl2 := hi.length
      have hl3 : (lastOf now ns).length ≤ ns.length := List.length_filter_le _ _
      rw [List.length_append] at hl2
      have hz : y.2.2.toArray.size ≤ 100000 := by rw [List.size_toArray]; simp only [List.length_cons, List.length_nil] at hl2; omega
      refine r_ret (Pu.ev (Pu.gt (Pu.len C S (by k_is) rfl (Pu.attr C S (Pu.name C S rfl rfl rfl) (S.inst (by k_mem) (by k_mem)) ho2 rfl (at162_times w)) ⟨_, S.mem (.head _), rfl, _, rfl⟩ hz rfl) (Pu.attr C S (Pu.name C S rfl rfl rfl) (S.inst (by k_mem) (by k_mem)) ho2 rfl (at162_most w)) rfl) S) fun _ v s3 hv' hc3 S3 => hQ _ _ ⟨(o2, y.2.1, y.2.2, 0), _, ⟨ho2, hi, ?_⟩, ?_, S3.led (by kcj_all)⟩
      · refine List.nodup_cons.mpr ⟨fun h => ?_, List.nodup_cons.mpr ⟨fun h => ?_, List.nodup_cons.mpr ⟨(fun h => nomatch h), List.nodup_nil⟩⟩⟩
        · rcases List.mem_cons.mp h with h | h
          · exact n1 h
          · exact hc.2.2 _ (.tail _ (.tail _ (.head _))) (List.mem_singleton.mp h)
        · exact hc.2.2 _ (.tail _ (.tail _ (.tail _ (.head _)))) (List.mem_singleton.mp h)
      · rw [List.size_toArray, hi.length] at hv'; exact hv'

/-- what both sides know of a row -/
structure Rw where
  rate : Int
  burst : Int
  grains : Int
  time : Int
  fr : Bool
  mo : Option Int
  cnt : Int
  tc : List Int
  to : List Int
/-- a row of either side: its dict, its list of times, and more -/
structure En where
  d : Addr
  o : Obj
  t : Addr
  vs : List Value
  n : Nat
  x : Led
noncomputable def En.led (e : En) : Led := (e.d, e.o) :: (e.t, listOf e.vs.toArray e.n) :: e.x
noncomputable def En.ad (e : En) : Addr := match e.x with | [] => e.d | q :: _ => q.1
noncomputable abbrev Es := List (Key × En)
noncomputable def updK : Es → Key → En → Es
  | [], _, _ => []
  | q :: r, k, b => if q.1 = k then (k, b) :: r else q :: updK r k b
theorem updK_split {k : Key} {e : En} {es : Es} (h : es.lookup k = some e) : ∃ pre post, es = pre ++ (k, e) :: post ∧ ∀ e', updK es k e' = pre ++ (k, e') :: post := by
  induction es with
  | nil => cases h
  | cons q r ih =>
    rw [List.lookup_cons] at h
    by_cases c : k = q.1
    · rw [beq_iff_eq.mpr c] at h; cases h
      exact ⟨[], r, by rw [c]; rfl, fun e' => if_pos c.symm⟩
    · rw [beq_eq_false_iff_ne.mpr c] at h
      obtain ⟨pre, post, h1, h2⟩ := ih h
      exact ⟨q :: pre, post, by rw [h1]; rfl, fun e' => (if_neg fun z => c z.symm).trans (by rw [h2]; rfl)⟩
theorem updK_lookup {k k' : Key} {e e' : En} {es : Es} (h : es.lookup k = some e) : (updK es k e').lookup k' = if k' = k then some e' else es.lookup k' := by
  induction es with
  | nil => cases h
  | cons q r ih =>
    rw [List.lookup_cons] at h
    unfold updK
    by_cases c : q.1 = k
    · rw [if_pos c, List.lookup_cons, List.lookup_cons]
      by_cases z : k' = k
      · rw [if_pos z, beq_iff_eq.mpr z] <;> rfl
      · rw [if_neg z, beq_eq_false_iff_ne.mpr z, beq_eq_false_iff_ne.mpr (c ▸ z)]
    · rw [beq_eq_false_iff_ne.mpr (fun z => c z.symm)] at h
      rw [if_neg c, List.lookup_cons, List.lookup_cons, ih h]
      by_cases z : k' = q.1
      · rw [beq_iff_eq.mpr z]; exact (if_neg (show ¬ k' = k from fun y => c (z ▸ y))).symm
      · rw [beq_eq_false_iff_ne.mpr z]
/-- a ledger of rows behind a head -/
noncomputable def ledK (hd : Led) (es : Es) : Led := hd ++ es.flatMap fun q => q.2.led
structure Foc (hd : Led) (es : Es) (k : Key) (e : En) (R : Led) : Prop where
  sub : ∀ p ∈ R, p ∈ ledK hd es
  off : ∀ p ∈ R, p.1 ∉ e.led.map (·.1)
  mem : ∀ p ∈ e.led, p ∈ ledK hd es
  nd : ND e.led
  back : ∀ e', ∀ p ∈ ledK hd (updK es k e'), p ∈ e'.led ∨ p ∈ R
  ndU : ∀ e' (h : Heap), ND e'.led → (∀ p ∈ R, ∃ o, h.get? p.1 = some o) → (∀ p ∈ e'.led, p.1 ∈ e.led.map (·.1) ∨ h.get? p.1 = none) → ND (ledK hd (updK es k e'))
theorem focus {hd : Led} {es : Es} {k : Key} {e : En} (hl : es.lookup k = some e) (hnd : ND (ledK hd es)) : ∃ R, Foc hd es k e R := by
  obtain ⟨pre, post, h1, h2⟩ := updK_split hl
  have perm : ∀ e', (ledK hd (pre ++ (k, e') :: post)).Perm (e'.led ++ (hd ++ pre.flatMap (fun q => q.2.led) ++ post.flatMap fun q => q.2.led)) := fun e' => by
    unfold ledK
    rw [List.flatMap_append, List.flatMap_cons, ← List.append_assoc]
    exact (List.perm_append_comm_assoc _ _ _)
  have m := fun e' p => (perm e').mem_iff (a := p)
  have nd := (h1 ▸ hnd).perm (perm e)
  subst h1
  exact ⟨_, fun p hp => (m e p).mpr (List.mem_append_right _ hp), nd.off, fun p hp => (m e p).mpr (List.mem_append_left _ hp), nd.l, fun e' p hp => List.mem_append.mp ((m e' p).mp (h2 e' ▸ hp)), fun e' h n hb hf => by
    rw [h2]; exact (nd.step n hb hf).perm (perm e').symm⟩
/-- the rows, as both sides know them -/
noncomputable abbrev Rho := Key → Option Rw
noncomputable def setR (ρ : Rho) (k : Key) (r : Rw) : Rho := fun k' => if k' = k then some r else ρ k'
noncomputable def Rel (ok : Key → Rw → En → Prop) (ρ : Rho) (es : Es) : Prop := ∀ k, match es.lookup k with | none => ρ k = none | some e => ∃ r, ρ k = some r ∧ ok k r e
theorem Rel.no {ok : Key → Rw → En → Prop} {ρ : Rho} {es : Es} {k : Key} (h : Rel ok ρ es) (hl : es.lookup k = none) : ρ k = none := by
  have := h k; rw [hl] at this; exact this
theorem Rel.at {ok : Key → Rw → En → Prop} {ρ : Rho} {es : Es} {k : Key} {e : En} (h : Rel ok ρ es) (hl : es.lookup k = some e) : ∃ r, ρ k = some r ∧ ok k r e := by
  have := h k; rw [hl] at this; exact this
theorem Rel.set {ok : Key → Rw → En → Prop} {ρ : Rho} {es : Es} {k : Key} {e e' : En} {r : Rw} (h : Rel ok ρ es) (hl : es.lookup k = .some e) (h' : ok k r e') : Rel ok (setR ρ k r) (updK es k e') := fun k' => by
  rw [updK_lookup hl]
  unfold setR
  by_cases z : k' = k
  · rw [if_pos z, if_pos z]; exact ⟨r, rfl, z ▸ h'⟩
  · rw [if_neg z, if_neg z]; exact h k'
/-- the rows' dict -/
noncomputable def RowsX (xs : TXs) (es : Es) : Prop := ∀ k, (atKey xs (mk k)).map (·.2) = (es.lookup k).map fun e => Value.ref e.ad
theorem RowsX.set {xs : TXs} {es : Es} {k : Key} {e e' : En} (h : RowsX xs es) (hl : es.lookup k = some e) (he : e'.ad = e.ad) : RowsX xs (updK es k e') := fun k' => by
  rw [h k', updK_lookup hl]
  by_cases z : k' = k
  · rw [if_pos z, z, hl, Option.map_some, Option.map_some, he]
  · rw [if_neg z]
theorem RowsX.at {xs : TXs} {es : Es} {k : Key} {e : En} (h : RowsX xs es) (hl : es.lookup k = .some e) : ∃ ka, atKey xs (mk k) = .some (ka, .ref e.ad) := by
  have := h k
  rw [hl] at this
  obtain ⟨q, h1, h2⟩ := Option.map_eq_some_iff.mp this
  exact ⟨q.1, by rw [h1]; exact congrArg Option.some (Prod.ext rfl h2)⟩
theorem RowsX.no {xs : TXs} {es : Es} {k : Key} (h : RowsX xs es) (hl : es.lookup k = .none) : atKey xs (mk k) = .none := by
  have := h k
  rw [hl] at this
  exact Option.map_eq_none_iff.mp this
noncomputable abbrev Sig := List (Int × Int)
noncomputable def sigP (σ : Sig) : List (Int × PV) := σ.map fun q => (q.1, .int q.2)
noncomputable abbrev CSt := Obj × Es
noncomputable abbrev ctlLed (sd : Addr) (y : CSt) : Led := ledK [(sd, y.1)] y.2
/-- where a side stands -/
structure St (w : World) (ok : Key → Rw → En → Prop) (xs : TXs) (sd : Addr) (ρ : Rho) (σ : Sig) (y : CSt) : Prop where
  sh : DctK (PySem.intKind PR w) y.1 (sigP σ)
  rel : Rel ok ρ y.2
  rows : RowsX xs y.2
  nd : ND (ctlLed sd y)
noncomputable def okC (w : World) (k : Key) (r : Rw) (e : En) : Prop := ∃ rx bx bd ob, e.x = [(rx, instObj 162 e.d), (bx, instObj 127 bd), (bd, ob)] ∧ Dct w e.o (rowL k r.fr r.mo bx e.t r.cnt) ∧ Dct w ob (bktL r.rate r.burst r.grains r.time) ∧ IntsAre e.vs r.tc
/-- a dict of rows that nobody changes -/
noncomputable def RoD (w : World) (RO : Led) (D : Addr) (xs : TXs) : Prop := (D == sysModules) = false ∧ ∀ h : Heap, (∀ p ∈ RO, h.get? p.1 = some p.2) → h.DictOfH (PK w) D xs
theorem RoD.td {w : World} {RO : Led} {D : Addr} {xs : TXs} (R : RoD w RO D xs) {g : Heap} (h : ∀ p ∈ RO, g.get? p.1 = some p.2) (news : Led) : TD w g news D xs := ⟨R.1, RO, fun p hp => .inl (h p hp), R.2⟩
noncomputable abbrev ctlL (D : Addr) (rec : Int) (sd : Addr) : Lm := [(Str.ofString "rows", .ref D), (Str.ofString "recovery", .int rec), (Str.ofString "shut", .ref sd)]
noncomputable def clrR (ρ : Rho) (k : Key) : Rho := fun k' => if k' = k then (ρ k).map fun r => { r with tc := [], to := [] } else ρ k'
noncomputable abbrev kindsL : List Str := [Str.ofString "broadcast", Str.ofString "group", Str.ofString "unknown"]
noncomputable def mendI (ρ : Rho) (p : Int) (i : Nat) : Rho := (kindsL.take i).foldl (fun ρ kd => clrR ρ (p, kd)) ρ
noncomputable abbrev mendA (ρ : Rho) (p : Int) : Rho := mendI ρ p 3
noncomputable def delS (σ : Sig) (p : Int) : Sig := σ.filter fun q => !decide (q.1 = p)
theorem sigP_del (σ : Sig) (p : Int) : delP (sigP σ) p = sigP (delS σ p) := by
  unfold delP sigP delS
  rw [List.filter_map]; rfl
theorem RowsX.isNone {xs : TXs} {es : Es} {k : Key} (h : RowsX xs es) (q : (atKey xs (mk k)).isSome = false) : es.lookup k = none := by
  cases hl : es.lookup k with
  | none => rfl
  | some e => obtain ⟨ka, hka⟩ := h.at hl; rw [hka] at q; cases q
theorem RowsX.isSome {xs : TXs} {es : Es} {k : Key} (h : RowsX xs es) (q : (atKey xs (mk k)).isSome = true) : ∃ e, es.lookup k = some e ∧ ∃ ka, atKey xs (mk k) = some (ka, .ref e.ad) := by
  cases hl : es.lookup k with
  | none => rw [h.no hl] at q; cases q
  | some e => exact ⟨e, rfl, h.at hl⟩

theorem clrR_none {ρ : Rho} {k : Key} (h : ρ k = none) : clrR ρ k = ρ := funext fun k' => by
  unfold clrR
  by_cases z : k' = k
  · rw [if_pos z, z, h]; rfl
  · rw [if_neg z]
theorem clrR_some {ρ : Rho} {k : Key} {r : Rw} (h : ρ k = some r) : clrR ρ k = setR ρ k { r with tc := [], to := [] } := funext fun k' => by
  unfold clrR setR
  rw [h]; rfl
noncomputable abbrev kdAt (i : Nat) : Str := kindsL.getD i (Str.ofString "")
theorem mendI_succ (ρ : Rho) (p : Int) {i : Nat} (hi : i < 3) : mendI ρ p (i + 1) = clrR (mendI ρ p i) (p, kdAt i) := by
  rcases i with _ | _ | _ | _
  · rfl
  · rfl
  · rfl
  · omega
theorem ctl_head {sd : Addr} {y : CSt} (h : ND (ctlLed sd y)) : UpdF sd y.1 (ctlLed sd y) (fun o' => ctlLed sd (o', y.2)) := UpdF.mid (pre := []) h
theorem pv_strs {vs : List Value} {ys : List Str} (hv : StrsAre vs ys) (i : Nat) (v : Value) (h : vs[i]? = some v) : (PV.str (ys.getD i (Str.ofString ""))).is v := by
  obtain ⟨y, t, rfl, hy⟩ := hv.item i v h
  rw [List.getD_eq_getElem?_getD, hy]; exact ⟨t, rfl⟩
/-- an entry whose times are cleared -/
noncomputable abbrev En.clr (e : En) (o' : Obj) (la : Addr) : En := { e with o := o', t := la, vs := [], n := 0 }
noncomputable def turn0 (e : En) (I : Addr) (it : Obj) (F : Led) : Led := (e.d, e.o) :: (I, it) :: (e.x ++ F)
noncomputable def turnG (e : En) (I : Addr) (it : Obj) (F : Led) (y : Addr × List Value) (o' : Obj) : Led := (y.1, listOf y.2.toArray 0) :: (e.d, o') :: (I, it) :: (e.x ++ F)
section
variable {hd F : Led} {es : Es} {k : Key} {e : En} {I la : Addr} {it : Obj} {h : Heap}
theorem turn_in (hF : Foc hd es k e F) : ∀ p ∈ turn0 e I it F, p ∈ (I, it) :: ledK hd es := fun p hp => by
  rcases List.mem_cons.mp hp with rfl | hp
  · exact .tail _ (hF.mem _ (.head _))
  · rcases List.mem_cons.mp hp with rfl | hp
    · exact .head _
    · rcases List.mem_append.mp hp with hp | hp
      · exact .tail _ (hF.mem _ (.tail _ (.tail _ hp)))
      · exact .tail _ (hF.sub _ hp)
theorem turn_upd (hF : Foc hd es k e F) (off : ∀ p ∈ ledK hd es, p.1 ≠ I) (hall : ∀ p ∈ turn0 e I it F, h.get? p.1 = some p.2) {y : Addr × List Value} (hn : h.get? y.1 = none) : UpdF e.d e.o ((y.1, listOf y.2.toArray 0) :: turn0 e I it F) (turnG e I it F y) := by
  refine .tail (fun z => ?_) (.head fun p hp z => ?_)
  · have := hall _ (.head _); dsimp only at this z; rw [← z, hn] at this; cases this
  · have nd := hF.nd
    rcases List.mem_cons.mp hp with rfl | hp
    · exact off _ (hF.mem _ (.head _)) z.symm
    · rcases List.mem_append.mp hp with hp | hp
      · exact (List.nodup_cons.mp nd).1 (z ▸ .tail _ (List.mem_map_of_mem (f := (·.1)) hp))
      · exact hF.off p hp (z ▸ .head _)
theorem turn_nd (hF : Foc hd es k e F) (hall : ∀ p ∈ turn0 e I it F, h.get? p.1 = some p.2) (hn : h.get? la = none) (o' : Obj) : ND (ledK hd (updK es k (e.clr o' la))) := by
  refine hF.ndU _ h ?_ (fun p hp => ⟨_, hall p (.tail _ (.tail _ (List.mem_append_right _ hp)))⟩) fun p hp => ?_
  · have nd := hF.nd
    refine List.nodup_cons.mpr ⟨fun z => ?_, List.nodup_cons.mpr ⟨fun z => ?_, (List.nodup_cons.mp (List.nodup_cons.mp nd).2).2⟩⟩
    · rcases List.mem_cons.mp z with z | z
      · have := hall _ (.head _); dsimp only at this z; rw [z, hn] at this; cases this
      · exact (List.nodup_cons.mp nd).1 (.tail _ z)
    · obtain ⟨p, hp, z⟩ := List.mem_map.mp z
      have := hall p (.tail _ (.tail _ (List.mem_append_left _ hp))); dsimp only at z; rw [z, hn] at this; cases this
  · rcases List.mem_cons.mp hp with rfl | hp
    · exact .inl (.head _)
    · rcases List.mem_cons.mp hp with rfl | hp
      · exact .inr hn
      · exact .inl (.tail _ (.tail _ (List.mem_map_of_mem (f := (·.1)) hp)))
theorem turn_out (hF : Foc hd es k e F) (off : ∀ p ∈ ledK hd es, p.1 ≠ I) (hall : ∀ p ∈ turn0 e I it F, h.get? p.1 = some p.2) (hn : h.get? la = none) (o' : Obj) : ∀ p ∈ ledK hd (updK es k (e.clr o' la)), p ∈ turnG e I it F (la, []) o' ∧ p.1 ≠ I := fun p hp => by
  rcases hF.back _ p hp with hp | hp
  · rcases List.mem_cons.mp hp with rfl | hp
    · exact ⟨.tail _ (.head _), off (e.d, e.o) (hF.mem _ (.head _))⟩
    · rcases List.mem_cons.mp hp with rfl | hp
      · refine ⟨.head _, fun z => ?_⟩
        have := hall _ (.tail _ (.head _)); dsimp only at this z; rw [← z] at this; rw [hn] at this; cases this
      · exact ⟨.tail _ (.tail _ (.tail _ (List.mem_append_left _ hp))), off _ (hF.mem _ (.tail _ (.tail _ hp)))⟩
  · exact ⟨.tail _ (.tail _ (.tail _ (List.mem_append_right _ hp))), off _ (hF.sub _ hp)⟩
end

theorem sigP_lookup (σ : Sig) (p : Int) : (sigP σ).lookup p = (σ.lookup p).map .int := by
  unfold sigP
  induction σ with
  | nil => rfl
  | cons q r ih =>
    rw [List.map_cons, List.lookup_cons, List.lookup_cons]
    by_cases h : p = q.1
    · rw [beq_iff_eq.mpr h]; rfl
    · rw [beq_eq_false_iff_ne.mpr h]; exact ih
theorem delS_lookup (σ : Sig) (p : Int) : (delS σ p).lookup p = none := by
  unfold delS
  induction σ with
  | nil => rfl
  | cons q r ih =>
    by_cases h : q.1 = p
    · simpa [h] using ih
    · rw [List.filter_cons, if_pos (by simp [h]), List.lookup_cons, beq_eq_false_iff_ne.mpr fun z => h z.symm]; exact ih
theorem int_key {p : Int} (v : Value) (h : (PV.int p).is v) : (PySem.intKind PR w).is p v = true := by
  obtain ⟨t, rfl⟩ := h; simp [PySem.intKind, Value.isInt]
/-- a recovery that is over -/
noncomputable def expB (σ : Sig) (rec p now : Int) : Bool := match σ.lookup p with | none => false | some t => decide (0 < rec) && decide (rec ≤ now - t)
noncomputable def expR (ρ : Rho) (σ : Sig) (rec p now : Int) : Rho := if expB σ rec p now then mendA ρ p else ρ
noncomputable def expS (σ : Sig) (rec p now : Int) : Sig := if expB σ rec p now then delS σ p else σ
theorem DctK.at {K : Type} [DecidableEq K] [BEq K] [LawfulBEq K] {w : World} {knd : KeyKind PR w K} {o : Obj} {l : List (K × PV)} (hD : DctK knd o l) (key : K) : ∃ kvs, o.IsDictOf knd kvs ∧ (valueAt kvs key).isSome = (l.lookup key).isSome := by
  obtain ⟨kvs, h1, h2⟩ := hD
  refine ⟨kvs, h1, ?_⟩
  cases z : l.lookup key with
  | none => rw [h2.miss z]; rfl
  | some p => obtain ⟨v, f, _⟩ := h2.find z; unfold valueAt; rw [f]; rfl
theorem Te.ninD {w : World} {A : Around} {env : Env} {g : Heap} {s₀ s : Shared} {lm : Lm} {news : Led} {a c : PySem.Expr} {q : PV} {D : Addr} {o : Obj} {pos : Pos} {K : Type} [DecidableEq K] [BEq K] [LawfulBEq K] {knd : KeyKind PR w K} {l : List (K × PV)} {key : K} (S : S1 g env s₀ s lm news) (ha : Pu w A env s a q) (hq : ∀ v, q.is v → knd.is key v = true) (hc : Pu w A env s c (.ref D)) (hm : (D, o) ∈ news) (hD : DctK knd o l) (lo : (D == sysModules) = false) (hb : behindInMarks .NotIn c = false) :
    Te w A env s (.Compare a [.NotIn] [c] pos) (!(l.lookup key).isSome) := fun Q E tk k' =>
  wpAny_isTrue_Compare1 (ha _ _ tk fun v tk1 hv => hc _ _ tk1 fun u tk2 hu => by
    cases hu
    obtain ⟨kvs, h1, h2⟩ := hD.at key
    exact wpAny_notIn_of (s := { s with toks := tk2 }) (hq v hv) lo (kda_dict S.N hm h1).mapOf (wpAny_truthy_bool (by rw [h2]; exact k' _))) hb
theorem Te.and2 {w : World} {A : Around} {env : Env} {s : Shared} {a b : PySem.Expr} {pos : Pos} {x y : Bool} (ha : Te w A env s a x) (hb : Te w A env s b y) : Te w A env s (.BoolOp .And [a, b] pos) (x && y) := by
  cases x with
  | false => exact Te.and_f ha
  | true => exact Te.and_t ha (by cases y with | false => exact Te.and_f hb | true => exact Te.and_t hb Te.and_nil)

noncomputable abbrev kP (k : Key) : List PV := [.int k.1, .str k.2]
section
variable {w : World} {RO : Led} {cx D sd : Addr} {rec : Int} {xs : TXs} {cd : Addr} {oc : Obj}
/-- what of a control nobody changes -/
structure CtlRO (w : World) (RO : Led) (cx D sd : Addr) (rec : Int) (xs : TXs) (cd : Addr) (oc : Obj) : Prop where
  inst : (cx, instObj 212 cd) ∈ RO
  dict : (cd, oc) ∈ RO
  d : Dct w oc (ctlL D rec sd)
  los : (sd == sysModules) = false
  rows : RoD w RO D xs
theorem CtlRO.ins (R : CtlRO w RO cx D sd rec xs cd oc) {g : Heap} (h : ∀ p ∈ RO, g.get? p.1 = some p.2) : Inst g cx 212 oc := ⟨cd, h _ R.inst, h _ R.dict⟩
theorem mend_v (R : CtlRO w RO cx D sd rec xs cd oc) (ρ : Rho) (σ : Sig) (y0 : CSt) (st : St w (okC w) xs sd ρ σ y0) (hz : σ.length ≤ 100) (p : Int) :
    SpecV w 2 195 [.ref cx, .int p] RO (ctlLed sd y0) (St w (okC w) xs sd (mendA ρ p) (delS σ p)) (fun _ => .none) (ctlLed sd) := by
  refine specV_of [Str.ofString "self", Str.ofString "port"] [] [] rfl (by k_is) (by k_is) (by decide) (fun vs s hvs hX => ?_) (by decide) rfl rfl rfl (by decide) fun A env g s Q E pE hQ C S hpre lt => ?_
  · obtain ⟨_, _, rfl⟩ := hvs.two; exact BindsTo.of_eq rfl
  refine r_pop (q := .int p) (key := p) C S (Pu.attr C S (Pu.name C S rfl rfl rfl) (S.instB (R.ins hpre)) R.d rfl (at212_shut w)) (by exact ⟨_, _, rfl, (Pu.name C S rfl rfl rfl), rfl, _, _, rfl, Pu.none, rfl, rfl⟩) (fun v ⟨t, e⟩ => by subst e; exact ⟨by simp [PySem.intKind, Value.isInt], rfl⟩) (ctl_head st.nd) st.sh R.los (by unfold sigP; rw [List.length_map]; exact hz) (fun _ => ⟨_, rfl⟩) (fun _ => rfl) (fun _ => rfl) fun s o1 S ho1 => ?_
  refine r_for C pE (Pu.ev (Pu.glob (p := .ref 132) C S (by k_is) rfl rfl rfl) S) rfl (fun _ => rfl) fun _ v s hv _ S => ?_
  cases hv
  obtain ⟨tvs, tn, dd, sl, ht, hs⟩ : ∃ (l : List Value) (n : Nat) (dd : Option Addr) (sl : Array (Option Value)), (Mine.pre.heap_1 w.params).lookup 132 = some ⟨.type "tuple", dd, .seq l.toArray n, sl⟩ ∧ StrsAre l kindsL := ⟨_, _, _, _, by k_is, by kde_strs⟩
  have hlen : tvs.length = 3 := hs.len_eq
  refine ⟨3, fun i => .str (kdAt i), [], fun i l nx => ∃ y, nx = ctlLed sd y ∧ St w (okC w) xs sd (mendI ρ p i) (delS σ p) y ∧ l.lookup (Str.ofString "self") = some (.ref cx) ∧ l.lookup (Str.ofString "port") = some (.int p), hlen ▸ itr_tuple C S ⟨_, C.X _ _ ht, rfl, _, rfl⟩ (pv_strs hs), (fun _ _ _ _ _ h => nomatch h), ⟨_, rfl, ⟨by rw [← sigP_del]; exact ho1, st.rel, st.rows, st.nd.same rfl⟩, rfl, rfl⟩, ?_, ?_⟩
  · rintro I it i l nx s Q' hi ⟨y, rfl, st, l1, l2⟩ S off hT
    have hs := mendI_succ ρ p hi
    refine r_ifE (TEv.inT C S (R.rows.td hpre _) (by exact ⟨_, _, rfl, Pu.name C S l2 rfl rfl, rfl, _, _, rfl, (Pu.name C S rfl rfl rfl), rfl, rfl⟩) (fun s' S => Pu.attr C S (Pu.name C S l1 rfl rfl) (S.instB (R.ins hpre)) R.d rfl (at212_rows w)) rfl) (fun _ s q _ S => ?_) fun _ s q _ S => ?_
    · obtain ⟨e, hl, ka, hka⟩ := st.rows.isSome q
      obtain ⟨r, hr, rx, bx, bd, ob, hx, ok, ok2, _⟩ := st.rel.at hl
      obtain ⟨F, hF⟩ := focus hl st.nd
      have S := S.led (turn_in hF)
      have hall := fun (q : Addr × Obj) => S.mem (a := q.1) (o := q.2)
      have had : e.ad = rx := by unfold En.ad; rw [hx]
      refine r_attrE (o := e.o) (ax := rx) C (ev_list (ps := []) S rfl (Nat.le_of_ble_eq_true rfl)) (fun l s' hc S => ev_itemT C S (R.rows.td hpre _) (Pu.attr C S (Pu.name C S l1 rfl rfl) (S.instB (R.ins hpre)) R.d rfl (at212_rows w)) (by exact ⟨_, _, rfl, Pu.name C S l2 rfl rfl, rfl, _, _, rfl, (Pu.name C S rfl rfl rfl), rfl, rfl⟩) hka (congrArg Value.ref had)) (fun l => .tail _ (.tail _ (.tail _ (List.mem_append_left _ (by rw [hx]; exact .head _))))) (fun l s' hc _ => turn_upd hF off hall hc.2) ok (st162_times w) (Nat.le_of_ble_eq_true rfl) (fun _ => rfl) fun l s1 s2 o2 hc S ho2 => r_end (r_end (hT _ _ ?_))
      obtain ⟨la, lvs⟩ := l
      obtain ⟨hlv, hln⟩ := hc
      cases hlv
      have hout := turn_out hF off hall hln o2
      exact ⟨_, _, S.led (List.forall_mem_cons.mpr ⟨.tail _ (.tail _ (.head _)), fun p hp => (hout p hp).1⟩), fun p hp => (hout p hp).2, (y.1, updK y.2 (p, kdAt i) (e.clr o2 la)), rfl, ⟨st.sh, by rw [hs, clrR_some hr]; exact st.rel.set hl ⟨rx, bx, bd, ob, hx, ho2, ok2, .nil⟩, st.rows.set hl (by unfold En.ad; rw [hx]), turn_nd hF hall hln o2⟩, l1, l2⟩
    · exact r_end (r_end (hT _ _ ⟨_, _, S, off, y, rfl, by rw [hs, clrR_none (st.rel.no (st.rows.isNone q))]; exact st, l1, l2⟩))
  · rintro l nx s ⟨y, rfl, st, _⟩ S
    exact r_end (hQ _ _ ⟨y, l, st, rfl, S⟩)
end

section
variable {w : World} {RO : Led} {cx D sd : Addr} {rec : Int} {xs : TXs} {cd : Addr} {oc : Obj}
theorem is_shut_v (R : CtlRO w RO cx D sd rec xs cd oc) (ρ : Rho) (σ : Sig) (y0 : CSt) (st : St w (okC w) xs sd ρ σ y0) (hz : σ.length ≤ 100) (p now : Int) :
    SpecV w 3 188 [.ref cx, .int p, .int now] RO (ctlLed sd y0) (St w (okC w) xs sd (expR ρ σ rec p now) (expS σ rec p now)) (fun _ => .bool ((expS σ rec p now).lookup p).isSome) (ctlLed sd) := by
  refine specV_of [Str.ofString "self", Str.ofString "port", Str.ofString "now"] [] [] rfl (by k_is) (by k_is) (by decide) (fun vs s hvs hX => ?_) (by decide) rfl rfl rfl (by decide) fun A env g s Q E pE hQ C S hpre lt => ?_
  · obtain ⟨_, _, _, rfl⟩ := hvs.three; exact BindsTo.of_eq rfl
  have hz' : (sigP σ).length ≤ 100 := by unfold sigP; rw [List.length_map]; exact hz
  have hl := sigP_lookup σ p
  refine r_if (Te.ninD (key := p) S (Pu.name C S rfl rfl rfl) int_key (Pu.attr C S (Pu.name C S rfl rfl rfl) (S.instB (R.ins hpre)) R.d rfl (at212_shut w)) (.head _) st.sh R.los rfl) S (fun q s S _ => ?_) fun q s S _ => ?_
  · have h : σ.lookup p = none := by
      rw [hl] at q
      cases h : σ.lookup p with
      | none => rfl
      | some t => rw [h] at q; cases q
    have he : expB σ rec p now = false := by unfold expB; rw [h]
    exact r_ret (Pu.bool.ev S) fun _ v s' hv _ S => hQ _ _ ⟨y0, _, by rw [expR, expS, he]; exact st, by rw [expS, he, if_neg (by decide), h]; exact hv, S⟩
  obtain ⟨t, h⟩ : ∃ t, σ.lookup p = some t := by
    rw [hl] at q
    cases h : σ.lookup p with
    | none => rw [h] at q; cases q
    | some t => exact ⟨t, rfl⟩
  have he : expB σ rec p now = (decide (0 < rec) && decide (rec ≤ now - t)) := by unfold expB; rw [h]
  refine r_end ?_
  have I := S.instB (R.ins hpre)
  refine r_if (Te.and2 (Te.gt (Pu.attr C S (Pu.name C S rfl rfl rfl) I R.d rfl (at212_recovery w)) Pu.int rfl) (Te.ge (Pu.sub (Pu.name C S rfl rfl rfl) (Pu.item (key := p) S (Pu.attr C S (Pu.name C S rfl rfl rfl) I R.d rfl (at212_shut w)) (Pu.name C S rfl rfl rfl) int_key (.head _) st.sh (by rw [hl, h]; rfl) (fun _ => by with_unfolding_all rfl))) (Pu.attr C S (Pu.name C S rfl rfl rfl) I R.d rfl (at212_recovery w)) rfl)) S (fun q s S _ => ?_) fun q s S _ => ?_
  · rw [← he] at q
    refine r_expr C (ev_meth (mend_v R ρ σ y0 st hz p) C (Nat.le_refl _) S (Pu.name C S rfl rfl rfl) (S.instB (R.ins hpre)) R.d rfl (me212_mend w) (by exact ⟨_, _, rfl, (Pu.name C S rfl rfl rfl), rfl, rfl⟩) (fun _ => rfl) (fun _ => ⟨_, rfl⟩) [] (fun _ h => h) (fun _ h => nomatch h) (fun _ h => nomatch h) (S.pre hpre fun _ h => h)) (fun _ => rfl) fun y s B S => ?_
    exact r_ret (Pu.bool.ev S) fun _ v s' hv _ S => hQ _ _ ⟨y, _, by rw [expR, expS, q]; exact B.c, by rw [expS, q, if_pos rfl, delS_lookup]; exact hv, S.led fun _ h => List.mem_append_left _ h⟩
  rw [← he] at q
  exact r_end (r_ret (Pu.bool.ev S) fun _ v s' hv _ S => hQ _ _ ⟨y0, _, by rw [expR, expS, q]; exact st, by rw [expS, q, if_neg (by decide), h]; exact hv, S⟩)
theorem dropped_v (R : CtlRO w RO cx D sd rec xs cd oc) (ρ : Rho) (σ : Sig) (y0 : CSt) (st : St w (okC w) xs sd ρ σ y0) (k : Key) :
    SpecV w 2 209 [.ref cx, .int k.1, .str k.2] RO (ctlLed sd y0) (fun (_ : Unit) => True) (fun _ => .int (match ρ k with | none => 0 | some r => r.cnt)) (fun _ => ctlLed sd y0) := by
  refine specV_of [Str.ofString "self", Str.ofString "port", Str.ofString "kind"] [] [] rfl (by k_is) (by k_is) (by decide) (fun vs s hvs hX => ?_) (by decide) rfl rfl rfl (by decide) fun A env g s Q E pE hQ C S hpre lt => ?_
  · obtain ⟨_, _, _, rfl⟩ := hvs.three; exact BindsTo.of_eq rfl
  cases hl : y0.2.lookup k with
  | none =>
    refine r_set C (ev_getT (p := .none) C S (R.rows.td hpre _) (Pu.attr C S (Pu.name C S rfl rfl rfl) (S.instB (R.ins hpre)) R.d rfl (at212_rows w)) (by exact ⟨_, _, rfl, (Pu.name C S rfl rfl rfl), rfl, _, _, rfl, (Pu.name C S rfl rfl rfl), rfl, rfl⟩) (by rw [st.rows.no hl]; rfl) (fun _ => ⟨_, rfl⟩)) rfl (fun _ => rfl) fun _ _ s _ S _ => ?_
    exact r_ret (Pu.ev (Pu.ifx (Te.isNone (Pu.name C S rfl rfl rfl)) (fun _ => Pu.int) (fun h => by cases h)) S) fun _ v s' hv _ S => hQ _ _ ⟨(), _, trivial, by rw [st.rel.no hl]; exact hv, S⟩
  | some e =>
    obtain ⟨ka, hka⟩ := st.rows.at hl
    obtain ⟨r, hr, rx, bx, bd, ob, hx, ok, ok2, _⟩ := st.rel.at hl
    obtain ⟨F, hF⟩ := focus hl st.nd
    have had : e.ad = rx := by unfold En.ad; rw [hx]
    refine r_set C (ev_getT (p := .ref rx) C S (R.rows.td hpre _) (Pu.attr C S (Pu.name C S rfl rfl rfl) (S.instB (R.ins hpre)) R.d rfl (at212_rows w)) (by exact ⟨_, _, rfl, (Pu.name C S rfl rfl rfl), rfl, _, _, rfl, (Pu.name C S rfl rfl rfl), rfl, rfl⟩) (by rw [hka]; exact congrArg Value.ref had) (fun _ => ⟨_, rfl⟩)) rfl (fun _ => rfl) fun _ _ s _ S _ => ?_
    exact r_ret (Pu.ev (Pu.ifx (Te.isNone (Pu.name C S rfl rfl rfl)) (fun h => by cases h) (fun _ => Pu.attr C S (Pu.name C S rfl rfl rfl) (S.inst (dx := e.d) (hF.mem _ (.tail _ (.tail _ (by rw [hx]; exact .head _)))) (hF.mem _ (.head _))) ok rfl (at162_dropped w))) S) fun _ v s' hv _ S => hQ _ _ ⟨(), _, trivial, by rw [hr]; exact hv, S⟩
end

noncomputable abbrev xC (rx d bx bd : Addr) (ob : Obj) : Led := [(rx, instObj 162 d), (bx, instObj 127 bd), (bd, ob)]
noncomputable abbrev tLed (rx d : Addr) (o : Obj) (t : Addr) (vs : List Value) (n : Nat) : Led := rwLed rx d o ++ [(t, listOf vs.toArray n)]
section
variable {hd F : Led} {es : Es} {k : Key} {e : En} {rx bx bd : Addr} {ob : Obj} {h : Heap}
theorem led_perm (hx : e.x = xC rx e.d bx bd ob) : e.led.Perm (bkLed bx bd ob ++ rwLed rx e.d e.o ++ [(e.t, listOf e.vs.toArray e.n)]) := by
  unfold En.led; rw [hx]
  exact (List.perm_append_comm (l₁ := [_, _, _]) (l₂ := [_, _])).trans (.cons _ (.cons _ (List.perm_append_comm (l₁ := [_, _]) (l₂ := [_]))))
theorem led_perm2 (a : Led) (b c : Led) : (a ++ b ++ c).Perm (b ++ c ++ a) := by rw [List.append_assoc]; exact List.perm_append_comm
theorem parts1 (hF : Foc hd es k e F) (hx : e.x = xC rx e.d bx bd ob) : ND (bkLed bx bd ob ++ rwLed rx e.d e.o) ∧ (∀ p ∈ bkLed bx bd ob ++ rwLed rx e.d e.o, p ∈ ledK hd es) ∧ (∀ p ∈ (e.t, listOf e.vs.toArray e.n) :: F, p ∈ ledK hd es) ∧ (∀ p ∈ (e.t, listOf e.vs.toArray e.n) :: F, p.1 ∉ (bkLed bx bd ob ++ rwLed rx e.d e.o).map (·.1)) := by
  have P := led_perm hx
  have nd := hF.nd.perm P
  refine ⟨nd.l, fun p hp => hF.mem p (P.mem_iff.mpr (List.mem_append_left _ hp)), fun p hp => ?_, fun p hp => ?_⟩
  · rcases List.mem_cons.mp hp with rfl | hp
    · exact hF.mem _ (.tail _ (.head _))
    · exact hF.sub p hp
  · rcases List.mem_cons.mp hp with rfl | hp
    · exact nd.off _ (.head _)
    · exact fun z => hF.off p hp ((P.map _).mem_iff.mpr (by rw [List.map_append]; exact List.mem_append_left _ z))
theorem parts2 (hF : Foc hd es k e F) (hx : e.x = xC rx e.d bx bd ob) (ob' : Obj) : ND (tLed rx e.d e.o e.t e.vs e.n) ∧ ∀ p ∈ bkLed bx bd ob' ++ F, p.1 ∉ (tLed rx e.d e.o e.t e.vs e.n).map (·.1) := by
  have P := (led_perm hx).trans (led_perm2 _ _ _)
  have nd := hF.nd.perm P
  refine ⟨nd.l, fun p hp => ?_⟩
  rcases List.mem_append.mp hp with hp | hp
  · exact (ND.same (b := tLed rx e.d e.o e.t e.vs e.n ++ bkLed bx bd ob') nd rfl).off p hp
  · exact fun z => hF.off p hp ((P.map _).mem_iff.mpr (by rw [List.map_append]; exact List.mem_append_left _ z))
theorem parts3 (hF : Foc hd es k e F) (hx : e.x = xC rx e.d bx bd ob) {ob' o2 : Obj} {t2 : Addr} {vs2 : List Value} {n2 : Nat} (ha : ND (tLed rx e.d o2 t2 vs2 n2)) (hb : ∀ p ∈ bkLed bx bd ob' ++ F, ∃ o, h.get? p.1 = some o)
    (hf : ∀ p ∈ tLed rx e.d o2 t2 vs2 n2, p.1 ∈ (tLed rx e.d e.o e.t e.vs e.n).map (·.1) ∨ h.get? p.1 = none) : ND (ledK hd (updK es k ⟨e.d, o2, t2, vs2, n2, xC rx e.d bx bd ob'⟩)) ∧ ∀ p ∈ ledK hd (updK es k ⟨e.d, o2, t2, vs2, n2, xC rx e.d bx bd ob'⟩), p ∈ tLed rx e.d o2 t2 vs2 n2 ++ (bkLed bx bd ob' ++ F) := by
  have P := (led_perm hx).trans (led_perm2 _ _ _)
  have P2 := (led_perm (e := ⟨e.d, o2, t2, vs2, n2, xC rx e.d bx bd ob'⟩) rfl).trans (led_perm2 _ _ _)
  have nd := ND.same (b := tLed rx e.d e.o e.t e.vs e.n ++ bkLed bx bd ob') (hF.nd.perm P) rfl
  refine ⟨hF.ndU _ h ((nd.step ha (fun p hp => hb p (List.mem_append_left _ hp)) hf).perm P2.symm) (fun p hp => hb p (List.mem_append_right _ hp)) fun p hp => ?_, fun p hp => ?_⟩
  · rcases List.mem_append.mp (P2.mem_iff.mp hp) with hp | hp
    · exact (hf p hp).imp (fun z => (P.map _).mem_iff.mpr (by rw [List.map_append]; exact List.mem_append_left _ z)) id
    · exact .inl ((P.map _).mem_iff.mpr (by rw [List.map_append]; exact List.mem_append_right _ (List.mem_map_of_mem (f := (·.1)) hp)))
  · rcases hF.back _ p hp with hp | hp
    · rcases List.mem_append.mp (P2.mem_iff.mp hp) with hp | hp
      · exact List.mem_append_left _ hp
      · exact List.mem_append_right _ (List.mem_append_left _ hp)
    · exact List.mem_append_right _ (List.mem_append_right _ hp)
theorem parts4 {ob' o2 : Obj} {d t2 : Addr} {vs2 : List Value} {n2 : Nat} : ∀ p ∈ tLed rx d o2 t2 vs2 n2 ++ (bkLed bx bd ob' ++ F), p ∈ bkLed bx bd ob' ++ rwLed rx d o2 ++ (t2, listOf vs2.toArray n2) :: F := fun p hp => by
  simp only [tLed, List.mem_append, List.mem_cons, List.not_mem_nil, or_false] at hp ⊢
  rcases hp with (a | b) | c | d
  · exact .inl (.inr a)
  · exact .inr (.inl b)
  · exact .inl (.inl c)
  · exact .inr (.inr d)
end
noncomputable def putS : Sig → Int → Int → Sig
  | [], x, p => [(x, p)]
  | q :: r, x, p => if q.1 = x then (x, p) :: r else q :: putS r x p
theorem sigP_put (σ : Sig) (x p : Int) : putP (sigP σ) x (.int p) = sigP (putS σ x p) := by
  unfold sigP
  induction σ with
  | nil => rfl
  | cons q r ih =>
    rw [List.map_cons]
    unfold putP putS
    by_cases h : q.1 = x
    · rw [if_pos h, if_pos h]; rfl
    · rw [if_neg h, if_neg h, ih]; rfl
theorem putS_len (σ : Sig) (x p : Int) : (putS σ x p).length ≤ σ.length + 1 := by
  induction σ with
  | nil => exact Nat.le_refl _
  | cons q r ih =>
    unfold putS
    split
    · simp
    · simp only [List.length_cons]; omega
/-- what holds of a row all through -/
structure GoodR (n : Nat) (now : Int) (r : Rw) : Prop where
  r0 : 0 ≤ r.rate
  r1 : r.rate ≤ 1000
  t : r.time ≤ now
  g : r.grains ≤ 100 * r.burst
  l : r.mo ≠ none → ∀ m, now ≤ m → lastOf m r.tc = lastOf m r.to
  nc : r.tc.length ≤ n
  no : r.to.length ≤ n
noncomputable abbrev Good (n : Nat) (now : Int) (ρ : Rho) : Prop := ∀ k r, ρ k = some r → GoodR n now r
/-- a frame that is asked for -/
noncomputable def rowLet (r : Rw) (size now : Int) : Rw := { r with grains := takeG (costF r.fr size) (fillG r.rate r.burst r.grains r.time now), time := now }
noncomputable def rowDrop (r : Rw) (size now : Int) : Rw := { rowLet r size now with cnt := r.cnt + 1, tc := timesF r.mo now r.tc, to := r.to ++ [now] }
noncomputable def letB (r : Rw) (size now : Int) : Bool := decide (costF r.fr size * 100 ≤ fillG r.rate r.burst r.grains r.time now)
noncomputable def overR (r : Rw) (now : Int) : Bool := overB r.mo (lastOf now r.tc ++ [now]).length
noncomputable def askK (ρ : Rho) (σ : Sig) (k : Key) (size now : Int) : Rho × Sig × Str :=
  if (σ.lookup k.1).isSome = true then (ρ, σ, Str.ofString "shut") else match ρ k with
  | none => (ρ, σ, Str.ofString "let")
  | some r => if letB r size now = true then (setR ρ k (rowLet r size now), σ, Str.ofString "let")
    else (setR ρ k (rowDrop r size now), if overR r now = true then putS σ k.1 now else σ, if overR r now = true then Str.ofString "shut" else Str.ofString "drop")
section
variable {ρ : Rho} {σ : Sig} {k : Key} {size now : Int} {r : Rw}
theorem askK_shut (q : (σ.lookup k.1).isSome = true) : askK ρ σ k size now = (ρ, σ, Str.ofString "shut") := if_pos q
theorem askK_in (q : (σ.lookup k.1).isSome = false) : askK ρ σ k size now = match ρ k with
  | none => (ρ, σ, Str.ofString "let")
  | some r => if letB r size now = true then (setR ρ k (rowLet r size now), σ, Str.ofString "let")
    else (setR ρ k (rowDrop r size now), if overR r now = true then putS σ k.1 now else σ, if overR r now = true then Str.ofString "shut" else Str.ofString "drop") := if_neg (by rw [q]; decide)
theorem askK_no (q : (σ.lookup k.1).isSome = false) (h : ρ k = none) : askK ρ σ k size now = (ρ, σ, Str.ofString "let") := by rw [askK_in q, h]
theorem askK_let (q : (σ.lookup k.1).isSome = false) (h : ρ k = some r) (q2 : letB r size now = true) : askK ρ σ k size now = (setR ρ k (rowLet r size now), σ, Str.ofString "let") := by rw [askK_in q, h]; exact if_pos q2
theorem askK_over (q : (σ.lookup k.1).isSome = false) (h : ρ k = some r) (q2 : letB r size now = false) (q3 : overR r now = true) : askK ρ σ k size now = (setR ρ k (rowDrop r size now), putS σ k.1 now, Str.ofString "shut") := by
  rw [askK_in q, h]; exact (if_neg (by rw [q2]; decide)).trans (by rw [q3]; rfl)
theorem askK_drop (q : (σ.lookup k.1).isSome = false) (h : ρ k = some r) (q2 : letB r size now = false) (q3 : overR r now = false) : askK ρ σ k size now = (setR ρ k (rowDrop r size now), σ, Str.ofString "drop") := by
  rw [askK_in q, h]; exact (if_neg (by rw [q2]; decide)).trans (by rw [q3]; rfl)
end
theorem res_st {w : World} {ok : Key → Rw → En → Prop} {xs : TXs} {sd : Addr} {y : CSt} {z : Rho × Sig × Str} {a a' : Rho} {b b' : Sig} {c c' : Str} (e : z = (a, b, c)) (e' : z = (a', b', c')) (st : St w ok xs sd a' b' y) : St w ok xs sd a b y := by
  cases e.symm.trans e'; exact st
theorem res_v {v : Value} {z : Rho × Sig × Str} {a a' : Rho} {b b' : Sig} {c c' : Str} (e : z = (a, b, c)) (e' : z = (a', b', c')) (h : (PV.str c').is v) : (PV.str c).is v := by
  cases e.symm.trans e'; exact h
noncomputable def askA (ρ : Rho) (σ : Sig) (rec : Int) (k : Key) (size now : Int) : Rho × Sig × Str := askK (expR ρ σ rec k.1 now) (expS σ rec k.1 now) k size now
theorem Good.clr {n : Nat} {now : Int} {ρ : Rho} (h : Good n now ρ) (k : Key) : Good n now (clrR ρ k) := fun k' r hr => by
  unfold clrR at hr
  by_cases z : k' = k
  · rw [if_pos z] at hr
    obtain ⟨r0, h0, rfl⟩ := Option.map_eq_some_iff.mp hr
    have := h k r0 h0
    exact ⟨this.r0, this.r1, this.t, this.g, fun _ _ _ => rfl, Nat.zero_le _, Nat.zero_le _⟩
  · rw [if_neg z] at hr; exact h k' r hr
theorem Good.exp {n : Nat} {now : Int} {ρ : Rho} (h : Good n now ρ) (σ : Sig) (rec p : Int) : Good n now (expR ρ σ rec p now) := by
  unfold expR
  split
  · exact ((h.clr _).clr _).clr _
  · exact h
theorem expS_len (σ : Sig) (rec p now : Int) : (expS σ rec p now).length ≤ σ.length := by
  unfold expS delS
  split
  · exact List.length_filter_le _ _
  · exact Nat.le_refl _

section
variable {w : World} {RO : Led} {cx D sd : Addr} {rec : Int} {xs : TXs} {cd : Addr} {oc : Obj}
theorem asked_v (R : CtlRO w RO cx D sd rec xs cd oc) (ρ : Rho) (σ : Sig) (y0 : CSt) (st : St w (okC w) xs sd ρ σ y0) (hz : σ.length ≤ 90) (k : Key) (size now : Int) (hg : Good 900 now ρ) {ρ2 : Rho} {σ2 : Sig} {v2 : Str} (hres : askA ρ σ rec k size now = (ρ2, σ2, v2)) :
    SpecV w 5 202 [.ref cx, .int k.1, .str k.2, .int size, .int now] RO (ctlLed sd y0) (St w (okC w) xs sd ρ2 σ2) (fun _ => .str v2) (ctlLed sd) := by
  refine specV_of [Str.ofString "self", Str.ofString "port", Str.ofString "kind", Str.ofString "size", Str.ofString "now"] [] [] rfl (by k_is) (by k_is) (by decide) (fun vs s hvs hX => ?_) (by decide) rfl rfl rfl (by decide) fun A env g s Q E pE hQ C S hpre lt => ?_
  · obtain ⟨_, _, _, _, _, rfl⟩ := hvs.five; exact BindsTo.of_eq rfl
  have hz2 := expS_len σ rec k.1 now
  have hg := hg.exp σ rec k.1
  unfold askA at hres
  refine r_ifE (TEv.call (ev_meth (is_shut_v R ρ σ y0 st (Nat.le_trans hz (by decide)) k.1 now) C (Nat.le_of_ble_eq_true rfl) S (Pu.name C S rfl rfl rfl) (S.instB (R.ins hpre)) R.d rfl (me212_is_shut w) (by exact ⟨_, _, rfl, (Pu.name C S rfl rfl rfl), rfl, _, _, rfl, (Pu.name C S rfl rfl rfl), rfl, rfl⟩) (fun _ => rfl) (fun _ => ⟨_, rfl⟩) [] (fun _ h => h) (fun _ h => nomatch h) (fun _ h => nomatch h) (S.pre hpre fun _ h => h))) (fun y s q B S => ?_) fun y s q B S => ?_
  · skip
    exact r_ret (Pu.str.ev S) fun _ v s' hv _ S => hQ _ _ ⟨y, _, res_st hres (askK_shut q) B.c, res_v hres (askK_shut q) hv, S.led fun _ h => List.mem_append_left _ h⟩
  have st := B.c
  generalize expR ρ σ rec k.1 now = ρ at st hg hres
  generalize expS σ rec k.1 now = σ at st hz2 q hres
  have S := S.led (news' := ctlLed sd y) fun _ h => List.mem_append_left _ h
  refine r_end ?_
  cases hl : y.2.lookup k with
  | none =>
    refine r_set C (ev_getT (p := .none) C S (R.rows.td hpre _) (Pu.attr C S (Pu.name C S rfl rfl rfl) (S.instB (R.ins hpre)) R.d rfl (at212_rows w)) (by exact ⟨_, _, rfl, (Pu.name C S rfl rfl rfl), rfl, _, _, rfl, (Pu.name C S rfl rfl rfl), rfl, rfl⟩) (by rw [st.rows.no hl]; rfl) (fun _ => ⟨_, rfl⟩)) rfl (fun _ => rfl) fun _ _ s _ S _ => ?_
    refine r_ifE (TEv.or_t (Te.isNone (p := .none) (Pu.name C S rfl rfl rfl)) S) (fun _ s _ _ S => ?_) fun _ s q _ S => nomatch q
    exact r_ret (Pu.str.ev S) fun _ v s' hv _ S => hQ _ _ ⟨y, _, res_st hres (askK_no q (st.rel.no hl)) st, res_v hres (askK_no q (st.rel.no hl)) hv, S⟩
  | some e =>
    obtain ⟨ka, hka⟩ := st.rows.at hl
    obtain ⟨r, hr, rx, bx, bd, ob, hx, ho, hb, hv⟩ := st.rel.at hl
    obtain ⟨F, hF⟩ := focus hl st.nd
    have had : e.ad = rx := by unfold En.ad; rw [hx]
    have G := hg k r hr
    obtain ⟨p1, p2, p3, p4⟩ := parts1 hF hx
    refine r_set C (ev_getT (p := .ref rx) C S (R.rows.td hpre _) (Pu.attr C S (Pu.name C S rfl rfl rfl) (S.instB (R.ins hpre)) R.d rfl (at212_rows w)) (by exact ⟨_, _, rfl, (Pu.name C S rfl rfl rfl), rfl, _, _, rfl, (Pu.name C S rfl rfl rfl), rfl, rfl⟩) (by rw [hka]; exact congrArg Value.ref had) (fun _ => ⟨_, rfl⟩)) rfl (fun _ => rfl) fun _ _ s _ S _ => ?_
    refine r_ifE (TEv.or_f (Te.isNone (p := .ref rx) (Pu.name C S rfl rfl rfl)) fun tk => TEv.call (ev_meth (lets_v w rx e.d bx bd e.t k r.fr r.mo r.cnt r.rate r.burst r.grains r.time size now e.o ob p1 ho hb G.r0 G.r1 G.t) C (Nat.le_of_ble_eq_true rfl) (S.tok tk) (Pu.name C (S.tok tk) rfl rfl rfl) ((S.tok tk).inst (p2 _ (.tail _ (.tail _ (.head _)))) (p2 _ (.tail _ (.tail _ (.tail _ (.head _)))))) ho rfl (me162_lets w) (by exact ⟨_, _, rfl, Pu.name C (S.tok tk) rfl rfl rfl, rfl, _, _, rfl, Pu.name C (S.tok tk) rfl rfl rfl, rfl, rfl⟩) (fun _ => rfl) (fun _ => ⟨_, rfl⟩) _ p2 p3 p4 (fun _ h => nomatch h))) (fun ob' s q2 ⟨_, B⟩ S => ?_) fun ob' s q2 ⟨_, B⟩ S => ?_
    · have q2 : letB r size now = true := q2
      have S := S.led parts4
      obtain ⟨h1, h2⟩ := parts3 hF hx (parts2 hF hx ob').1 (fun p hp => ⟨_, S.mem (List.mem_append_right _ hp)⟩) fun p hp => .inl (List.mem_map_of_mem (f := (·.1)) hp)
      exact r_ret (Pu.str.ev S) fun _ v s' hv' _ S => hQ _ _ ⟨(y.1, updK y.2 k ⟨e.d, e.o, e.t, e.vs, e.n, xC rx e.d bx bd ob'⟩), _, res_st hres (askK_let q hr q2) ⟨st.sh, st.rel.set hl ⟨rx, bx, bd, ob', rfl, ho, B.c, hv⟩, st.rows.set hl had.symm, h1⟩, res_v hres (askK_let q hr q2) hv', S.led h2⟩
    · have q2 : letB r size now = false := q2
      have S := S.led parts4
      have hob := B.c
      have S0 := S
      obtain ⟨n1, n2⟩ := parts2 hF hx ob'
      refine r_end ?_
      refine r_ifE (TEv.call (ev_meth (note_v w rx e.d bx e.t k r.fr r.mo r.cnt now e.o e.vs e.n r.tc n1 ho hv (Nat.le_trans G.nc (by decide))) C (Nat.le_of_ble_eq_true rfl) S (Pu.name C S rfl rfl rfl) (S.inst (.head _) (.tail _ (.head _))) ho rfl (me162_note_drop w) (by exact ⟨_, _, rfl, (Pu.name C S rfl rfl rfl), rfl, rfl⟩) (fun _ => rfl) (fun _ => ⟨_, rfl⟩) _ (fun _ h => List.mem_append_left _ h) (fun _ h => List.mem_append_right _ h) n2 (fun _ h => nomatch h))) (fun z s q3 B S => ?_) fun z s q3 B S => ?_ <;>
        obtain ⟨h1, h2⟩ := parts3 hF hx B.c.2.2 (fun p hp => ⟨_, S0.mem (List.mem_append_right _ hp)⟩) B.new <;>
        have st2 := st.rel.set (r := rowDrop r size now) (e' := ⟨e.d, z.1, z.2.1, z.2.2.1, z.2.2.2, xC rx e.d bx bd ob'⟩) hl ⟨rx, bx, bd, ob', rfl, B.c.1, hob, B.c.2.1⟩ <;>
        have st3 := st.rows.set (e' := ⟨e.d, z.1, z.2.1, z.2.2.1, z.2.2.2, xC rx e.d bx bd ob'⟩) hl had.symm <;>
        generalize updK y.2 k ⟨e.d, z.1, z.2.1, z.2.2.1, z.2.2.2, xC rx e.d bx bd ob'⟩ = E2 at h1 h2 st2 st3 <;>
        have S := S.led h2
      · skip
        refine r_item (key := k.1) (gg := fun _ o' => ctlLed sd (o', E2)) ((Pu.name C S rfl rfl rfl).ev S) (fun _ s' _ S => Pu.attr C S (Pu.name C S rfl rfl rfl) (S.instB (R.ins hpre)) R.d rfl (at212_shut w)) (fun _ s' _ S => (Pu.name C S rfl rfl rfl)) int_key (fun _ => ctl_head (y := (y.1, E2)) h1) st.sh (by unfold sigP; rw [List.length_map]; omega) (fun _ => rfl) fun _ _ _ o' _ S ho' => ?_
        exact r_ret (Pu.str.ev S) fun _ v s' hv' _ S => hQ _ _ ⟨(o', E2), _, res_st hres (askK_over q hr q2 (show overR r now = true from q3)) ⟨by rw [← sigP_put]; exact ho', st2, st3, ND.same h1 rfl⟩, res_v hres (askK_over q hr q2 (show overR r now = true from q3)) hv', S⟩
      · skip
        exact r_end (r_ret (Pu.str.ev S) fun _ v s' hv' _ S => hQ _ _ ⟨(y.1, E2), _, res_st hres (askK_drop q hr q2 (show overR r now = false from q3)) ⟨st.sh, st2, st3, h1⟩, res_v hres (askK_drop q hr q2 (show overR r now = false from q3)) hv', S⟩)
end

noncomputable abbrev ownL (r : Rw) (t : Addr) : Lm := [(Str.ofString "rate", .int r.rate), (Str.ofString "most", .int (100 * r.burst)), (Str.ofString "grains", .int r.grains), (Str.ofString "time", .int r.time), (Str.ofString "frames", .bool r.fr), (Str.ofString "drops", moP r.mo), (Str.ofString "times", .ref t), (Str.ofString "count", .int r.cnt)]
noncomputable def okO (w : World) (_ : Key) (r : Rw) (e : En) : Prop := e.x = [] ∧ Dct w e.o (ownL r e.t) ∧ IntsAre e.vs r.to
theorem str_key {w : World} {x : Str} (v : Value) (h : (PV.str x).is v) : (PySem.strKind PR w).is x v = true := by
  obtain ⟨t, rfl⟩ := h; simp [PySem.strKind, Value.isStrOf]
theorem s1_ne {g : Heap} {env : Env} {s₀ s : Shared} {lm : Lm} {news : Led} (S : S1 g env s₀ s lm news) {a : Addr} {o : Obj} (h : g.get? a = some o) : a ≠ env.locals := by
  obtain ⟨⟨m, F, _⟩, _⟩ := S
  exact Nat.ne_of_lt (Nat.lt_of_lt_of_le (Heap.lt_size h) F.above)
section
variable {w : World} {RO : Led} {D sd : Addr} {xs : TXs}
theorem mended_v (R : RoD w RO D xs) (los : (sd == sysModules) = false) (ρ : Rho) (σ : Sig) (y0 : CSt) (st : St w (okO w) xs sd ρ σ y0) (hz : σ.length ≤ 100) (p : Int) :
    SpecV w 2 257 [.ref D, .ref sd, .int p] RO (ctlLed sd y0) (St w (okO w) xs sd (mendA ρ p) (delS σ p)) (fun _ => .none) (ctlLed sd) := by
  refine specV_of [Str.ofString "own", Str.ofString "shut", Str.ofString "port"] [] [] rfl (by k_is) (by k_is) (by decide) (fun vs s hvs hX => ?_) (by decide) rfl rfl rfl (by decide) fun A env g s Q E pE hQ C S hpre lt => ?_
  · obtain ⟨_, _, _, rfl⟩ := hvs.three; exact BindsTo.of_eq rfl
  refine r_pop (q := .int p) (key := p) C S (Pu.name C S rfl rfl rfl) (by exact ⟨_, _, rfl, (Pu.name C S rfl rfl rfl), rfl, _, _, rfl, Pu.none, rfl, rfl⟩) (fun v ⟨t, e⟩ => by subst e; exact ⟨by simp [PySem.intKind, Value.isInt], rfl⟩) (ctl_head st.nd) st.sh los (by unfold sigP; rw [List.length_map]; exact hz) (fun _ => ⟨_, rfl⟩) (fun _ => rfl) (fun _ => rfl) fun s o1 S ho1 => ?_
  refine r_for C pE (Pu.ev (Pu.glob (p := .ref 238) C S (by k_is) rfl rfl rfl) S) rfl (fun _ => rfl) fun _ v s hv _ S => ?_
  cases hv
  obtain ⟨tvs, tn, dd, sl, ht, hs⟩ : ∃ (l : List Value) (n : Nat) (dd : Option Addr) (sl : Array (Option Value)), (Mine.pre.heap_1 w.params).lookup 238 = some ⟨.type "list", dd, .seq l.toArray n, sl⟩ ∧ StrsAre l kindsL := ⟨_, _, _, _, by k_is, by kde_strs⟩
  have hlen : tvs.length = 3 := hs.len_eq
  have hgl := C.X _ _ ht
  refine ⟨3, fun i => .str (kdAt i), [], fun i l nx => ∃ y, nx = ctlLed sd y ∧ St w (okO w) xs sd (mendI ρ p i) (delS σ p) y ∧ l.lookup (Str.ofString "own") = some (.ref D) ∧ l.lookup (Str.ofString "port") = some (.int p), hlen ▸ itr_list C S ⟨_, S.keep _ _ hgl, rfl, _, rfl⟩ (.inl ⟨_, hgl⟩) (s1_ne S hgl) (pv_strs hs), (fun _ _ _ _ _ h => nomatch h), ⟨_, rfl, ⟨by rw [← sigP_del]; exact ho1, st.rel, st.rows, st.nd.same rfl⟩, rfl, rfl⟩, ?_, ?_⟩
  · rintro I it i l nx s Q' hi ⟨y, rfl, st, l1, l2⟩ S off hT
    have hs := mendI_succ ρ p hi
    refine r_ifE (TEv.inT C S (R.td hpre _) (by exact ⟨_, _, rfl, Pu.name C S l2 rfl rfl, rfl, _, _, rfl, (Pu.name C S rfl rfl rfl), rfl, rfl⟩) (fun s' S => Pu.name C S l1 rfl rfl) rfl) (fun _ s q _ S => ?_) fun _ s q _ S => ?_
    · obtain ⟨e, hl, ka, hka⟩ := st.rows.isSome q
      obtain ⟨r, hr, hx, ok, _⟩ := st.rel.at hl
      obtain ⟨F, hF⟩ := focus hl st.nd
      have S := S.led (turn_in hF)
      have hall := fun (q : Addr × Obj) => S.mem (a := q.1) (o := q.2)
      have had : e.ad = e.d := by unfold En.ad; rw [hx]
      refine r_itemE (o := e.o) (D := e.d) (knd := PySem.strKind PR w) (key := Str.ofString "times") (q := .str (Str.ofString "times")) (ev_list (ps := []) S rfl (Nat.le_of_ble_eq_true rfl)) (fun l s' hc S => ev_itemT C S (R.td hpre _) (Pu.name C S l1 rfl rfl) (by exact ⟨_, _, rfl, Pu.name C S l2 rfl rfl, rfl, _, _, rfl, (Pu.name C S rfl rfl rfl), rfl, rfl⟩) hka (congrArg Value.ref had)) (fun _ _ _ => Pu.str) str_key (fun l s' hc _ => turn_upd hF off hall hc.2) ok (Nat.le_of_ble_eq_true rfl) (fun _ => rfl) fun l s1 s2 o2 hc S ho2 => r_end (r_end (hT _ _ ?_))
      obtain ⟨la, lvs⟩ := l
      obtain ⟨hlv, hln⟩ := hc
      cases hlv
      have hout := turn_out hF off hall hln o2
      exact ⟨_, _, S.led (List.forall_mem_cons.mpr ⟨.tail _ (.tail _ (.head _)), fun p hp => (hout p hp).1⟩), fun p hp => (hout p hp).2, (y.1, updK y.2 (p, kdAt i) (e.clr o2 la)), rfl, ⟨st.sh, by rw [hs, clrR_some hr]; exact st.rel.set hl ⟨hx, ho2, .nil⟩, st.rows.set hl (by unfold En.ad; rw [hx]), turn_nd hF hall hln o2⟩, l1, l2⟩
    · exact r_end (r_end (hT _ _ ⟨_, _, S, off, y, rfl, by rw [hs, clrR_none (st.rel.no (st.rows.isNone q))]; exact st, l1, l2⟩))
  · rintro l nx s ⟨y, rfl, st, _⟩ S
    exact r_end (hQ _ _ ⟨y, l, st, rfl, S⟩)
end

section
variable {n : Nat} {now size : Int} {r : Rw}
theorem own_fill (G : GoodR n now r) : (if 100 * r.burst < r.grains + r.rate * (now - r.time) then 100 * r.burst else r.grains + r.rate * (now - r.time)) = fillG r.rate r.burst r.grains r.time now := by
  have h1 := G.t
  have h2 := G.g
  unfold fillG
  rw [Int.mul_comm r.burst 100]
  by_cases h : now ≤ r.time
  · have e : now = r.time := Int.le_antisymm h h1
    rw [if_pos h, e, Int.sub_self, Int.mul_zero, Int.add_zero, if_neg (by omega)]
  · rw [if_neg h]
theorem own_let : decide ((if r.fr = true then 100 else 100 * size) ≤ fillG r.rate r.burst r.grains r.time now) = letB r size now := by
  unfold letB costF
  by_cases h : r.fr = true
  · rw [if_pos h, if_pos h]; rfl
  · rw [if_neg h, if_neg h, Int.mul_comm]
theorem lastOf_snoc (now : Int) (ns : List Int) : (ns ++ [now]).filter (fun t => decide (now - 100 < t)) = lastOf now ns ++ [now] := by
  unfold lastOf
  rw [List.filter_append]
  congr 1
  · exact List.filter_congr fun t _ => decide_eq_decide.mpr (by omega)
  · exact List.filter_eq_self.mpr fun a ha => by rw [List.mem_singleton.mp ha]; exact decide_eq_true (by omega)
theorem own_over (G : GoodR n now r) {i : Int} (h : r.mo = some i) : decide (i < (((r.to ++ [now]).filter fun t => decide (now - 100 < t)).length : Nat)) = overR r now := by
  unfold overR overB
  rw [lastOf_snoc, G.l (by rw [h]; exact fun e => nomatch e) now (Int.le_refl _), h]
end
section
variable {hd F : Led} {es : Es} {k : Key} {e : En} {c : Addr} {oc : Obj}
noncomputable def ownG (e : En) (c : Addr) (oc : Obj) (F : Led) (o l : Obj) : Led := (e.d, o) :: (e.t, l) :: (c, oc) :: F
theorem own_in (hF : Foc hd es k e F) : ∀ p ∈ ownG e c oc F e.o (listOf e.vs.toArray e.n), p ∈ (c, oc) :: ledK hd es := fun p hp => by
  rcases List.mem_cons.mp hp with rfl | hp
  · exact .tail _ (hF.mem _ (.head _))
  · rcases List.mem_cons.mp hp with rfl | hp
    · exact .tail _ (hF.mem _ (.tail _ (.head _)))
    · rcases List.mem_cons.mp hp with rfl | hp
      · exact .head _
      · exact .tail _ (hF.sub _ hp)
theorem own_upd (hF : Foc hd es k e F) (hc : ∀ p ∈ ledK hd es, p.1 ≠ c) (o l : Obj) : UpdF e.d o (ownG e c oc F o l) (fun o' => ownG e c oc F o' l) ∧ UpdF e.t l (ownG e c oc F o l) (fun l' => ownG e c oc F o l') := by
  have n1 : @Ne Nat e.d e.t := hF.nd.ne
  refine ⟨.head fun p hp z => ?_, .tail n1 (.head fun p hp z => ?_)⟩
  · rcases List.mem_cons.mp hp with rfl | hp
    · exact n1 z.symm
    · rcases List.mem_cons.mp hp with rfl | hp
      · exact hc _ (hF.mem (e.d, e.o) (.head _)) z.symm
      · exact hF.off p hp (z ▸ .head _)
  · rcases List.mem_cons.mp hp with rfl | hp
    · exact hc _ (hF.mem (e.t, _) (.tail _ (.head _))) z.symm
    · exact hF.off p hp (z ▸ .tail _ (.head _))
theorem own_out (hF : Foc hd es k e F) (hx : e.x = []) {h : Heap} (hall : ∀ p ∈ F, ∃ o, h.get? p.1 = some o) (o' : Obj) (vs : List Value) (m : Nat) : ND (ledK hd (updK es k ⟨e.d, o', e.t, vs, m, []⟩)) ∧ ∀ p ∈ ledK hd (updK es k ⟨e.d, o', e.t, vs, m, []⟩), p ∈ ownG e c oc F o' (listOf vs.toArray m) := by
  have nd := hF.nd
  unfold En.led at nd
  rw [hx] at nd
  refine ⟨hF.ndU _ h (nd.same rfl) hall fun p hp => .inl ?_, fun p hp => ?_⟩
  · rcases List.mem_cons.mp hp with rfl | hp
    · exact .head _
    · rw [List.mem_singleton.mp hp]; exact .tail _ (.head _)
  · rcases hF.back _ p hp with hp | hp
    · rcases List.mem_cons.mp hp with rfl | hp
      · exact .head _
      · rw [List.mem_singleton.mp hp]; exact .tail _ (.head _)
    · exact .tail _ (.tail _ (.tail _ hp))
end
section
variable {w : World} {A : Around} {env : Env} {g : Heap} {s₀ s : Shared} {lm l : Lm} {news : Led} {c a e : PySem.Expr} {x : Str} {p : PV} {D : Addr} {o : Obj} {k : Nat} {pos ppos : Pos} {b b' : Bool} {Q : Flow → Shared → Prop} {E : Value → Shared → Prop} {rest body orelse : List Stmt}
theorem Te.eq (h : Te w A env s e b) (q : b = b') : Te w A env s e b' := q ▸ h
theorem Pu.fld (S : S1 g env s₀ s lm news) (hc : Pu w A env s c (.ref D)) (hm : (D, o) ∈ news) (hD : Dct w o l) (hl : l.lookup x = some p) (hs : ∀ kv, subscripted (.Constant (.str x) k ppos) false (.ref D) kv = operate [.ref D, kv] (getItem (.ref D) kv)) : Pu w A env s (.Subscript c (.Constant (.str x) k ppos) pos) p :=
  Pu.item S hc Pu.str str_key hm hD hl hs
/-- a branch whose ends meet -/
theorem r_ifJ (J : Shared → Prop) (hT : Te w A env s e b) (S : S1 g env s₀ s lm news) (k1 : b = true → ∀ s' Q', S1 g env s₀ s' lm news → s'.heap = s.heap → (∀ s', J s' → Q' .next s') → wpAny (model PR w) A (execs body env) Q' E s')
    (k2 : b = false → ∀ s' Q', S1 g env s₀ s' lm news → s'.heap = s.heap → (∀ s', J s' → Q' .next s') → wpAny (model PR w) A (execs orelse env) Q' E s') (k : ∀ s', J s' → wpAny (model PR w) A (execs rest env) Q E s') : wpAny (model PR w) A (execs (.If e body orelse pos :: rest) env) Q E s :=
  r_if hT S (fun q s' S' e => k1 q s' (Then w A env rest Q E) S' e k) fun q s' S' e => k2 q s' (Then w A env rest Q E) S' e k
end
/-- `a in c` for the dict of ports that are shut -/
theorem Te.inS {w : World} {A : Around} {env : Env} {g : Heap} {s₀ s : Shared} {lm : Lm} {news : Led} {a c : PySem.Expr} {D : Addr} {o : Obj} {pos : Pos} {σ : Sig} {key : Int} {b : Bool} (S : S1 g env s₀ s lm news) (ha : Pu w A env s a (.int key)) (hc : Pu w A env s c (.ref D)) (hm : (D, o) ∈ news) (hD : DctK (PySem.intKind PR w) o (sigP σ)) (lo : (D == sysModules) = false) (h : (σ.lookup key).isSome = b) (hb : behindInMarks .In c = false) :
    Te w A env s (.Compare a [.In] [c] pos) b := Te.eq (Te.inD S ha int_key hc hm hD lo hb) (by rw [sigP_lookup, Option.isSome_map, h])

noncomputable def oLm (D sd : Addr) (rec : Int) (k : Key) (size : Int) : Lm := [(Str.ofString "own", .ref D), (Str.ofString "shut", .ref sd), (Str.ofString "recovery", .int rec), (Str.ofString "port", .int k.1), (Str.ofString "kind", .str k.2), (Str.ofString "size", .int size)]
section
variable {w : World} {RO : Led} {D sd : Addr} {xs : TXs}
theorem own_asked_v (R : RoD w RO D xs) (los : (sd == sysModules) = false) (ρ : Rho) (σ : Sig) (y0 : CSt) (st : St w (okO w) xs sd ρ σ y0) (hz : σ.length ≤ 90) (rec : Int) (k : Key) (size now : Int) (hg : Good 900 now ρ) {ρ2 : Rho} {σ2 : Sig} {v2 : Str} (hres : askA ρ σ rec k size now = (ρ2, σ2, v2)) :
    SpecV w 3 250 [.ref D, .ref sd, .int rec, .int k.1, .str k.2, .int size, .int now] RO (ctlLed sd y0) (St w (okO w) xs sd ρ2 σ2) (fun _ => .str v2) (ctlLed sd) := by
  refine specV_ofC [Str.ofString "own", Str.ofString "shut", Str.ofString "recovery", Str.ofString "port", Str.ofString "kind", Str.ofString "size", Str.ofString "now"]
    (oLm D sd rec k size) (Str.ofString "now") (.int now) (by k_is) (by k_is) (by decide) (fun vs s hvs hX => ?_) (by decide) (fun _ => rfl) rfl rfl rfl rfl rfl rfl fun A env g s Q E c oc v pE hQ C he hoc hpv S hoff hpre _ => ?_
  · obtain ⟨_, _, _, _, _, _, _, rfl⟩ := hvs.seven; exact BindsTo.of_eq rfl
  obtain ⟨cn, L, a, ccd, rfl⟩ := he
  have hz2 := expS_len σ rec k.1 now
  have hg := hg.exp σ rec k.1
  have hl := sigP_lookup σ k.1
  unfold askA at hres
  refine r_ifJ (fun s' => ∃ y, St w (okO w) xs sd (expR ρ σ rec k.1 now) (expS σ rec k.1 now) y ∧ S1 g _ s s' _ ((c, oc) :: ctlLed sd y) ∧ ∀ p ∈ ctlLed sd y, p.1 ≠ c) (b := expB σ rec k.1 now) ?_ S (fun q s Q' S _ hJ => ?_) (fun q s Q' S _ hJ => r_end (hJ _ ⟨y0, by rw [expR, expS, q]; exact st, S, hoff⟩)) fun s ⟨y, st, S, hoff⟩ => ?_
  · cases h : σ.lookup k.1 with
    | none => exact Te.eq (Te.and_f (Te.inS S (Pu.name C S rfl rfl rfl) (Pu.name C S rfl rfl rfl) (.tail _ (.head _)) st.sh los (b := false) (by rw [h]; rfl) rfl)) (by unfold expB; rw [h])
    | some t => exact Te.eq (Te.and_t (Te.inS S (Pu.name C S rfl rfl rfl) (Pu.name C S rfl rfl rfl) (.tail _ (.head _)) st.sh los (b := true) (by rw [h]; rfl) rfl) (Te.and2 (Te.gt (Pu.name C S rfl rfl rfl) Pu.int rfl) (Te.ge (Pu.sub (Pu.cell S rfl rfl rfl (.head _) hoc hpv) (Pu.item (key := k.1) S (Pu.name C S rfl rfl rfl) (Pu.name C S rfl rfl rfl) int_key (.tail _ (.head _)) st.sh (by rw [hl, h]; rfl) (fun _ => by with_unfolding_all rfl))) (Pu.name C S rfl rfl rfl) rfl))) (by unfold expB; rw [h])
  · refine r_expr C (ev_fun (mended_v R los ρ σ y0 st (Nat.le_trans hz (by decide)) k.1) C (Nat.le_refl _) S (by k_is) rfl (by k_is) (by exact ⟨_, _, rfl, (Pu.name C S rfl rfl rfl), rfl, _, _, rfl, (Pu.name C S rfl rfl rfl), rfl, _, _, rfl, (Pu.name C S rfl rfl rfl), rfl, rfl⟩) (fun _ => rfl) [(c, oc)] (fun _ h => .tail _ h) (fun _ h => by rw [List.mem_singleton.mp h]; exact .head _) (fun p h z => ?_) (S.pre hpre fun _ h => .tail _ h)) (fun _ => rfl) fun y s' B S' => r_end (hJ _ ⟨y, by rw [expR, expS, q]; exact B.c, S'.led (List.forall_mem_cons.mpr ⟨List.mem_append_right _ (.head _), fun _ h => List.mem_append_left _ h⟩), fun p hp z => ?_⟩)
    · obtain ⟨p', hp', z'⟩ := List.mem_map.mp z
      rw [List.mem_singleton.mp h] at z'
      exact hoff p' hp' z'
    · rcases B.new p hp with h | h
      · obtain ⟨p', hp', z'⟩ := List.mem_map.mp h
        exact hoff p' hp' (z'.trans z)
      · rw [z, S.mem (.head _)] at h; cases h
  generalize expR ρ σ rec k.1 now = ρ at st hg hres
  generalize expS σ rec k.1 now = σ at st hz2 hres
  refine r_if (Te.inS S (Pu.name C S rfl rfl rfl) (Pu.name C S rfl rfl rfl) (.tail _ (.head _)) st.sh los rfl rfl) S (fun q s S _ => ?_) fun q s S _ => ?_
  · skip
    exact r_ret (Pu.str.ev S) fun _ v s' hv _ S => hQ _ _ ⟨y, _, res_st hres (askK_shut q) st, res_v hres (askK_shut q) hv, S.led fun _ h => .tail _ h⟩
  refine r_end ?_
  refine r_ifE (TEv.ninT C S (R.td hpre _) (by exact ⟨_, _, rfl, (Pu.name C S rfl rfl rfl), rfl, _, _, rfl, (Pu.name C S rfl rfl rfl), rfl, rfl⟩) (fun s' S => (Pu.name C S rfl rfl rfl)) rfl) (fun _ s q2 _ S => ?_) fun _ s q2 _ S => ?_
  · have hn := st.rows.isNone (k := k) (by simpa using q2)
    exact r_ret (Pu.str.ev S) fun _ v s' hv _ S => hQ _ _ ⟨y, _, res_st hres (askK_no q (st.rel.no hn)) st, res_v hres (askK_no q (st.rel.no hn)) hv, S.led fun _ h => .tail _ h⟩
  obtain ⟨e, hl, ka, hka⟩ := st.rows.isSome (k := k) (by simpa using q2)
  obtain ⟨r, hr, hx, ho, hv⟩ := st.rel.at hl
  obtain ⟨F, hF⟩ := focus hl st.nd
  have had : e.ad = e.d := by unfold En.ad; rw [hx]
  have G := hg k r hr
  refine r_end ?_
  refine r_set C (ev_itemT (p := .ref e.d) C S (R.td hpre _) (Pu.name C S rfl rfl rfl) (by exact ⟨_, _, rfl, (Pu.name C S rfl rfl rfl), rfl, _, _, rfl, (Pu.name C S rfl rfl rfl), rfl, rfl⟩) hka (congrArg Value.ref had)) rfl (fun _ => rfl) fun _ _ s _ S _ => ?_
  have S := S.led (own_in hF)
  refine r_item (q := .str (Str.ofString "grains")) (ev_min C S (by k_is) rfl (Pu.add (Pu.fld S (Pu.name C S rfl rfl rfl) (.head _) ho rfl (fun _ => by with_unfolding_all rfl)) (Pu.mul (Pu.fld S (Pu.name C S rfl rfl rfl) (.head _) ho rfl (fun _ => by with_unfolding_all rfl)) (Pu.sub (Pu.cell S rfl rfl rfl (.tail _ (.tail _ (.head _))) hoc hpv) (Pu.fld S (Pu.name C S rfl rfl rfl) (.head _) ho rfl (fun _ => by with_unfolding_all rfl))) (mul_l G.r0 G.r1))) (Pu.fld S (Pu.name C S rfl rfl rfl) (.head _) ho rfl (fun _ => by with_unfolding_all rfl)) (fun _ => rfl) (fun _ => rfl)) (fun _ s' _ S => (Pu.name C S rfl rfl rfl)) (fun _ s' _ S => Pu.str) str_key (fun _ => (own_upd hF hoff _ _).1) ho (Nat.le_of_ble_eq_true rfl) (fun _ => rfl) fun _ _ s o1 _ S ho1 => ?_
  rw [own_fill G] at ho1
  refine r_item (q := .str (Str.ofString "time")) ((Pu.cell S rfl rfl rfl (.tail _ (.tail _ (.head _))) hoc hpv).ev S) (fun _ s' _ S => (Pu.name C S rfl rfl rfl)) (fun _ s' _ S => Pu.str) str_key (fun _ => (own_upd hF hoff _ _).1) ho1 (Nat.le_of_ble_eq_true rfl) (fun _ => rfl) fun _ _ s o2 _ S ho2 => ?_
  have ho : Dct w o2 (ownL { r with grains := fillG r.rate r.burst r.grains r.time now, time := now } e.t) := ho2
  clear ho2 ho1
  refine r_set C (Pu.ev (Pu.ifx (p := .int (if r.fr = true then 100 else 100 * size)) (Te.plain (Pu.fld S (Pu.name C S rfl rfl rfl) (.head _) ho rfl (fun _ => by with_unfolding_all rfl)) (fun _ _ => rfl)) (fun h => by rw [if_pos h]; exact Pu.int) (fun h => by rw [if_neg (by rw [h]; decide)]; exact Pu.mul Pu.int (Pu.name C S rfl rfl rfl) (mul_l (by decide) (by decide)))) S) rfl (fun _ => rfl) fun _ _ s _ S _ => ?_
  refine r_if (Te.eq (Te.ge (Pu.fld S (Pu.name C S rfl rfl rfl) (.head _) ho rfl (fun _ => by with_unfolding_all rfl)) (Pu.name C S rfl rfl rfl) rfl) own_let) S (fun q2 s S _ => ?_) fun q2 s S _ => ?_
  · skip
    have hq : costF r.fr size * 100 ≤ fillG r.rate r.burst r.grains r.time now := of_decide_eq_true q2
    refine r_item (q := .str (Str.ofString "grains")) (Pu.ev (Pu.sub (Pu.fld S (Pu.name C S rfl rfl rfl) (.head _) ho rfl (fun _ => by with_unfolding_all rfl)) (Pu.name C S rfl rfl rfl)) S) (fun _ s' _ S => (Pu.name C S rfl rfl rfl)) (fun _ s' _ S => Pu.str) str_key (fun _ => (own_upd hF hoff _ _).1) ho (Nat.le_of_ble_eq_true rfl) (fun _ => rfl) fun _ _ s o3 _ S ho3 => ?_
    have ho3 : Dct w o3 (ownL (rowLet r size now) e.t) := by
      unfold rowLet takeG; rw [if_pos hq, show costF r.fr size * 100 = (if r.fr = true then 100 else 100 * size) by unfold costF; split; rfl; exact Int.mul_comm _ _]; exact ho3
    obtain ⟨h1, h2⟩ := own_out (c := c) (oc := oc) hF hx (h := s.heap) (fun p hp => ⟨_, S.mem (.tail _ (.tail _ (.tail _ hp)))⟩) o3 e.vs e.n
    exact r_ret (Pu.str.ev S) fun _ v s' hv' _ S => hQ _ _ ⟨(y.1, updK y.2 k ⟨e.d, o3, e.t, e.vs, e.n, []⟩), _, res_st hres (askK_let q hr q2) ⟨st.sh, st.rel.set hl ⟨rfl, ho3, hv⟩, st.rows.set hl had.symm, h1⟩, res_v hres (askK_let q hr q2) hv', S.led h2⟩
  have hq : ¬ costF r.fr size * 100 ≤ fillG r.rate r.burst r.grains r.time now := of_decide_eq_false q2
  refine r_end ?_
  refine r_item (q := .str (Str.ofString "count")) (Pu.ev (Pu.add (Pu.fld S (Pu.name C S rfl rfl rfl) (.head _) ho rfl (fun _ => by with_unfolding_all rfl)) Pu.int) S) (fun _ s' _ S => (Pu.name C S rfl rfl rfl)) (fun _ s' _ S => Pu.str) str_key (fun _ => (own_upd hF hoff _ _).1) ho (Nat.le_of_ble_eq_true rfl) (fun _ => rfl) fun _ _ s o3 _ S ho3 => ?_
  have ho : Dct w o3 (ownL (rowDrop r size now) e.t) := by unfold rowDrop rowLet takeG; rw [if_neg hq]; exact ho3
  clear ho3
  refine r_expr C (ev_append S (Pu.fld S (Pu.name C S rfl rfl rfl) (.head _) ho rfl (fun _ => by with_unfolding_all rfl)) (Pu.cell S rfl rfl rfl (.tail _ (.tail _ (.head _))) hoc hpv) (own_upd hF hoff _ _).2 (by rw [List.size_toArray, hv.length]; exact Nat.le_trans G.no (by decide)) (fun _ => ⟨_, rfl⟩) rfl) (fun _ => rfl) fun tv s htv S => ?_
  rw [List.push_toArray] at S
  obtain ⟨tt, htv⟩ := htv
  have hv2 : IntsAre (e.vs ++ [tv]) (r.to ++ [now]) := IntsAre.append hv (by rw [htv]; exact .cons now tt .nil)
  have hz3 : (e.vs ++ [tv]).length ≤ 100000 := by rw [List.length_append, hv.length]; exact Nat.le_trans (Nat.add_le_add_right G.no 1) (by decide)
  obtain ⟨h1, h2⟩ := own_out (c := c) (oc := oc) hF hx (h := s.heap) (fun p hp => ⟨_, S.mem (.tail _ (.tail _ (.tail _ hp)))⟩) o3 (e.vs ++ [tv]) (e.n + 1)
  have st2 := st.rel.set (r := rowDrop r size now) (e' := ⟨e.d, o3, e.t, e.vs ++ [tv], e.n + 1, []⟩) hl ⟨rfl, ho, hv2⟩
  have st3 := st.rows.set (e' := ⟨e.d, o3, e.t, e.vs ++ [tv], e.n + 1, []⟩) hl had.symm
  generalize updK y.2 k ⟨e.d, o3, e.t, e.vs ++ [tv], e.n + 1, []⟩ = E2 at h1 h2 st2 st3
  cases hm : r.mo with
  | none =>
    refine r_if (Te.and_f (Te.eq (Te.isNot (Pu.fld S (Pu.name C S rfl rfl rfl) (.head _) ho rfl (fun _ => by with_unfolding_all rfl))) (by show (!(moP r.mo).noneB) = _; rw [hm]; rfl))) S (fun q3 => nomatch q3) fun _ s S _ => r_end ?_
    exact r_ret (Pu.str.ev S) fun _ v s' hv' _ S => hQ _ _ ⟨(y.1, E2), _, res_st hres (askK_drop q hr q2 (show overR r now = false by unfold overR overB; rw [hm])) ⟨st.sh, st2, st3, h1⟩, res_v hres (askK_drop q hr q2 (show overR r now = false by unfold overR overB; rw [hm])) hv', S.led h2⟩
  | some i =>
    refine r_ifE (TEv.and_t (Te.eq (Te.isNot (Pu.fld S (Pu.name C S rfl rfl rfl) (.head _) ho rfl (fun _ => by with_unfolding_all rfl))) (by show (!(moP r.mo).noneB) = _; rw [hm]; rfl)) fun tk => TEv.gtE (j := i) (ev_len (la := fun (z : Addr × List Value) => z.1) (its := fun (z : Addr × List Value) => z.2.toArray) C (S.tok tk) (by k_is) rfl (fun tk2 => ev_filter (pred := fun t => decide (now - 100 < t)) (cl := [(Str.ofString "now", c)]) C (S.tok tk2) (by with_unfolding_all rfl) (fun _ => rfl) (Pu.fld (S.tok tk2) (Pu.name C (S.tok tk2) rfl rfl rfl) (.head _) ho rfl (fun _ => by with_unfolding_all rfl)) (.tail _ (.head _)) hv2 hz3 fun t tt I oI Ca oC m₂ s' nx hC hx S' hm hsub _ => ?_)
      (fun z s' hc S => ⟨⟨_, S.mem (.head _), rfl, _, rfl⟩, by rw [List.size_toArray, hc.1.length]; exact Nat.le_trans (List.length_filter_le _ _) (by rw [← hv2.length]; exact hz3)⟩) rfl) (fun z s' hc S => Pu.fld S (Pu.name C S rfl rfl rfl) (.tail _ (.head _)) ho (by show some (moP r.mo) = _; rw [hm]; rfl) (fun _ => by with_unfolding_all rfl)) rfl) (fun z s q3 B S => ?_) fun z s q3 B S => ?_
    · exact ⟨Te.gt (Pu.nsObj S' rfl rfl hm hC hx ⟨tt, rfl⟩) (Pu.sub (Pu.cell S' rfl rfl rfl (hsub _ (.tail _ (.tail _ (.head _)))) hoc hpv) Pu.int) rfl, Pu.nsObj S' rfl rfl hm hC hx ⟨tt, rfl⟩⟩
    all_goals
      obtain ⟨_, _, _, B, _⟩ := B
      rw [List.size_toArray, B.length, own_over G hm] at q3
      have S0 := S
      have S := S.led (news' := ctlLed sd (y.1, E2)) fun p hp => .tail _ (h2 p hp)
    · skip
      refine r_item (key := k.1) (gg := fun _ o' => ctlLed sd (o', E2)) (Pu.evT (Pu.cell S0 rfl rfl rfl (.tail _ (.tail _ (.tail _ (.head _)))) hoc hpv) S) (fun _ s' _ S => (Pu.name C S rfl rfl rfl)) (fun _ s' _ S => (Pu.name C S rfl rfl rfl)) int_key (fun _ => ctl_head (y := (y.1, E2)) h1) st.sh (by unfold sigP; rw [List.length_map]; omega) (fun _ => rfl) fun _ _ _ o' _ S ho' => ?_
      exact r_ret (Pu.str.ev S) fun _ v s' hv' _ S => hQ _ _ ⟨(o', E2), _, res_st hres (askK_over q hr q2 q3) ⟨by rw [← sigP_put]; exact ho', st2, st3, ND.same h1 rfl⟩, res_v hres (askK_over q hr q2 q3) hv', S⟩
    · skip
      exact r_end (r_ret (Pu.str.ev S) fun _ v s' hv' _ S => hQ _ _ ⟨(y.1, E2), _, res_st hres (askK_drop q hr q2 q3) ⟨st.sh, st2, st3, h1⟩, res_v hres (askK_drop q hr q2 q3) hv', S⟩)
end

theorem dct_nil {w : World} : Dct w (dictOf [] 0) [] := ⟨[], ⟨#[], 0, ⟨rfl, rfl, rfl⟩, rfl, (fun _ h => by simp at h), .nil, List.nodup_nil⟩, rfl⟩
theorem Te.or_ff {w : World} {A : Around} {env : Env} {s : Shared} {a b : PySem.Expr} {pos : Pos} (ha : Te w A env s a false) (hb : Te w A env s b false) : Te w A env s (.BoolOp .Or [a, b] pos) false := fun _ _ tk k =>
  isTrue_or (ha _ _ tk fun tk => isTrue_or (hb _ _ tk fun tk => isTrue_or_nil (k tk)))
theorem Te.ninTup {w : World} {A : Around} {env : Env} {g : Heap} {d : Nat} {sc : Scope} {s₀ s : Shared} {lm : Lm} {news : Led} {a c : PySem.Expr} {pos : Pos} {x : Str} {t : Addr} {l : List Value} {ys : List Str} {n : Nat} {dd : Option Addr} {sl : Array (Option Value)} {b : Bool} (C : Cx w A env g d sc) (S : S1 g env s₀ s lm news) (ha : Pu w A env s a (.str x)) (hc : Pu w A env s c (.ref t))
    (ht : (Mine.pre.heap_1 w.params).lookup t = some ⟨.type "tuple", dd, .seq l.toArray n, sl⟩) (hi : StrsAre l ys) (hb : (ys.any (· == x)) = b) (hm : behindInMarks .NotIn c = false) : Te w A env s (.Compare a [.NotIn] [c] pos) (!b) := fun Q E tk k =>
  wpAny_isTrue_Compare1 (ha _ _ tk fun v tk1 hv => hc _ _ tk1 fun u tk2 hu => by
    obtain ⟨t', rfl⟩ := hv; cases hu
    exact notin_tuple_strs (s := { s with toks := tk2 }) (tupK (C.X.keeps S.keep) ht) (by simpa using hi) (by rw [hb]; exact wpAny_truthy_bool (k _))) hm
theorem bkt_init (w : World) (x dx : Addr) (hxd : @LT.lt Nat _ dx x) (rate burst : Int) (h1 : 0 ≤ rate) (h2 : 1 ≤ burst) :
    SpecV w 1 75 [.ref x, .int rate, .int burst] [] [(x, instObj 127 dx), (dx, dictOf [] 0)] (fun o => Dct w o (bktL rate burst (100 * burst) 0)) (fun _ => .none) (fun o => bkLed x dx o) := by
  refine specV_of [Str.ofString "self", Str.ofString "rate", Str.ofString "burst"] [] [] rfl (by k_is) (by k_is) (by decide) (fun vs s hvs hX => ?_) (by decide) rfl rfl rfl (by decide) fun A env g s Q E pE hQ C S hpre lt => ?_
  · obtain ⟨_, _, _, rfl⟩ := hvs.three; exact BindsTo.of_eq rfl
  have hne : @Ne Nat x dx := (Nat.ne_of_lt hxd).symm
  refine r_if (Te.or_ff (Te.eq (Te.lt (Pu.name C S rfl rfl rfl) Pu.int rfl) (decide_eq_false (by omega))) (Te.eq (Te.lt (Pu.name C S rfl rfl rfl) Pu.int rfl) (decide_eq_false (by omega)))) S (fun q => nomatch q) fun _ s S _ => r_end ?_
  refine r_attr C (Pu.ev (Pu.name C S rfl rfl rfl) S) rfl rfl (.head _) (.tail hne (.head fun _ h => nomatch h)) dct_nil (st127_rate w) (Nat.le_of_ble_eq_true rfl) (fun _ => rfl) fun _ _ s o _ S ho => ?_
  refine r_attr C (Pu.ev (Pu.name C S rfl rfl rfl) S) rfl rfl (.head _) (.tail hne (.head fun _ h => nomatch h)) ho (st127_burst w) (Nat.le_of_ble_eq_true rfl) (fun _ => rfl) fun _ _ s o _ S ho => ?_
  refine r_attr C (Pu.ev (Pu.mul (Pu.name C S rfl rfl rfl) (Pu.glob C S (by k_is) ⟨_, rfl⟩ rfl rfl) mul_100) S) rfl rfl (.head _) (.tail hne (.head fun _ h => nomatch h)) ho (st127_grains w) (Nat.le_of_ble_eq_true rfl) (fun _ => rfl) fun _ _ s o _ S ho => ?_
  refine r_attr C (Pu.ev Pu.int S) rfl rfl (.head _) (.tail hne (.head fun _ h => nomatch h)) ho (st127_time w) (Nat.le_of_ble_eq_true rfl) (fun _ => rfl) fun _ _ s o _ S ho => r_end (hQ _ _ ⟨o, _, by rw [Int.mul_comm 100]; exact ho, rfl, S⟩)
noncomputable abbrev newR (rate burst : Int) (fr : Bool) (mo : Option Int) : Rw := ⟨rate, burst, 100 * burst, 0, fr, mo, 0, [], []⟩
noncomputable abbrev rowPs : List Str := [Str.ofString "self", Str.ofString "port", Str.ofString "kind", Str.ofString "rate", Str.ofString "burst", Str.ofString "is_by_frames", Str.ofString "most"]

theorem nodup5 {a b c d e : Addr} (h1 : @Ne Nat a b) (h2 : @Ne Nat a c) (h3 : @Ne Nat a d) (h4 : @Ne Nat a e) (h5 : @Ne Nat b c) (h6 : @Ne Nat b d) (h7 : @Ne Nat b e) (h8 : @Ne Nat c d) (h9 : @Ne Nat c e) (h10 : @Ne Nat d e) : [a, b, c, d, e].Nodup := by
  simp only [List.nodup_cons, List.mem_cons, List.not_mem_nil, or_false, not_or, List.nodup_nil, and_true, not_false_eq_true]
  exact ⟨⟨h1, h2, h3, h4⟩, ⟨h5, h6, h7⟩, ⟨h8, h9⟩, h10⟩
theorem ND.far {news all : Led} {β : Type} {Cc : Addr → Addr → β → Prop} {fn : Addr → Addr → β → Led} {y : Addr × Addr × β} (h : Mk news all Cc fn y) {p : Addr × Obj} (hp : p ∈ all) : @Ne Nat y.1 p.1 ∧ @Ne Nat y.2.1 p.1 :=
  ⟨(Nat.ne_of_lt (Nat.lt_trans (h.2.1 p hp) h.2.2.1)).symm, (Nat.ne_of_lt (h.2.1 p hp)).symm⟩
theorem S1.ne {g : Heap} {env : Env} {s₀ s : Shared} {lm : Lm} {news : Led} (S : S1 g env s₀ s lm news) {a b : Addr} {o : Obj} (h : s.heap.get? a = none) (hm : (b, o) ∈ news) : @Ne Nat a b := fun z => by
  have := S.mem hm; rw [← z, h] at this; cases this
theorem row_init (w : World) (x dx : Addr) (hxd : @LT.lt Nat _ dx x) (k : Key) (hk : (kindsL.any (· == k.2)) = true) (rate burst : Int) (fr : Bool) (mo : Option Int) (h1 : 0 ≤ rate) (h2 : 1 ≤ burst) (args : List PV) (dfl : List Value) (pd : List PV)
    (hc : (args = [.ref x, .int k.1, .str k.2, .int rate, .int burst, .bool fr, moP mo] ∧ dfl = [] ∧ pd = []) ∨ args = [.ref x, .int k.1, .str k.2, .int rate, .int burst] ∧ dfl = [.bool false, .none] ∧ pd = [.bool false, .none] ∧ fr = false ∧ mo = none) :
    SpecV w 3 147 args [] [(x, instObj 162 dx), (dx, dictOf [] 0)] (fun e : En => okC w k (newR rate burst fr mo) e ∧ e.ad = x ∧ ND e.led) (fun _ => .none) En.led := by
  have ha : args ++ pd = [.ref x, .int k.1, .str k.2, .int rate, .int burst, .bool fr, moP mo] := by
    rcases hc with ⟨rfl, _, rfl⟩ | ⟨rfl, _, rfl, rfl, rfl⟩ <;> rfl
  refine specV_of rowPs dfl pd (by rcases hc with ⟨_, rfl, rfl⟩ | ⟨_, rfl, rfl, _⟩; exact rfl; exact ⟨_, _, rfl, rfl, _, _, rfl, rfl, rfl⟩) (by k_is) (by k_is) (by decide) (fun vs s hvs hX => ?_) (by decide) rfl rfl rfl (by decide) fun A env g s Q E pE hQ C S hpre lt => ?_
  · rcases hc with ⟨rfl, rfl, _⟩ | ⟨rfl, rfl, _⟩
    · obtain ⟨_, _, _, _, _, _, _, rfl⟩ := hvs.seven; exact binds_K hX rfl (by k_is) rfl rfl rfl
    · obtain ⟨_, _, _, _, _, rfl⟩ := hvs.five; exact binds_K hX rfl (by k_is) rfl rfl rfl
  rw [ha] at S
  have S := S.led (news' := [(dx, dictOf [] 0), (x, instObj 162 dx)]) (List.forall_mem_cons.mpr ⟨.tail _ (.head _), List.forall_mem_cons.mpr ⟨.head _, fun _ h => nomatch h⟩⟩)
  have hne : ∀ p ∈ [(x, instObj 162 dx)], p.1 ≠ dx := List.forall_mem_cons.mpr ⟨(Nat.ne_of_lt hxd).symm, fun _ h => nomatch h⟩
  obtain ⟨tvs, tn, dd, sl, ht, hs⟩ : ∃ (l : List Value) (n : Nat) (dd : Option Addr) (sl : Array (Option Value)), (Mine.pre.heap_1 w.params).lookup 132 = some ⟨.type "tuple", dd, .seq l.toArray n, sl⟩ ∧ StrsAre l kindsL := ⟨_, _, _, _, by k_is, by kde_strs⟩
  refine r_if (Te.ninTup C S (Pu.name C S rfl rfl rfl) (Pu.glob (p := .ref 132) C S (by k_is) rfl rfl rfl) ht hs hk rfl) S (fun q => nomatch q) fun _ s S _ => r_end ?_
  refine r_attr C (Pu.ev (Pu.name C S rfl rfl rfl) S) rfl rfl (.tail _ (.head _)) (.head hne) dct_nil (st162_port w) (Nat.le_of_ble_eq_true rfl) (fun _ => rfl) fun _ _ s o _ S ho => ?_
  refine r_attr C (Pu.ev (Pu.name C S rfl rfl rfl) S) rfl rfl (.tail _ (.head _)) (.head hne) ho (st162_kind w) (Nat.le_of_ble_eq_true rfl) (fun _ => rfl) fun _ _ s o _ S ho => ?_
  refine r_attr C (Pu.ev (Pu.name C S rfl rfl rfl) S) rfl rfl (.tail _ (.head _)) (.head hne) ho (st162_is_by_frames w) (Nat.le_of_ble_eq_true rfl) (fun _ => rfl) fun _ _ s o _ S ho => ?_
  refine r_attr C (Pu.ev (Pu.name C S rfl rfl rfl) S) rfl rfl (.tail _ (.head _)) (.head hne) ho (st162_most w) (Nat.le_of_ble_eq_true rfl) (fun _ => rfl) fun _ _ s o _ S ho => ?_
  refine r_attrE (o := o) (gg := fun y o' => bkLed y.1 y.2.1 y.2.2 ++ [(dx, o'), (x, instObj 162 dx)]) C (ev_cls (fun bx bd h _ => bkt_init w bx bd h rate burst h1 h2) C (Nat.le_refl _) S (by k_is) (by k_is) (by k_is) (by k_is) rfl (by k_is) (by exact ⟨_, _, rfl, (Pu.name C S rfl rfl rfl), rfl, _, _, rfl, (Pu.name C S rfl rfl rfl), rfl, rfl⟩) (fun _ => rfl) [(dx, o), (x, instObj 162 dx)] (fun _ h => nomatch h) (fun _ h => h) (fun _ _ h => nomatch h)) (fun y s' hc S => Pu.evT (Pu.name C S rfl rfl rfl) S) (fun y => .tail _ (.tail _ (.tail _ (.head _)))) (fun y s' hc S => .tail (ND.far hc (.head _)).1 (.tail (ND.far hc (.head _)).2 (.head hne))) ho (st162_bucket w) (Nat.le_of_ble_eq_true rfl) (fun _ => rfl) fun y s' s o hc S ho => ?_
  obtain ⟨bx, bd, ob⟩ := y
  obtain ⟨m1, m2⟩ := ND.far hc (.head _)
  obtain ⟨m3, m4⟩ := ND.far hc (.tail _ (.head _))
  have m5 : @Ne Nat bx bd := (Nat.ne_of_lt hc.2.2.1).symm
  have hob : Dct w ob (bktL rate burst (100 * burst) 0) := hc.1
  have S0 := S
  refine r_attrE (o := o) (gg := fun y o' => (y.1, listOf y.2.toArray 0) :: (bx, instObj 127 bd) :: (bd, ob) :: (dx, o') :: [(x, instObj 162 dx)]) C (ev_list (ps := []) S rfl (Nat.le_of_ble_eq_true rfl)) (fun y s' hc S => Pu.evT (Pu.name C S rfl rfl rfl) S) (fun y => .tail _ (.tail _ (.tail _ (.tail _ (.head _))))) (fun y s' hc S => .tail (fun z => S0.ne hc.2 (.tail _ (.tail _ (.head _))) z) (.tail m1 (.tail m2 (.head hne)))) ho (st162_times w) (Nat.le_of_ble_eq_true rfl) (fun _ => rfl) fun y s' s o hc S ho => ?_
  obtain ⟨tl, tvs⟩ := y
  obtain ⟨ht0, hc⟩ := hc
  cases ht0
  refine r_attr C (Pu.ev Pu.int S) rfl rfl (.tail _ (.tail _ (.tail _ (.tail _ (.head _))))) (.tail (fun z => S0.ne hc (.tail _ (.tail _ (.head _))) z) (.tail m1 (.tail m2 (.head hne)))) ho (st162_dropped w) (Nat.le_of_ble_eq_true rfl) (fun _ => rfl) fun _ _ s o _ S ho => ?_
  refine r_end (hQ _ _ ⟨⟨dx, o, tl, [], 0, xC x dx bx bd ob⟩, _, ⟨⟨x, bx, bd, ob, rfl, ho, hob, .nil⟩, rfl, ?_⟩, rfl, S.led ?_⟩)
  · exact nodup5 (S0.ne hc (.tail _ (.tail _ (.head _)))).symm (hne (x, instObj 162 dx) (.head _)).symm m1.symm m2.symm (S0.ne hc (.tail _ (.tail _ (.tail _ (.head _))))) (S0.ne hc (.head _)) (S0.ne hc (.tail _ (.head _))) m3.symm m4.symm m5
  · exact List.forall_mem_cons.mpr ⟨.tail _ (.tail _ (.tail _ (.head _))), List.forall_mem_cons.mpr ⟨.head _, List.forall_mem_cons.mpr ⟨.tail _ (.tail _ (.tail _ (.tail _ (.head _)))), fun p h => .tail _ ((List.mem_cons.mp h).elim (fun e => e ▸ .head _) fun h => .tail _ (List.mem_singleton.mp h ▸ .head _))⟩⟩⟩

noncomputable abbrev rowsOf (es : Es) : List Value := es.map fun q => .ref q.2.ad
noncomputable abbrev keysX (xs : TXs) : List (List Mix × Value) := xs.map fun x => (x.1, x.2.2)
noncomputable abbrev keysE (es : Es) : List (List Mix × Value) := es.map fun q => (mk q.1, Value.ref q.2.ad)
theorem keys_new {xs : TXs} {es : Es} {i : Nat} {k : Key} {e : En} (h : keysX xs = keysE (es.take i)) (hi : es[i]? = some (k, e)) (hk : (es.map (·.1)).Nodup) : atKey xs (mk k) = none := by
  unfold atKey
  rw [Option.map_eq_none_iff, List.find?_eq_none]
  intro x hx q
  have q := of_decide_eq_true q
  have h1 : (x.1, x.2.2) ∈ keysE (es.take i) := h ▸ List.mem_map_of_mem (f := fun x : List Mix × Addr × Value => (x.1, x.2.2)) hx
  obtain ⟨y, hy, e1⟩ := List.mem_map.mp h1
  have e2 : y.1 = k := mk_inj ((congrArg Prod.fst e1).trans q)
  obtain ⟨j, hj, hy⟩ := List.mem_iff_getElem.mp hy
  rw [List.getElem_take] at hy
  rw [List.length_take] at hj
  have hi2 := (List.getElem?_eq_some_iff.mp hi)
  have : j = i := (List.getElem_inj (h₀ := by rw [List.length_map]; omega) (h₁ := by rw [List.length_map]; exact hi2.1) hk).mp (by rw [List.getElem_map, List.getElem_map, hy, hi2.2]; exact e2)
  omega
theorem keys_all {xs : TXs} {es : Es} (h : keysX xs = keysE es) : RowsX xs es := fun k => by
  induction es generalizing xs with
  | nil => cases xs with | nil => rfl | cons _ _ => cases h
  | cons q r ih =>
    cases xs with
    | nil => cases h
    | cons x t =>
      obtain ⟨h1, h2⟩ := List.cons.inj h
      have h3 := congrArg Prod.fst h1
      have h4 := congrArg Prod.snd h1
      dsimp only at h3 h4
      unfold atKey
      rw [List.find?_cons, List.lookup_cons]
      by_cases e : k = q.1
      · rw [beq_iff_eq.mpr e, h3, decide_eq_true (by rw [e])]; exact congrArg some h4
      · rw [beq_eq_false_iff_ne.mpr e, h3, decide_eq_false fun z => e (mk_inj z).symm]; exact ih h2
theorem ND.cons {l : Led} {a : Addr} {o : Obj} (h : ND l) (hn : ∀ p ∈ l, a ≠ p.1) : ND ((a, o) :: l) := List.nodup_cons.mpr ⟨fun q => by
  obtain ⟨p, hp, e⟩ := List.mem_map.mp q
  exact hn p hp e.symm, h⟩
section
variable {w : World} {A : Around} {env : Env} {g : Heap} {d : Nat} {sc : Scope} {s₀ s : Shared} {lm : Lm} {news KT : Led} {D ra : Addr} {o : Obj} {xs : TXs} {i : Int} {x : Str} {a b c e : PySem.Expr} {k : Nat} {pos tp tp2 : Pos} {Q : Flow → Shared → Prop} {E : Value → Shared → Prop} {rest : List Stmt}
theorem r_setT {gg : Obj → Led} (C : Cx w A env g d sc) (h1 : 1 ≤ d) (S : S1 g env s₀ s lm news) (he : Pu w A env s e (.ref ra)) (hc : ∀ tk, Pu w A env { s with toks := tk } c (.ref D)) (ha : ∀ tk, PuL w A env { s with toks := tk } [a, b] [.int i, .str x]) (K : KD w o KT xs) (U : UpdF D o news gg) (hk : ∀ p ∈ KT, p ∈ news) (hn : atKey xs (mk (i, x)) = none) (hz : xs.length ≤ 100)
    (hs : ∀ en, swapsWith e (some (.Subscript c (.Tuple [a, b] k tp) tp2)) pos.line en = pure false) (k' : ∀ s' o' T t u, (∀ p ∈ news, T ≠ p.1) → S1 g env s₀ s' lm ((T, tupObj i t x u) :: gg o') → KD w o' ((T, tupObj i t x u) :: KT) (xs ++ [(mk (i, x), T, .ref ra)]) → wpAny (model PR w) A (execs rest env) Q E s') :
    wpAny (model PR w) A (execs (.Assign [.Subscript c (.Tuple [a, b] k tp) tp2] e pos :: rest) env) Q E s := by
  refine wpAny_execs_cons (wpAny_Assign_Subscript (he _ _ s.toks fun v tk hv => hc tk _ _ tk fun u tk2 hu => ev_key (s := { s with toks := tk2 }) (S.tok tk2) (ha tk2) _ _ fun y v2 s' hv2 hn' S' => ?_) (hs env))
  cases hv; cases hu; cases hv2
  have fr : ∀ p ∈ news, y.1 ≠ p.1 := fun p hp z => by
    have := S.mem hp
    have z2 : s.heap.get? y.1 = none := hn'
    rw [← z, z2] at this; cases this
  have hD : (D, o) ∈ news := by obtain ⟨pre, post, e, _⟩ := U.split; rw [e]; simp
  exact set_T C h1 S' K (.tail (fr _ hD) U) hk hn hz fun s'' o' S'' K' => k' s'' o' y.1 y.2.1 y.2.2 fr S'' K'
end
theorem es_lookup {es : Es} (hk : (es.map (·.1)).Nodup) {k : Key} {e : En} (h : (k, e) ∈ es) : es.lookup k = some e := by
  induction es with
  | nil => cases h
  | cons q r ih =>
    rw [List.map_cons, List.nodup_cons] at hk
    rw [List.lookup_cons]
    rcases List.mem_cons.mp h with rfl | h
    · rw [beq_self_eq_true]
    · rw [beq_eq_false_iff_ne.mpr fun z => hk.1 (List.mem_map.mpr ⟨_, h, z⟩)]; exact ih hk.2 h

/-- what a control is made of: its dict of rows, its dict of shut ports, its own dict, the rows' keys, and what nobody changes -/
noncomputable abbrev CtlR := Addr × Addr × Obj × Obj × TXs × Led × Addr
noncomputable def CtlOk (w : World) (cx : Addr) (rec : Int) (ρ : Rho) (es : Es) (y : CtlR) : Prop := CtlRO w y.2.2.2.2.2.1 cx y.1 y.2.1 rec y.2.2.2.2.1 y.2.2.2.2.2.2 y.2.2.1 ∧ St w (okC w) y.2.2.2.2.1 y.2.1 ρ [] (y.2.2.2.1, es) ∧ ND (y.2.2.2.2.2.1 ++ ctlLed y.2.1 (y.2.2.2.1, es))
noncomputable def ciJ (w : World) (D cx : Addr) (base : Led) (es : Es) (i : Nat) (l : Lm) (nx : Led) : Prop := ∃ oD KT xs, nx = (D, oD) :: (KT ++ base) ∧ ND nx ∧ KD w oD KT xs ∧ keysX xs = keysE (es.take i) ∧ l.lookup (Str.ofString "self") = some (.ref cx)
theorem ctl_init (w : World) (cx cd : Addr) (hxd : @LT.lt Nat _ cd cx) (rl : Addr) (rn : Nat) (es : Es) (ρ : Rho) (hrel : Rel (okC w) ρ es) (hk : (es.map (·.1)).Nodup) (hz : es.length ≤ 50) (hnd : ND (ledK [(rl, listOf (rowsOf es).toArray rn)] es)) (hfar : ∀ p ∈ ledK [(rl, listOf (rowsOf es).toArray rn)] es, p.1 < cd) (rec : Int) (args : List PV) (dfl : List Value) (pd : List PV)
    (hc : (args = [.ref cx, .ref rl, .int rec] ∧ dfl = [] ∧ pd = []) ∨ args = [.ref cx, .ref rl] ∧ dfl = [.int 0 424] ∧ pd = [.int 0] ∧ rec = 0) :
    SpecV w 2 181 args [] ((cx, instObj 212 cd) :: (cd, dictOf [] 0) :: ledK [(rl, listOf (rowsOf es).toArray rn)] es) (CtlOk w cx rec ρ es) (fun _ => .none) (fun y => y.2.2.2.2.2.1 ++ ctlLed y.2.1 (y.2.2.2.1, es)) := by
  have ha : args ++ pd = [.ref cx, .ref rl, .int rec] := by
    rcases hc with ⟨rfl, _, rfl⟩ | ⟨rfl, _, rfl, rfl⟩ <;> rfl
  refine specV_of [Str.ofString "self", Str.ofString "rows", Str.ofString "recovery"] dfl pd (by rcases hc with ⟨_, rfl, rfl⟩ | ⟨_, rfl, rfl, _⟩; exact rfl; exact ⟨_, _, rfl, ⟨_, rfl⟩, rfl⟩) (by k_is) (by k_is) (by decide) (fun vs s hvs hX => ?_) (by decide) rfl rfl rfl (by decide) fun A env g s Q E pE hQ C S hpre lt => ?_
  · rcases hc with ⟨rfl, rfl, _⟩ | ⟨rfl, rfl, _⟩
    · obtain ⟨_, _, _, rfl⟩ := hvs.three; exact binds_K hX rfl (by k_is) rfl rfl rfl
    · obtain ⟨_, _, rfl⟩ := hvs.two; exact binds_K hX rfl (by k_is) rfl rfl rfl
  rw [ha] at S
  generalize hB : ledK [(rl, listOf (rowsOf es).toArray rn)] es = B at S hnd hfar
  have hne : ∀ p ∈ (cx, instObj 212 cd) :: B, p.1 ≠ cd := List.forall_mem_cons.mpr ⟨(Nat.ne_of_lt hxd).symm, fun p hp => Nat.ne_of_lt (hfar p hp)⟩
  have S := S.led (news' := (cd, dictOf [] 0) :: (cx, instObj 212 cd) :: B) (List.forall_mem_cons.mpr ⟨.tail _ (.head _), List.forall_mem_cons.mpr ⟨.head _, fun _ h => .tail _ (.tail _ h)⟩⟩)
  have S0 := S
  refine r_attrE (o := dictOf [] 0) (gg := fun y o' => (y.1, y.2) :: (cd, o') :: (cx, instObj 212 cd) :: B) C (ev_dict0 C S) (fun y s' hc S => Pu.evT (Pu.name C S rfl rfl rfl) S) (fun y => .tail _ (.tail _ (.head _))) (fun y s' hc S => .tail (S0.ne hc.2.2.2.2 (.head _)) (.head hne)) dct_nil (st212_rows w) (Nat.le_of_ble_eq_true rfl) (fun _ => rfl) fun y s' s o hc S ho => ?_
  obtain ⟨D, oD⟩ := y
  obtain ⟨-, -, hD, lo, hDn⟩ := hc
  have hDc : ∀ p ∈ (cd, dictOf [] 0) :: (cx, instObj 212 cd) :: B, D ≠ p.1 := fun p hp => S0.ne hDn (o := p.2) hp
  refine r_attr C (Pu.ev (Pu.name C S rfl rfl rfl) S) rfl rfl (.tail _ (.tail _ (.head _))) (.tail (hDc _ (.head _)) (.head hne)) ho (st212_recovery w) (Nat.le_of_ble_eq_true rfl) (fun _ => rfl) fun _ _ s o _ S ho => ?_
  have S9 := S
  refine r_attrE (o := o) (gg := fun y o' => (y.1, y.2) :: (D, oD) :: (cd, o') :: (cx, instObj 212 cd) :: B) C (ev_dict0 C S) (fun y s' hc S => Pu.evT (Pu.name C S rfl rfl rfl) S) (fun y => .tail _ (.tail _ (.tail _ (.head _)))) (fun y s' hc S => .tail (S9.ne hc.2.2.2.2 (.tail _ (.head _))) (.tail (hDc _ (.head _)) (.head hne))) ho (st212_shut w) (Nat.le_of_ble_eq_true rfl) (fun _ => rfl) fun y s' s oc hc S ho => ?_
  obtain ⟨sd, so⟩ := y
  obtain ⟨-, hsh, -, los, hsn⟩ := hc
  have hoc : Dct w oc (ctlL D rec sd) := ho
  have hB2 : ∀ p, p ∈ B ↔ p = (rl, listOf (rowsOf es).toArray rn) ∨ p ∈ es.flatMap fun q => q.2.led := fun p => by rw [← hB]; exact List.mem_cons
  have hbase : ∀ p, p ∈ (cx, instObj 212 cd) :: (cd, oc) :: (sd, so) :: B → p ∈ (sd, so) :: (D, oD) :: (cd, oc) :: (cx, instObj 212 cd) :: B := fun p hp => by
    simp only [List.mem_cons] at hp ⊢
    rcases hp with h | h | h | h
    · exact .inr (.inr (.inr (.inl h)))
    · exact .inr (.inr (.inl h))
    · exact .inl h
    · exact .inr (.inr (.inr (.inr h)))
  have nd0 : ND ((D, oD) :: ((cx, instObj 212 cd) :: (cd, oc) :: (sd, so) :: B)) := by
    have ndS : ∀ p ∈ (D, oD) :: (cd, o) :: (cx, instObj 212 cd) :: B, sd ≠ p.1 := fun p hp => S9.ne hsn (o := p.2) hp
    have c1 : ∀ p ∈ B, cx ≠ p.1 := fun p hp => (Nat.ne_of_lt (Nat.lt_trans (hfar p hp) hxd)).symm
    have n1 := ND.cons (o := so) hnd fun p hp => ndS p (.tail _ (.tail _ (.tail _ hp)))
    have n2 := ND.cons (o := oc) n1 (List.forall_mem_cons.mpr ⟨(ndS _ (.tail _ (.head _))).symm, fun p hp => (hne p (.tail _ hp)).symm⟩)
    have n3 := ND.cons (o := instObj 212 cd) n2 (List.forall_mem_cons.mpr ⟨hne _ (.head _), List.forall_mem_cons.mpr ⟨(ndS _ (.tail _ (.tail _ (.head _)))).symm, c1⟩⟩)
    exact ND.cons n3 (List.forall_mem_cons.mpr ⟨hDc (cx, instObj 212 cd) (.tail _ (.head _)), List.forall_mem_cons.mpr ⟨hDc (cd, dictOf [] 0) (.head _), List.forall_mem_cons.mpr ⟨(ndS _ (.head _)).symm, fun p hp => hDc p (.tail _ (.tail _ hp))⟩⟩⟩)
  generalize hbs : (cx, instObj 212 cd) :: (cd, oc) :: (sd, so) :: B = base at nd0 hbase
  have S := S.led (news' := (D, oD) :: base) (List.forall_mem_cons.mpr ⟨.tail _ (.head _), hbase⟩)
  refine r_for C pE (Pu.ev (Pu.name C S rfl rfl rfl) S) rfl (fun _ => rfl) fun _ v s hv _ S => ?_
  cases hv
  have hrl : (rl, listOf (rowsOf es).toArray rn) ∈ base := by rw [← hbs]; exact .tail _ (.tail _ (.tail _ ((hB2 _).mpr (.inl rfl))))
  refine ⟨es.length, fun i => match es[i]? with | some q => .ref q.2.ad | none => .none, [(rl, listOf (rowsOf es).toArray rn)], ciJ w D cx base es, ?_, ?_, ⟨oD, [], [], rfl, nd0, hD, rfl, rfl⟩, ?_, ?_⟩
  · have := itr_list (pv := fun i => match es[i]? with | some q => .ref q.2.ad | none => .none) (kp := [(rl, listOf (rowsOf es).toArray rn)]) C S ⟨_, S.mem (.tail _ hrl), rfl, _, rfl⟩ (.inr ⟨_, .head _⟩) (S.N _ (List.mem_cons_of_mem _ hrl)).2.1 fun i v hv => by
      rw [List.getElem?_map] at hv
      cases h : es[i]? with
      | none => rw [h] at hv; cases hv
      | some q => rw [h] at hv; cases hv; exact rfl
    rw [List.length_map] at this
    exact this
  · rintro i l nx ⟨oD, KT, xs, rfl, _⟩ p hp
    rw [List.mem_singleton.mp hp]
    exact .tail _ (List.mem_append_right _ hrl)
  · rintro I it i l nx s Q' hi ⟨oD, KT, xs, rfl, nd, K, hx, l1⟩ S off hT
    obtain ⟨⟨k, e⟩, he⟩ : ∃ q, es[i]? = some q := ⟨_, List.getElem?_eq_getElem hi⟩
    simp only [he] at S
    have hmem : (k, e) ∈ es := List.mem_of_getElem? he
    obtain ⟨r, hr, rx, bx, bd, ob, hex, ho, _⟩ := hrel.at (es_lookup hk hmem)
    have had : e.ad = rx := by unfold En.ad; rw [hex]
    have hin : ∀ p ∈ e.led, p ∈ (I, it) :: (D, oD) :: (KT ++ base) := fun p hp => .tail _ (.tail _ (List.mem_append_right _ (by rw [← hbs]; exact .tail _ (.tail _ (.tail _ ((hB2 _).mpr (.inr (List.mem_flatMap.mpr ⟨_, hmem, hp⟩))))))))
    have i1 : (e.ad, instObj 162 e.d) ∈ (I, it) :: (D, oD) :: (KT ++ base) := hin _ (by unfold En.led; rw [hex, had]; exact .tail _ (.tail _ (.head _)))
    have i2 := hin _ (.head _)
    have c1 : (cx, instObj 212 cd) ∈ (I, it) :: (D, oD) :: (KT ++ base) := .tail _ (.tail _ (List.mem_append_right _ (by rw [← hbs]; exact .head _)))
    have c2 : (cd, oc) ∈ (I, it) :: (D, oD) :: (KT ++ base) := .tail _ (.tail _ (List.mem_append_right _ (by rw [← hbs]; exact .tail _ (.head _))))
    have hn := keys_new hx he hk
    refine r_ifE (TEv.inT C S (K.td lo (.tail _ (.head _)) fun p hp => .tail _ (.tail _ (List.mem_append_left _ hp))) (by exact ⟨_, _, rfl, Pu.attr C S (Pu.name C S rfl rfl rfl) (S.inst i1 i2) ho rfl (at162_port w), rfl, _, _, rfl, Pu.attr C S (Pu.name C S rfl rfl rfl) (S.inst i1 i2) ho rfl (at162_kind w), rfl, rfl⟩) (fun s' S => Pu.attr C S (Pu.name C S l1 rfl rfl) (S.inst c1 c2) hoc rfl (at212_rows w)) rfl) (fun _ s q _ S => ?_) fun _ s q _ S => r_end ?_
    · rw [show atKey xs (mk (k.1, k.2)) = none from hn] at q; cases q
    have hlen : xs.length ≤ 100 := by
      have := congrArg List.length hx
      rw [List.length_map, List.length_map, List.length_take] at this
      omega
    have nd1 := List.nodup_cons.mp nd
    refine r_setT C (Nat.le_refl _) S (Pu.name C S rfl rfl rfl) (fun tk => Pu.attr C (S.tok tk) (Pu.name C (S.tok tk) l1 rfl rfl) ((S.tok tk).inst c1 c2) hoc rfl (at212_rows w)) (fun tk => by exact ⟨_, _, rfl, Pu.attr C (S.tok tk) (Pu.name C (S.tok tk) rfl rfl rfl) ((S.tok tk).inst i1 i2) ho rfl (at162_port w), rfl, _, _, rfl, Pu.attr C (S.tok tk) (Pu.name C (S.tok tk) rfl rfl rfl) ((S.tok tk).inst i1 i2) ho rfl (at162_kind w), rfl, rfl⟩) K (gg := fun o' => (I, it) :: (D, o') :: (KT ++ base))
      (.tail (fun z => off _ (.head _) z.symm) (.head fun p hp z => nd1.1 (z ▸ List.mem_map_of_mem (f := (·.1)) hp))) (fun p hp => .tail _ (.tail _ (List.mem_append_left _ hp))) hn hlen (fun _ => rfl) fun s oD' T t u hTn S K' => r_end (hT _ _ ⟨_, (D, oD') :: (((T, tupObj k.1 t k.2 u) :: KT) ++ base), S.led fun p hp => ?_, List.forall_mem_cons.mpr ⟨off (D, oD) (.head _), List.forall_mem_cons.mpr ⟨hTn _ (.head _), fun p hp => off p (.tail _ hp)⟩⟩, oD', _, _, rfl, ?_, K', ?_, l1⟩)
    · simp only [List.mem_cons, List.cons_append] at hp ⊢
      rcases hp with h | h | h | h
      · exact .inr (.inl h)
      · exact .inr (.inr (.inl h))
      · exact .inl h
      · exact .inr (.inr (.inr h))
    · exact ND.cons (ND.cons nd1.2 fun p hp => hTn p (.tail _ (.tail _ hp))) (List.forall_mem_cons.mpr ⟨(hTn _ (.tail _ (.head _))).symm, fun p hp z => nd1.1 (z ▸ List.mem_map_of_mem (f := (·.1)) hp)⟩)
    · unfold keysX keysE at hx ⊢
      rw [List.map_append, hx, List.take_add_one, he, List.map_append]; rfl
  · rintro l nx s ⟨oD, KT, xs, rfl, nd, K, hx, _⟩ S
    rw [List.take_length] at hx
    have sub : ((D, oD) :: (KT ++ [(cx, instObj 212 cd), (cd, oc)]) ++ ctlLed sd (so, es)).Sublist ((D, oD) :: (KT ++ base)) := by
      rw [← hbs, ← hB, List.cons_append, List.append_assoc]
      exact .cons₂ _ (.append_left (.cons₂ _ (.cons₂ _ (.cons₂ _ (.cons _ (.refl _))))) KT)
    have nd2 : ND ((D, oD) :: (KT ++ [(cx, instObj 212 cd), (cd, oc)]) ++ ctlLed sd (so, es)) := (sub.map _).nodup nd
    exact r_end (hQ _ _ ⟨(D, sd, oc, so, xs, (D, oD) :: (KT ++ [(cx, instObj 212 cd), (cd, oc)]), cd), l, ⟨⟨.tail _ (List.mem_append_right _ (.head _)), .tail _ (List.mem_append_right _ (.tail _ (.head _))), hoc, los, lo, fun h hh => K.at (hh _ (.head _)) fun p hp => hh p (.tail _ (List.mem_append_left _ hp))⟩, ⟨hsh, hrel, keys_all hx, nd2.r⟩, nd2⟩, rfl, S.led fun p hp => sub.subset hp⟩)

section
variable {w : World} {A : Around} {env : Env} {g : Heap} {d : Nat} {sc : Scope} {s₀ s : Shared} {lm l : Lm} {news : Led} {x x2 : Str} {xpos xp2 pos tp tp2 kp : Pos} {p p1 p2 q : PV} {a b c e t1 t2 : PySem.Expr} {i j : Int} {D : Addr} {o : Obj} {v v1 v2 : Value} {k : Nat} {Q : Flow → Shared → Prop} {E : Value → Shared → Prop} {rest : List Stmt}
theorem Pu.mod (ha : Pu w A env s a (.int i)) (hb : Pu w A env s b (.int j)) (h0 : j ≠ 0) : Pu w A env s (.BinOp a .Mod b pos) (.int (i.fmod j)) := fun _ _ tk h =>
  wpAny_BinOp (ha _ _ tk fun v tk1 hv => hb _ _ tk1 fun u tk2 hu => by obtain ⟨t, rfl⟩ := hv; obtain ⟨t', rfl⟩ := hu; exact mod_int h0 (h _ _ ⟨_, rfl⟩))
theorem Pu.fdiv (ha : Pu w A env s a (.int i)) (hb : Pu w A env s b (.int j)) (h0 : 0 < j) (h1 : j ≤ 100000) : Pu w A env s (.BinOp a .FloorDiv b pos) (.int (i.fdiv j)) := fun _ _ tk h =>
  wpAny_BinOp (ha _ _ tk fun v tk1 hv => hb _ _ tk1 fun u tk2 hu => by obtain ⟨t, rfl⟩ := hv; obtain ⟨t', rfl⟩ := hu; exact floordiv_int (by omega) (h _ _ ⟨_, rfl⟩))
theorem a_name {Q : Unit → Shared → Prop} (C : Cx w A env g d sc) (S : S1 g env s₀ s lm news) (hv : p.is v) (hx : sc.names.lookup x = some .local) (k : ∀ s', S1 g env s₀ s' ((x, p) :: lm) news → Q () s') : wpAny (model PR w) A (storeName env x v) Q E s := by
  obtain ⟨⟨m, F, hm⟩, N, same⟩ := S
  obtain ⟨cn, L, a, ccd, cl, rfl⟩ := C.eX
  exact storeX_L F N (fun h' F' N' => k _ (S1.put hm hv F' N' same)) C.kind hx
theorem a_fld {Q : Unit → Shared → Prop} {gg : Obj → Led} (S : S1 g env s₀ s lm news) (hv : p.is v) (hc : Pu w A env s c (.ref D)) (U : UpdF D o news gg) (hD : Dct w o l) (hz : l.length ≤ 100) (k' : ∀ s' o', S1 g env s₀ s' lm (gg o') → Dct w o' (putP l x p) → Q () s') :
    wpAny (model PR w) A (assign (.Subscript c (.Constant (.str x) k kp) tp) env v) Q E s := by
  rw [assign_Subscript]
  refine wpAny_bind (wpAny_holding (hc _ _ s.toks fun u tk hu => ?_))
  cases hu
  refine wpAny_bind (wpAny_holding (Pu.str (w := w) (A := A) (env := env) (s := s) (x := x) _ _ tk fun kv tk2 hkv => wpAny_bind (wpAny_standAt (wpAny_bind (wpAny_holding ?_)))))
  obtain ⟨⟨m, F, hm⟩, N, same⟩ := S
  obtain ⟨kvs, h1, h2⟩ := hD
  have hnd : (kvs.map (·.1)).Nodup := by obtain ⟨_, _, _, _, _, _, h⟩ := h1; exact h
  exact kda_set (s := { s with toks := tk2 }) F N U h1 (str_key kv hkv) (by rw [h2.length, sizeLine_eq]; omega) fun h' o' F' N' hD' => wpAny_release (k' _ o' ⟨⟨m, F', hm⟩, N', same⟩ ⟨_, hD', h2.put hnd hv⟩)
/-- `t1, t2 = e`, a tuple in hand -/
theorem r_unp {α : Type} {Cy : α → Shared → Prop} {fn : α → Led} {T : α → Addr} {v1 v2 : α → Value} {n : α → Nat} (C : Cx w A env g d sc) (hE : Ev w A env g s₀ s lm e Cy (fun y => .ref (T y)) fn) (hT : ∀ y s', Cy y s' → (T y, { cls := .type "tuple", data := .seq #[v1 y, v2 y] (n y) }) ∈ fn y)
    (hs : ∀ cn L a ccd cl, swapsWithSole [.Tuple [t1, t2] k tp] e pos.line (envX cn sc L a ccd cl) = pure false) (hw : ∀ cn L a ccd cl, swappedStores [.Tuple [t1, t2] k tp] e (envX cn sc L a ccd cl) = pure none) (ha : assignEach [t1, t2] env = [(false, assign t1 env), (false, assign t2 env)])
    (k' : ∀ y s', Cy y s' → S1 g env s₀ s' lm (fn y) → ∀ h', S1 g env s₀ { s' with heap := h' } lm (fn y) → wpAny (model PR w) A (assign t1 env (v1 y)) (fun _ s2 => wpAny (model PR w) A (assign t2 env (v2 y)) (fun _ s3 => wpAny (model PR w) A (execs rest env) Q E s3) E s2) E { s' with heap := h' }) :
    wpAny (model PR w) A (execs (.Assign [.Tuple [t1, t2] k tp] e pos :: rest) env) Q E s := by
  have hs : swapsWithSole [.Tuple [t1, t2] k tp] e pos.line env = pure false := by obtain ⟨_, _, _, _, _, rfl⟩ := C.eX; exact hs ..
  have hw : swappedStores [.Tuple [t1, t2] k tp] e env = pure none := by obtain ⟨_, _, _, _, _, rfl⟩ := C.eX; exact hw ..
  refine wpAny_execs_cons (Assign_Tuple (hE _ _ fun y v s' hv hc S => ?_) hs hw)
  cases hv
  obtain ⟨⟨m, F, hm⟩, N, same⟩ := id S
  refine unpackN_ F N ⟨_, S.mem (hT y s' hc), rfl, _, rfl⟩ C.hand (by rw [ha]; rfl) (by rw [ha]; rfl) fun h' F' N' => ?_
  rw [ha]
  exact assignInOrder_cons (wpAny_mono (k' y s' hc S h' ⟨⟨m, F', hm⟩, N', same⟩) (fun _ s2 h => assignInOrder_cons (wpAny_mono h (fun _ s3 h => assignInOrder_nil h) fun _ _ h => h)) fun _ _ h => h)
/-- `x1, x2 = a, b` -/
theorem r_names2 {α β : Type} {C1 : α → Shared → Prop} {P1 : α → PV} {f1 : α → Led} {C2 : α → β → Shared → Prop} {P2 : α → β → PV} {f2 : α → β → Led} {kv : Nat} {vp : Pos} (C : Cx w A env g d sc) (h1 : Ev w A env g s₀ s lm a C1 P1 f1) (h2 : ∀ y s', C1 y s' → S1 g env s₀ s' lm (f1 y) → Ev w A env g s₀ s' lm b (C2 y) (P2 y) (f2 y))
    (hx : sc.names.lookup x = some .local) (hx2 : sc.names.lookup x2 = some .local) (hs : ∀ cn L a' ccd cl, swapsWithSole [.Tuple [.Name x xpos, .Name x2 xp2] k tp] (.Tuple [a, b] kv vp) pos.line (envX cn sc L a' ccd cl) = pure false) (hw : ∀ cn L a' ccd cl, swappedStores [.Tuple [.Name x xpos, .Name x2 xp2] k tp] (.Tuple [a, b] kv vp) (envX cn sc L a' ccd cl) = pure (some [x, x2]))
    (hp1 : starEach [a, b] env = (false, eval a env) :: starEach [b] env) (hp2 : starEach [b] env = (false, eval b env) :: starEach [] env) (k' : ∀ y z s', (∃ s'', C2 y z s'') → (∃ s'', C1 y s'') → S1 g env s₀ s' ((x, P1 y) :: (x2, P2 y z) :: lm) (f2 y z) → wpAny (model PR w) A (execs rest env) Q E s') :
    wpAny (model PR w) A (execs (.Assign [.Tuple [.Name x xpos, .Name x2 xp2] k tp] (.Tuple [a, b] kv vp) pos :: rest) env) Q E s := by
  have hs : swapsWithSole [.Tuple [.Name x xpos, .Name x2 xp2] k tp] (.Tuple [a, b] kv vp) pos.line env = pure false := by obtain ⟨_, _, _, _, _, rfl⟩ := C.eX; exact hs ..
  have hw : swappedStores [.Tuple [.Name x xpos, .Name x2 xp2] k tp] (.Tuple [a, b] kv vp) env = pure (some [x, x2]) := by obtain ⟨_, _, _, _, _, rfl⟩ := C.eX; exact hw ..
  refine wpAny_execs_cons (Assign_Tuple_swapped (Tuple_ (args_cons (h1 _ _ fun y v s1 hv hc1 S1' => args_cons (h2 y s1 hc1 S1' _ _ fun z u s2 hu hc2 S2 => args_nil ?_) hp2) hp1)) hs hw)
  obtain ⟨⟨m, F, hm⟩, N, same⟩ := S2
  refine newTuple_N F N (fun h' F' N' => ?_) (by rw [sizeLine_eq]; exact Nat.le_of_ble_eq_true rfl)
  refine unpackItemsN_ F' N' ⟨_, (N' _ (.head _)).1, rfl, _, rfl⟩ C.hand rfl fun h2 F2 N2 => ?_
  refine assignInOrder_cons (bindName_ (a_name C ⟨⟨m, F2, hm⟩, cb_drop N2 fun p hp => .tail _ hp, same⟩ hu hx2 fun s3 S3 => assignInOrder_cons (bindName_ (a_name C S3 hv hx fun s4 S4 => assignInOrder_nil (k' y z s4 ⟨_, hc2⟩ ⟨_, hc1⟩ S4)))))
end

theorem ev_pair {w : World} {A : Around} {env : Env} {g : Heap} {s₀ s : Shared} {lm : Lm} {news : Led} {a b : PySem.Expr} {p q : PV} {k : Nat} {tp : Pos} (S : S1 g env s₀ s lm news) (ha : PuL w A env s [a, b] [p, q]) : Ev w A env g s₀ s lm (.Tuple [a, b] k tp) (fun (y : Addr × Value × Value) s' => p.is y.2.1 ∧ q.is y.2.2 ∧ s.heap.get? y.1 = none) (fun y => .ref y.1) (fun y => (y.1, { cls := .type "tuple", data := .seq #[y.2.1, y.2.2] }) :: news) := fun Q E k' =>
  ev_tup S ha (Nat.le_of_ble_eq_true rfl) Q E fun y v s' hv hc S' => by
    obtain ⟨T, vs⟩ := y
    obtain ⟨⟨v1, _, rfl, h1, v2, _, rfl, h2, rfl⟩, hn⟩ := hc
    exact k' (T, v1, v2) v s' hv ⟨h1, h2, hn⟩ S'
noncomputable abbrev srcL (a b : Int) : Lm := [(Str.ofString "digits", .int a), (Str.ofString "stir", .int b)]
noncomputable def SrcO (w : World) (o : Obj) : Prop := ∃ a b, Dct w o (srcL a b)
theorem next_v (w : World) (sa : Addr) (top : Int) (h1 : 1 ≤ top) (h2 : top ≤ 1000) (o : Obj) (ho : SrcO w o) : SpecV w 1 230 [.ref sa, .int top] [] [(sa, o)] (fun (y : Obj × Int) => SrcO w y.1 ∧ 0 ≤ y.2 ∧ y.2 < top) (fun y => .int y.2) (fun y => [(sa, y.1)]) := by
  obtain ⟨a, b, ho⟩ := ho
  refine specV_of [Str.ofString "source", Str.ofString "top"] [] [] rfl (by k_is) (by k_is) (by decide) (fun vs s hvs hX => ?_) (by decide) rfl rfl rfl (by decide) fun A env g s Q E pE hQ C S hpre lt => ?_
  · obtain ⟨_, _, rfl⟩ := hvs.two; exact BindsTo.of_eq rfl
  refine r_if (Te.gt (Pu.fld S (Pu.name C S rfl rfl rfl) (.head _) ho rfl (fun _ => by with_unfolding_all rfl)) Pu.int rfl) S (fun _ s S _ => ?_) fun _ s S _ => r_end ?_
  · have Sb := S
    refine r_unp C (ev_pair S (by exact ⟨_, _, rfl, Pu.fdiv (Pu.fld S (Pu.name C S rfl rfl rfl) (.head _) ho rfl (fun _ => by with_unfolding_all rfl)) (Pu.name C S rfl rfl rfl) (by omega) (by omega), rfl, _, _, rfl, Pu.mod (Pu.fld S (Pu.name C S rfl rfl rfl) (.head _) ho rfl (fun _ => by with_unfolding_all rfl)) (Pu.name C S rfl rfl rfl) (by omega), rfl, rfl⟩)) (fun _ _ _ => .head _) (fun _ _ _ _ _ => rfl) (fun _ _ _ _ _ => rfl) rfl fun y s hc S0 h' S => ?_
    refine a_fld (o := o) S hc.1 (Pu.name C S rfl rfl rfl) (.tail (Sb.ne hc.2.2 (.head _)) (.head fun _ h => nomatch h)) ho (Nat.le_of_ble_eq_true rfl) fun s o' S ho' => assign_Name (a_name C S hc.2.1 rfl fun s S => ?_)
    exact r_ret (Pu.ev (Pu.name C S rfl rfl rfl) S) fun _ v s' hv _ S => hQ _ _ ⟨(o', a.fmod top), _, ⟨⟨_, _, ho'⟩, Int.fmod_nonneg_of_pos _ (by omega), Int.fmod_lt_of_pos _ (by omega)⟩, hv, S.led fun p h => .tail _ h⟩
  refine r_item (q := .str (Str.ofString "stir")) (Pu.ev (Pu.mod (Pu.add (Pu.mul (Pu.fld S (Pu.name C S rfl rfl rfl) (.head _) ho rfl (fun _ => by with_unfolding_all rfl)) Pu.int (IntMulOk.of_right (PySem.intBits_le_64 (by decide) (by decide)))) Pu.int) Pu.int (by decide)) S) (fun _ s' _ S => (Pu.name C S rfl rfl rfl)) (fun _ s' _ S => Pu.str) str_key (fun _ => .head fun _ h => nomatch h) ho (Nat.le_of_ble_eq_true rfl) (fun _ => rfl) fun _ _ s o' _ S ho => ?_
  exact r_ret (Pu.ev (Pu.mod (Pu.fdiv (Pu.fld S (Pu.name C S rfl rfl rfl) (.head _) ho rfl (fun _ => by with_unfolding_all rfl)) Pu.int (by decide) (by decide)) (Pu.name C S rfl rfl rfl) (by omega)) S) fun _ v s' hv _ S => hQ _ _ ⟨(o', _), _, ⟨⟨_, _, ho⟩, Int.fmod_nonneg_of_pos _ (by omega), Int.fmod_lt_of_pos _ (by omega)⟩, hv, S⟩
theorem pick_v (w : World) (sa l : Addr) (lo : Obj) (vs : List Value) (n : Nat) (hc : lo.cls = .type "list") (hd : lo.data = .seq vs.toArray n) (h1 : 1 ≤ vs.length) (h2 : vs.length ≤ 1000) (pv : Nat → PV) (hpv : ∀ i v, vs[i]? = some v → (pv i).is v) (o : Obj) (ho : SrcO w o) :
    SpecV w 2 237 [.ref sa, .ref l] [(l, lo)] [(sa, o)] (fun (y : Obj × Nat) => SrcO w y.1 ∧ y.2 < vs.length) (fun y => pv y.2) (fun y => [(sa, y.1)]) := by
  refine specV_of [Str.ofString "source", Str.ofString "things"] [] [] rfl (by k_is) (by k_is) (by decide) (fun vs s hvs hX => ?_) (by decide) rfl rfl rfl (by decide) fun A env g s Q E pE hQ C S hpre lt => ?_
  · obtain ⟨_, _, rfl⟩ := hvs.two; exact BindsTo.of_eq rfl
  have hl : ∀ {s' : Shared} {lm nx}, S1 g env s s' lm nx → s'.heap.IsList l vs.toArray := fun S => ⟨lo, S.keep _ _ (hpre _ (.head _)), hc, n, hd⟩
  have hz : vs.toArray.size = vs.length := List.size_toArray
  refine wpAny_execs_cons (wpAny_Return_some (Subscript_ (Pu.name C S rfl rfl rfl _ _ s.toks fun u tk hu => ?_)))
  cases hu
  refine (ev_fun (next_v w sa vs.length (by omega) (by omega) o ho) C (Nat.le_refl _) (S.tok tk) (by k_is) rfl (by k_is) (by exact ⟨_, _, rfl, Pu.name C (S.tok tk) rfl rfl rfl, rfl, _, _, rfl, by rw [← hz]; exact Pu.len C (S.tok tk) (by k_is) rfl (Pu.name C (S.tok tk) rfl rfl rfl) (hl (S.tok tk)) (by omega) rfl, rfl, rfl⟩) (fun _ => rfl) [] (fun _ h => h) (fun _ h => nomatch h) (fun _ h => nomatch h) (fun _ h => nomatch h)) _ _ fun y v s' hv B S => ?_
  obtain ⟨t, rfl⟩ := hv
  obtain ⟨b1, b2, b3⟩ := B.c
  have hlt : y.2.toNat < vs.length := by omega
  exact item_list (x := vs[y.2.toNat]) (hl S) b2 (by omega) (by simp [hlt]) (hQ _ _ ⟨(y.1, y.2.toNat), _, ⟨b1, hlt⟩, hpv _ _ (List.getElem?_eq_getElem hlt), S.led fun _ h => List.mem_append_left _ h⟩)

section
variable {w : World} {A : Around} {env : Env} {g : Heap} {d : Nat} {sc : Scope} {s₀ s : Shared} {lm l l2 : Lm} {news : Led} {pos pos2 apos kp kp2 lp dp : Pos} {a b c e : PySem.Expr} {D : Addr} {o : Obj} {k k2 : Nat} {x y : Str} {p : PV} {i j : Int}
/-- reckoned pairs of a dict display -/
inductive PuD (w : World) (A : Around) (env : Env) (s : Shared) : List (Option PySem.Expr) → List PySem.Expr → Lm → Prop
  | nil : PuD w A env s [] [] []
  | cons {x : Str} {k : Nat} {pos : Pos} {e : PySem.Expr} {p : PV} {ks : List (Option PySem.Expr)} {es : List PySem.Expr} {r : Lm} : Pu w A env s e p → PuD w A env s ks es r → PuD w A env s (some (.Constant (.str x) k pos) :: ks) (e :: es) ((x, p) :: r)
theorem PuD.go {keys : List (Option PySem.Expr)} {es : List PySem.Expr} {l : Lm} (h : PuD w A env s keys es l) : ∀ {Q : List (Value × Value) → Shared → Prop} {E : Value → Shared → Prop} (tk : Nat), (∀ vs tk', allStrKeys vs = true → DL l (strPairs vs) → Q vs { s with toks := tk' }) →
    wpAny (model PR w) A (evalPairs (pairTrees keys es env pos)) Q E { s with toks := tk } := by
  induction h with
  | nil => exact fun tk k => evalPairs_nil (k [] tk rfl rfl)
  | @cons x n p' e p ks es r h1 _ ih =>
    exact fun tk k => evalPairs_cons (Pu.str (w := w) (A := A) (env := env) (s := s) (x := x) _ _ tk fun kv tk1 hkv => wpAny_bind (h1 _ _ tk1 fun v tk2 hv => wpAny_bind (wpAny_standAt (wpAny_pure (ih tk2 fun vs tk3 q1 q2 => k _ tk3 (by obtain ⟨t, rfl⟩ := hkv; exact q1) (by obtain ⟨t, rfl⟩ := hkv; exact ⟨v, _, rfl, hv, q2⟩))))))
theorem made_fin {gg : Obj → Led} {Q : Value → Shared → Prop} {vs : List (Value × Value)} (S : S1 g env s₀ s lm news) (U : UpdF D o news gg) (hd : o.IsDictOf (PySem.strKind PR w) []) (hk : allStrKeys vs = true) (hl : DL l (strPairs vs)) (hn : (l.map (·.1)).Nodup) (k : ∀ s' o', S1 g env s₀ s' lm (gg o') → Dct w o' l → Q (.ref D) s') : KdnMade PR w (PySem.strKind PR w) D Q vs s := by
  obtain ⟨⟨m, F, hm⟩, N, same⟩ := S
  have e : (strPairs vs).map (·.1) = l.map (·.1) := by
    clear hn k U hk
    generalize strPairs vs = z at hl
    induction l generalizing z with
    | nil => cases hl; rfl
    | cons q r ih => obtain ⟨v, t, rfl, _, h⟩ := hl; rw [List.map_cons, List.map_cons, ih t h]
  exact kdn_made_str F N U hd hk (e ▸ hn) fun h' o' F' N' hd' => k _ o' ⟨⟨m, F', hm⟩, N', same⟩ ⟨_, hd', hl⟩
theorem ev_dictP {keys : List (Option PySem.Expr)} {es : List PySem.Expr} (C : Cx w A env g d sc) (S : S1 g env s₀ s lm news) (h : ∀ s', S1 g env s₀ s' lm news → PuD w A env s' keys es l) (hn : (l.map (·.1)).Nodup) (hall : keys.all (·.isSome) = true) (hl : keys.length = es.length) (h0 : keys ≠ []) (hlen : keys.length ≤ 15) :
    Ev w A env g s₀ s lm (.Dict keys es pos) (fun (y : Addr × Obj) _ => Dct w y.2 l ∧ (y.1 == sysModules) = false ∧ ∀ p ∈ news, p.1 < y.1) (fun y => .ref y.1) (fun y => (y.1, y.2) :: news) := fun Q E k => by
  obtain ⟨⟨m, F, hm⟩, N, same⟩ := S
  obtain ⟨p, loose, mean, mg, mb, outer, A₀, base, T, B, hA⟩ := C.ctx
  refine kdn_eval (knd := PySem.strKind PR w) F N T.nolimit hall hl h0 hlen fun D h' o F' N' hlt lo hd => ?_
  have S' : S1 g env s₀ { s with heap := h' } lm ((D, o) :: news) := ⟨⟨m, F', hm⟩, N', same⟩
  exact (h _ (S'.led fun _ q => .tail _ q)).go s.toks fun vs tk hk hv => made_fin (S'.tok tk) (.head fun p hp => Nat.ne_of_lt (hlt p hp)) hd hk hv hn fun s' o' S ho' => k (D, o') _ s' rfl ⟨ho', lo, hlt⟩ S
/-- `{x: [], y: e}` -/
theorem ev_dict2 (C : Cx w A env g d sc) (S : S1 g env s₀ s lm news) (he : ∀ s' nx, S1 g env s₀ s' lm nx → Pu w A env s' e p) (hxy : x ≠ y) : Ev w A env g s₀ s lm (.Dict [some (.Constant (.str x) k kp), some (.Constant (.str y) k2 kp2)] [.List [] lp, e] dp)
    (fun (z : Addr × Addr × Obj) _ => Dct w z.2.2 [(x, .ref z.1), (y, p)] ∧ (z.2.1 == sysModules) = false ∧ (∀ p ∈ news, p.1 < z.2.1) ∧ ∀ p ∈ news, z.1 ≠ p.1) (fun z => .ref z.2.1) (fun z => (z.1, listOf #[] 0) :: (z.2.1, z.2.2) :: news) := fun Q E k' => by
  obtain ⟨⟨m, F, hm⟩, N, same⟩ := S
  obtain ⟨p', loose, mean, mg, mb, outer, A₀, base, T, B, hA⟩ := C.ctx
  refine kdn_eval (knd := PySem.strKind PR w) F N T.nolimit rfl rfl (fun h => nomatch h) (Nat.le_of_ble_eq_true rfl) fun T2 h' o2 F' N' hlt lo hd => ?_
  have S2 : S1 g env s₀ { s with heap := h' } lm ((T2, o2) :: news) := ⟨⟨m, F', hm⟩, N', same⟩
  refine evalPairs_cons (Pu.str (w := w) (A := A) (env := env) (s := { s with heap := h' }) (x := x) _ _ s.toks fun kv tk1 hkv => wpAny_bind (ev_list (es := []) (ps := []) (S2.tok tk1) rfl (Nat.le_of_ble_eq_true rfl) _ _ fun la v s3 hv hcl S3 => wpAny_bind (wpAny_standAt (wpAny_pure ?_))))
  obtain ⟨la, lv⟩ := la
  obtain ⟨hlv, hln⟩ := hcl
  cases hv; cases hlv
  have hne : ∀ p ∈ (T2, o2) :: news, la ≠ p.1 := fun p hp z => by
    have z2 : h'.get? la = none := hln
    have := (N' p hp).1; rw [← z, z2] at this; cases this
  refine evalPairs_cons (Pu.str (w := w) (A := A) (env := env) (s := s3) (x := y) _ _ s3.toks fun kv2 tk3 hkv2 => wpAny_bind ((he _ _ S3) _ _ tk3 fun v2 tk4 hv2 => wpAny_bind (wpAny_standAt (wpAny_pure (evalPairs_nil ?_)))))
  obtain ⟨t1, rfl⟩ := hkv
  obtain ⟨t2, rfl⟩ := hkv2
  exact made_fin (l := [(x, .ref la), (y, p)]) (S3.tok tk4) (.tail (hne (T2, o2) (.head _)) (.head fun p hp => Nat.ne_of_lt (hlt p hp))) hd rfl ⟨_, _, rfl, rfl, v2, _, rfl, hv2, rfl⟩ (by simp [hxy]) fun s5 o5 S5 ho5 => k' (la, T2, o5) _ _ rfl ⟨ho5, lo, hlt, fun p hp => hne p (.tail _ hp)⟩ S5
/-- `c.update(e)`, two keys -/
theorem ev_upd {α : Type} {T2 : α → Addr} {o2 : α → Obj} {more : α → Led} {x y : Str} {px py : α → PV} {Cy : α → Shared → Prop} {gg : Obj → Led} (hc : Pu w A env s c (.ref D)) (U : UpdF D o news gg) (hD : Dct w o l) (hz : l.length ≤ 100) (S : S1 g env s₀ s lm news)
    (hE : ∀ tk, Ev w A env g s₀ { s with toks := tk } lm e Cy (fun z => .ref (T2 z)) (fun z => more z ++ (T2 z, o2 z) :: news)) (hT : ∀ z s', Cy z s' → Dct w (o2 z) [(x, px z), (y, py z)] ∧ (T2 z == sysModules) = false ∧ @Ne Nat D (T2 z) ∧ ∀ p ∈ more z, p.1 ≠ D)
    (hm : MethShape c (Str.ofString "update") apos [e] pos) (hst : starEach [e] env = (false, eval e env) :: starEach [] env) :
    Ev w A env g s₀ s lm (.Call (.Attribute c (Str.ofString "update") apos) [e] [] pos) (fun (z : α × Obj) _ => (∃ s', Cy z.1 s') ∧ Dct w z.2 (putP (putP l x (px z.1)) y (py z.1))) (fun _ => .none) (fun z => more z.1 ++ gg z.2) := fun Q E k' => by
  obtain ⟨pl, hm⟩ := hm env
  obtain ⟨kvs, h1, h2⟩ := hD
  obtain ⟨pre, post, e1, e2, h3, h4⟩ := U.split
  have hmem : (D, o) ∈ news := by rw [e1]; simp
  refine MethodCall_ (pl := pl) (hc _ _ s.toks fun u tk hu => ?_) hm
  cases hu
  refine kob_method (s := { s with toks := tk }) PySem.F.slot_dict_update PySem.F.type_dict_update S.N hmem h1 (callWith_method1 (args_cons (hE tk _ _ fun z v s5 hv hcy S5 => args_nil ?_) hst) hst rfl)
  cases hv
  obtain ⟨⟨kv5, q1, q2⟩, lo, hdd, hmo⟩ := hT z s5 hcy
  have hm5 : (D, o) ∈ more z ++ (T2 z, o2 z) :: news := List.mem_append_right _ (.tail _ hmem)
  have hD5 := kda_dict S5.N hm5 h1
  have hnd : (kvs.map (·.1)).Nodup := by obtain ⟨_, _, _, _, _, _, h⟩ := h1; exact h
  refine call_meetsIn PySem.F.slot_dict_update hD5.typeIs PySem.F.entry_dict_update (PySem.F.args_dict_update_2 _ _) (meets_dict_update (PySem.strKind PR w) D (T2 z) hdd lo) ⟨kvs, kv5, hD5, kda_dict S5.N (List.mem_append_right _ (.head _)) q1, by rw [h2.length, q2.length, sizeLine_eq]; exact Nat.le_trans (Nat.add_le_add_right hz _) (Nat.le_of_ble_eq_true rfl), fun h6 hm6 _ hs6 => ?_⟩
  obtain ⟨o6, ho6, hd6⟩ := Heap.dictOf_iff.mp hm6
  obtain ⟨u1, r1, rfl, w1, u2, r2, rfl, w2, rfl⟩ := q2
  obtain ⟨⟨m5, F5, hm5'⟩, N5, same5⟩ := S5
  have y := N5 _ hm5
  refine k' (z, o6) _ _ rfl ⟨⟨_, hcy⟩, _, hd6, DL.put (DL.put h2 hnd w1) (stored_nodup hnd) w2⟩ ⟨⟨m5, F5.change hs6 y.2.1 y.2.2, hm5'⟩, fun q hq => ?_, same5⟩
  rcases List.mem_append.mp hq with hq | hq
  · have y := N5 q (List.mem_append_left _ hq)
    exact ⟨(hs6.2 _ (hmo q hq)).trans y.1, y.2⟩
  · rw [e2] at hq
    exact news_set (fun q hq => N5 q (List.mem_append_right _ (.tail _ (e1 ▸ hq)))) h3 h4 hs6 ho6 q hq
end

theorem pvs_at {ps : List PV} {vs : List Value} (h : PvsAre ps vs) (i : Nat) (v : Value) (hv : vs[i]? = some v) : (ps.getD i .none).is v := by
  induction ps generalizing vs i with
  | nil => cases h; cases hv
  | cons p r ih =>
    obtain ⟨u, t, rfl, h1, h2⟩ := h
    cases i with
    | zero => cases hv; exact h1
    | succ i => exact ih h2 i hv
theorem PuL.tok {w : World} {A : Around} {env : Env} {s : Shared} {es : List PySem.Expr} {ps : List PV} (h : PuL w A env s es ps) (tk : Nat) : PuL w A env { s with toks := tk } es ps := by
  induction es generalizing ps with
  | nil => exact h
  | cons e es ih => obtain ⟨p, r, e1, h1, h2, h3⟩ := h; exact ⟨p, r, e1, h1, h2, ih h3⟩
section
variable {w : World} {A : Around} {env : Env} {g : Heap} {d : Nat} {sc : Scope} {s₀ s : Shared} {lm : Lm} {news : Led} {xpos pos lp : Pos} {a b : PySem.Expr} {es : List PySem.Expr} {ps : List PV} {sa : Addr} {o : Obj} {α : Type} {Cy : α → Shared → Prop} {P : α → Int} {fn : α → Led} {j : Int}
/-- `_law_pick(a, [..])` -/
theorem ev_pick (C : Cx w A env g d sc) (hd : 2 ≤ d) (S : S1 g env s₀ s lm news) (ha : Pu w A env s a (.ref sa)) (hps : PuL w A env s es ps) (h1 : 1 ≤ ps.length) (h2 : ps.length ≤ 100) (rest : Led) (hm : (sa, o) ∈ news) (ho : SrcO w o) (hr : ∀ p ∈ rest, p ∈ news) (off : ∀ p ∈ rest, p.1 ≠ sa)
    (hk : sc.names.lookup (Str.ofString "_law_pick") = some .globalImplicit) (hs1 : starEach [a, .List es lp] env = (false, eval a env) :: starEach [.List es lp] env) :
    Ev w A env g s₀ s lm (.Call (.Name (Str.ofString "_law_pick") xpos) [a, .List es lp] [] pos) (fun (y : Obj × Nat) _ => SrcO w y.1 ∧ y.2 < ps.length) (fun y => ps.getD y.2 .none) (fun y => (sa, y.1) :: rest) := fun Q E k => by
  refine Call_ (Pu.glob (p := .ref 237) C S (by k_is) rfl hk (by decide) _ _ s.toks fun u tk hu => ?_)
  cases hu
  refine callWith_K C.X (by k_is) (args_cons (ha _ _ tk fun v tk2 hv => args_cons (ev_list (S.tok tk2) (hps.tok tk2) h2 _ _ fun y v2 s' hv2 hc S' => args_nil ⟨C.X.keeps S'.keep, ?_⟩) rfl) hs1) hs1 rfl
  cases hv; cases hv2
  obtain ⟨l, vs⟩ := y
  obtain ⟨hvs, hn⟩ := hc
  have hl := hvs.length
  have hne : ∀ p ∈ news, l ≠ p.1 := fun p hp => (S.tok tk2).ne hn (o := p.2) hp
  exact useV (pick_v w sa l _ vs 0 rfl rfl (hl ▸ h1) (hl ▸ Nat.le_trans h2 (by decide)) (fun i => ps.getD i .none) (pvs_at hvs) o ho) C hd rest (all := (l, listOf vs.toArray 0) :: news) (fun p hp => by rw [List.mem_singleton.mp hp]; exact .tail _ hm) (fun p hp => .tail _ (hr p hp)) (fun p hp z => off p hp (List.mem_singleton.mp z)) (fun p hp => by
    rw [List.mem_singleton.mp hp]
    exact ⟨S'.mem (.head _), fun z => hne _ hm (List.mem_singleton.mp z)⟩) S' rfl ⟨_, _, rfl, rfl, _, _, rfl, rfl, rfl⟩ fun y v s'' hv B S'' => k y v s'' hv ⟨B.c.1, hl ▸ B.c.2⟩ S''
theorem ev_eqI (hE : Ev w A env g s₀ s lm a Cy (fun y => .int (P y)) fn) (hb : ∀ y s', Cy y s' → S1 g env s₀ s' lm (fn y) → Pu w A env s' b (.int j)) (hm : behindInMarks .Eq b = false) : Ev w A env g s₀ s lm (.Compare a [.Eq] [b] pos) (fun y _ => ∃ s', Cy y s') (fun y => .bool (P y == j)) fn := fun Q E k =>
  wpAny_Compare1 (hE _ _ fun y v s' hv hc S => hb y s' hc S _ _ s'.toks fun u tk hu => by
    obtain ⟨t, rfl⟩ := hv; obtain ⟨t', rfl⟩ := hu
    exact eq_int (k y _ _ rfl ⟨s', hc⟩ (S.tok _))) hm
end

section
variable {w : World} {A : Around} {env : Env} {g : Heap} {s₀ s : Shared} {lm : Lm} {a b : PySem.Expr} {k : Nat} {tp : Pos} {α : Type} {Cy : α → Shared → Prop} {P q : α → PV} {fn : α → Led}
theorem ev_pairE (hE : Ev w A env g s₀ s lm a Cy P fn) (hb : ∀ y s', Cy y s' → S1 g env s₀ s' lm (fn y) → Pu w A env s' b (q y)) (h1 : starEach [a, b] env = (false, eval a env) :: starEach [b] env) (h2 : starEach [b] env = (false, eval b env) :: starEach [] env) :
    Ev w A env g s₀ s lm (.Tuple [a, b] k tp) (fun (y : α × Addr × Value × Value) _ => (∃ s', Cy y.1 s') ∧ (P y.1).is y.2.2.1 ∧ (q y.1).is y.2.2.2 ∧ ∀ p ∈ fn y.1, @Ne Nat y.2.1 p.1) (fun y => .ref y.2.1) (fun y => (y.2.1, { cls := .type "tuple", data := .seq #[y.2.2.1, y.2.2.2] }) :: fn y.1) := fun Q E k' =>
  Tuple_ (args_cons (hE _ _ fun y v s1 hv hc1 S1' => args_cons (hb y s1 hc1 S1' _ _ s1.toks fun u tk hu => args_nil (by
    have S2 := S1'.tok tk
    obtain ⟨⟨m, F, hm⟩, N, same⟩ := id S2
    exact newTuple_N F N (fun h' F' N' => k' (y, _, v, u) _ _ rfl ⟨⟨_, hc1⟩, hv, hu, fun p hp => S2.ne (Heap.get?_none_of_le (Nat.le_refl _)) (o := p.2) hp⟩ ⟨⟨m, F', hm⟩, N', same⟩) (by rw [sizeLine_eq]; exact Nat.le_of_ble_eq_true rfl))) h2) h1)
end
theorem mo_at : ∀ i : Nat, i < 4 → ∃ mo : Option Int, ([PV.none, .int 0, .int 1, .int 2] : List PV).getD i .none = moP mo
  | 0, _ => ⟨Option.none, rfl⟩
  | 1, _ => ⟨some 0, rfl⟩
  | 2, _ => ⟨some 1, rfl⟩
  | 3, _ => ⟨some 2, rfl⟩
  | n + 4, h => absurd h (by omega)
/-- what a row drawn for both sides is -/
structure Drawn2 (w : World) (k : Key) (r : Rw) (e e' : En) : Prop where
  c : okC w k r e
  o : okO w k r e'
  g : GoodR 0 0 r
theorem row_v (w : World) (sa : Addr) (k : Key) (hk : (kindsL.any (· == k.2)) = true) (o : Obj) (ho : SrcO w o) :
    SpecV w 5 245 [.ref sa, .int k.1, .str k.2] [] [(sa, o)] (fun (y : Obj × Addr × En × En × Rw) => SrcO w y.1 ∧ Drawn2 w k y.2.2.2.2 y.2.2.1 y.2.2.2.1 ∧ ND ((sa, y.1) :: (y.2.1, { cls := .type "tuple", data := .seq #[.ref y.2.2.1.ad, .ref y.2.2.2.1.d] }) :: (y.2.2.2.1.led ++ y.2.2.1.led)))
      (fun y => .ref y.2.1) (fun y => (sa, y.1) :: (y.2.1, { cls := .type "tuple", data := .seq #[.ref y.2.2.1.ad, .ref y.2.2.2.1.d] }) :: (y.2.2.2.1.led ++ y.2.2.1.led)) := by
  refine specV_of [Str.ofString "source", Str.ofString "port", Str.ofString "kind"] [] [] rfl (by k_is) (by k_is) (by decide) (fun vs s hvs hX => ?_) (by decide) rfl rfl rfl (by decide) fun A env g s Q E pE hQ C S hpre lt => ?_
  · obtain ⟨_, _, _, rfl⟩ := hvs.three; exact BindsTo.of_eq rfl
  refine r_names2 C (ev_pick C (by decide) S (Pu.name C S rfl rfl rfl) (ps := [.int 0, .int 1, .int 20, .int 200]) (by exact ⟨_, _, rfl, Pu.int, rfl, _, _, rfl, Pu.int, rfl, _, _, rfl, Pu.int, rfl, _, _, rfl, Pu.int, rfl, rfl⟩) (by decide) (by decide) [] (.head _) ho (fun _ h => nomatch h) (fun _ h => nomatch h) rfl rfl)
    (fun y s hc S => ev_pick C (by decide) S (Pu.name C S rfl rfl rfl) (ps := [.int 1, .int 3, .int 70]) (by exact ⟨_, _, rfl, Pu.int, rfl, _, _, rfl, Pu.int, rfl, _, _, rfl, Pu.int, rfl, rfl⟩) (by decide) (by decide) [] (.head _) hc.1 (fun _ h => nomatch h) (fun _ h => nomatch h) rfl rfl) rfl rfl (fun _ _ _ _ _ => rfl) (fun _ _ _ _ _ => rfl) rfl rfl fun y z s hz hy S => ?_
  obtain ⟨_, hz1, hz2⟩ := hz
  obtain ⟨_, _, hy2⟩ := hy
  obtain ⟨rate, hr, h1, h2⟩ : ∃ rate : Int, ([.int 0, .int 1, .int 20, .int 200] : List PV).getD y.2 .none = .int rate ∧ 0 ≤ rate ∧ rate ≤ 1000 := by
    match y.2, hy2 with
    | 0, _ | 1, _ | 2, _ | 3, _ => exact ⟨_, rfl, by decide, by decide⟩
  obtain ⟨burst, hb, h3⟩ : ∃ burst : Int, ([.int 1, .int 3, .int 70] : List PV).getD z.2 .none = .int burst ∧ 1 ≤ burst := by
    match z.2, hz2 with
    | 0, _ | 1, _ | 2, _ => exact ⟨_, rfl, by decide⟩
  rw [hr, hb] at S
  obtain ⟨o1, _⟩ := z
  refine r_set C (ev_eqI (j := 0) (ev_fun (next_v w sa 2 (by decide) (by decide) o1 hz1) C (Nat.le_of_ble_eq_true rfl) S (by k_is) rfl (by k_is) (by exact ⟨_, _, rfl, (Pu.name C S rfl rfl rfl), rfl, _, _, rfl, Pu.int, rfl, rfl⟩) (fun _ => rfl) [] (fun _ h => h) (fun _ h => nomatch h) (fun _ h => nomatch h) (fun _ h => nomatch h)) (fun _ _ _ S => Pu.int) rfl) rfl (fun _ => rfl) fun y _ s hy S _ => ?_
  obtain ⟨_, hy⟩ := hy
  have hy := hy.c.1
  obtain ⟨o2, fi⟩ := y
  have S := S.led (news' := [(sa, o2)]) fun _ h => List.mem_append_left _ h
  refine r_set C (ev_pick C (by decide) S (Pu.name C S rfl rfl rfl) (ps := [.none, .int 0, .int 1, .int 2]) (by exact ⟨_, _, rfl, Pu.none, rfl, _, _, rfl, Pu.int, rfl, _, _, rfl, Pu.int, rfl, _, _, rfl, Pu.int, rfl, rfl⟩) (by decide) (by decide) [] (.head _) hy (fun _ h => nomatch h) (fun _ h => nomatch h) rfl rfl) rfl (fun _ => rfl) fun y _ s hy S _ => ?_
  obtain ⟨hy, hy2⟩ := hy
  obtain ⟨o3, mi⟩ := y
  obtain ⟨mo, hm⟩ := mo_at mi hy2
  rw [hm] at S
  generalize (fi == 0) = fr at S
  refine r_set C (ev_dictP (l := [(Str.ofString "rate", .int rate), (Str.ofString "most", .int (100 * burst)), (Str.ofString "grains", .int (100 * burst)), (Str.ofString "time", .int 0), (Str.ofString "frames", .bool fr), (Str.ofString "drops", moP mo)]) C S (fun s' S => .cons (Pu.name C S rfl rfl rfl) (.cons (Pu.mul Pu.int (Pu.name C S rfl rfl rfl) (mul_l (by decide) (by decide))) (.cons (Pu.mul Pu.int (Pu.name C S rfl rfl rfl) (mul_l (by decide) (by decide))) (.cons Pu.int (.cons (Pu.name C S rfl rfl rfl) (.cons (Pu.name C S rfl rfl rfl) .nil)))))) (by simp only [List.map_cons, List.map_nil]; decide) rfl rfl (fun h => nomatch h) (by decide)) rfl (fun _ => rfl) fun y _ s hy2 S _ => ?_
  obtain ⟨od, oo⟩ := y
  obtain ⟨d1, _, d2⟩ := hy2
  have hsd : @Ne Nat sa od := Nat.ne_of_lt (d2 _ (.head _))
  refine r_expr C (ev_upd (α := Addr × Addr × Obj) (T2 := fun z => z.2.1) (o2 := fun z => z.2.2) (x := Str.ofString "times") (y := Str.ofString "count") (px := fun z => .ref z.1) (py := fun _ => .int 0) (gg := fun o' => (od, o') :: [(sa, o3)]) (more := fun z => [(z.1, listOf #[] 0)]) (Pu.name C S rfl rfl rfl) (.head (List.forall_mem_cons.mpr ⟨hsd, fun _ h => nomatch h⟩)) d1 (Nat.le_of_ble_eq_true rfl) S (fun tk => ev_dict2 C (S.tok tk) (fun s' nx S => Pu.int) (by decide)) (fun z s' hz => ⟨hz.1, hz.2.1, Nat.ne_of_lt (hz.2.2.1 _ (.head _)), List.forall_mem_cons.mpr ⟨hz.2.2.2 _ (.head _), fun _ h => nomatch h⟩⟩) (fun _ => ⟨_, rfl⟩) rfl) (fun _ => rfl) fun z s hz S => ?_
  obtain ⟨⟨la, T2, oT⟩, oo'⟩ := z
  obtain ⟨⟨_, _, _, _, hla⟩, hoo⟩ := hz
  have S := S.led (news' := (la, listOf #[] 0) :: (od, oo') :: [(sa, o3)]) fun _ h => h
  have hoo : Dct w oo' (ownL (newR rate burst fr mo) la) := hoo
  refine r_ret (ev_pairE (ev_cls (fun x dx h _ => row_init w x dx h k hk rate burst fr mo h1 h3 _ [] [] (.inl ⟨rfl, rfl, rfl⟩)) C (Nat.le_refl _) S (by k_is) (by k_is) (by k_is) (by k_is) rfl (by k_is) (by exact ⟨_, _, rfl, (Pu.name C S rfl rfl rfl), rfl, _, _, rfl, (Pu.name C S rfl rfl rfl), rfl, _, _, rfl, (Pu.name C S rfl rfl rfl), rfl, _, _, rfl, (Pu.name C S rfl rfl rfl), rfl, _, _, rfl, (Pu.name C S rfl rfl rfl), rfl, _, _, rfl, (Pu.name C S rfl rfl rfl), rfl, rfl⟩) (fun _ => rfl) ((la, listOf #[] 0) :: (od, oo') :: [(sa, o3)]) (fun _ h => nomatch h) (fun _ h => h) (fun _ _ h => nomatch h)) (fun y s' hc S => (Pu.name C S rfl rfl rfl)) rfl rfl) fun y v s' hv hc S => ?_
  obtain ⟨⟨x, dx, ec⟩, T, v1, v2⟩ := y
  obtain ⟨⟨_, ⟨e1, e2, e3⟩, _, _, e4⟩, c1, c2, c3⟩ := hc
  have c1 : v1 = .ref x := c1
  have c2 : v2 = .ref od := c2
  subst c1; subst c2
  have e2 : ec.ad = x := e2
  have far : ∀ p ∈ ec.led, ∀ q ∈ (la, listOf #[] 0) :: (od, oo') :: [(sa, o3)], @Ne Nat q.1 p.1 := fun p hp => (e4 p hp).elim (fun h => nomatch h) id
  have n1 := ND.cons (a := la) (o := listOf #[] 0) e3 fun p hp => far p hp (la, listOf #[] 0) (.head _)
  have n2 := ND.cons (a := od) (o := oo') n1 (List.forall_mem_cons.mpr ⟨(hla (od, oo) (.head _)).symm, fun p hp => far p hp (od, oo') (.tail _ (.head _))⟩)
  have n3 := ND.cons (a := T) (o := { cls := .type "tuple", data := .seq #[.ref ec.ad, .ref od] }) n2 (List.forall_mem_cons.mpr ⟨c3 (od, oo') (List.mem_append_right _ (.tail _ (.head _))), List.forall_mem_cons.mpr ⟨c3 (la, listOf #[] 0) (List.mem_append_right _ (.head _)), fun p hp => c3 p (List.mem_append_left _ hp)⟩⟩)
  have n4 := ND.cons (a := sa) (o := o3) n3 (List.forall_mem_cons.mpr ⟨(c3 (sa, o3) (List.mem_append_right _ (.tail _ (.tail _ (.head _))))).symm, List.forall_mem_cons.mpr ⟨hsd, List.forall_mem_cons.mpr ⟨(hla (sa, o3) (.tail _ (.head _))).symm, fun p hp => far p hp (sa, o3) (.tail _ (.tail _ (.head _)))⟩⟩⟩)
  refine hQ _ _ ⟨(o3, T, ec, ⟨od, oo', la, [], 0, []⟩, newR rate burst fr mo), _, ⟨hy, ⟨e1, ⟨rfl, hoo, .nil⟩, ⟨h1, h2, Int.le_refl _, Int.le_refl _, fun _ _ _ => rfl, Nat.le_refl _, Nat.le_refl _⟩⟩, n4⟩, hv, S.led fun p hp => ?_⟩
  rw [← e2]
  simp only [List.mem_cons, List.mem_append, En.led, List.not_mem_nil, or_false] at hp ⊢
  rcases hp with h | h | (h | h) | h
  · exact .inr (.inr (.inr (.inr h)))
  · exact .inl h
  · exact .inr (.inr (.inr (.inl h)))
  · exact .inr (.inr (.inl h))
  · exact .inr (.inl h)

section
open PySem PySem.Calls
variable {prog : Program} {w : World} {A : Around} {R : Result → Shared → Prop} {h : Heap} {g : Array GenState} {d : Drawn} {t : Nat} {os : OsState}
variable {nm q : Str} {C N fI : Addr} {bs bm : List Value} {hdct : Bool} {sn : List Str} {sub : List Value} {ab : Bool} {col : Option Bool} {dd : Option Addr} {k0 k1 k2 k3 k5 : Option Value}

/-- the object that Exception.__new__ lays -/
noncomputable abbrev bare (C t : Addr) : Obj := { cls := .ref C, data := .fields #[.ref t, .none, .none, .none, .bool false, .none] }

theorem exc_check_new {M : Model} {E : Value → Shared → Prop} {rest : List Value} {Q : Unit → Shared → Prop} (hcE : bm.contains (.type "Exception") = true)
    (hC : h.get? C = some (excClassObj nm q C N bs bm hdct sn sub ab col dd k0 k1 k2 k3 k5 "Exception.__new__"))
    (hq : Q () ⟨h, g, d, t, os⟩) : wpAny M A (checkBuiltinCall "Exception.__new__" ⟨.ref C :: rest, []⟩) Q E ⟨h, g, d, t, os⟩ := by
  have F := PySem.F.excBase_Exception
  have hcont : (Value.ref C :: bm).contains (.type "Exception") = true := by rw [List.contains_cons, hcE, Bool.or_true]
  have hstar := F.noStar
  simp only [checkBuiltinCall, F.newKind, F.newSplit, F.newRow]
  repeat (first | refine wpAny_loadPart_at hC ?_ | (refine wpAny_isSubtype_exc hC ?_; rw [hcont]) | refine wpAny_staticBase_exc hC ?_ | refine wpAny_madeBy_exc hC ?_ | simp only [bne_self_eq_false, Bool.false_eq_true, if_false] | wp_step)
  exact hq

theorem exc_new {rest : List Value} (hcE : bm.contains (.type "Exception") = true) (hcA' : bm.contains (.type "AttributeError") = false) (hcN' : bm.contains (.type "NameError") = false)
    (hC : h.get? C = some (excClassObj nm q C N bs bm hdct sn sub ab col dd k0 k1 k2 k3 k5 "Exception.__new__"))
    (hq : R (.ok (.ret (.ref (h.objs.size + 1)))) ⟨(h.push { cls := .type "tuple", data := .seq rest.toArray }).push (bare C h.objs.size), g, d, t, os⟩) (hrest : rest.length ≤ sizeLine) :
    codeAny (model prog w) A (.builtin "Exception.__new__" ⟨.ref C :: rest, []⟩) R ⟨h, g, d, t, os⟩ := by
  have F := PySem.F.excBase_Exception
  have hends := F.ends
  have hcB : (Value.ref C :: bm).contains (.type "Exception") = true := by rw [List.contains_cons, hcE, Bool.or_true]
  have hcA : (Value.ref C :: bm).contains (.type "AttributeError") = false := by rw [List.contains_cons, hcA']; rfl
  have hcN : (Value.ref C :: bm).contains (.type "NameError") = false := by rw [List.contains_cons, hcN']; rfl
  refine codeAny_builtinAt F.entry ?_
  unfold Builtin.«BaseException.__new__»
  refine PySem.wpAt_bind ?_
  show PySem.wpAt _ _ _ (stack >>= _) _ _ _
  refine PySem.wpAt_bind (PySem.wpAt_stack fun p below => PySem.wpAt_of_wpAny ?_)
  wp_walk
  refine PySem.wpAt_of_wpAny ?_
  rw [F.owner]
  repeat (first | with_reducible refine wpAny_madeHere_exc F.canon hC ?_ | with_reducible refine wpAny_loadPart_at hC ?_ | (with_reducible refine wpAny_isSubtype_exc hC ?_; first | rw [hcB] | rw [hcA] | rw [hcN]) | wp_step)
  show R _ _
  rw [Heap.size_push]
  exact hq

theorem exc_call {rest : List Value} (hcE : bm.contains (.type "Exception") = true) (hcA : bm.contains (.type "AttributeError") = false) (hcN : bm.contains (.type "NameError") = false) (hrest : rest.length ≤ sizeLine)
    (hC : h.get? C = some (excClassObj nm q C N bs bm hdct sn sub ab col dd k0 k1 k2 k3 k5 "Exception.__new__"))
    (hi : Looks (model prog w) h (typeLookup (.ref C) "__init__") (some (.ref fI))) (hb : ∀ self, Looks (model prog w) h (bindSpecial (.ref fI) self) (.ref fI, [self]))
    (hq : codeAny (model prog w) (A.under (.builtin "type.__call__" ⟨.ref C :: rest, []⟩)) (.call (.ref fI) ⟨.ref (h.objs.size + 1) :: rest, []⟩) (InitBack (h.objs.size + 1) R)
      ⟨(h.push { cls := .type "tuple", data := .seq rest.toArray }).push (bare C h.objs.size), g, d, t, os⟩) :
    codeAny (model prog w) A (.call (.ref C) ⟨rest, []⟩) R ⟨h, g, d, t, os⟩ := by
  have F := PySem.F.excBase_Exception
  have f1 := tc_lookup
  have f2 := tc_bind (.ref C)
  have hT : (⟨h, g, d, t, os⟩ : Shared).TypeIs (.ref C) "type" := ⟨_, hC, rfl⟩
  refine codeAny_of_tree ?_
  show wpAny _ _ (callAny (.ref C) _) _ _ _
  repeat (any_goals (first | assumption | with_reducible refine wpAny_loadPart_at hC ?_ | wp_step))
  refine ⟨rfl, ?_⟩
  refine codeAny_call_builtin_at (Code.quiet_builtin _ (by decide +kernel)) entry_typeCall (wpAny_check_type_call_sub hC ?_)
  unfold Builtin.«type.__call__»
  repeat (first | with_reducible refine wpAny_loadPart_at hC ?_ | with_reducible refine wpAny_madeBy_exc hC ?_ | wp_step)
  refine codeAny_call_builtin_code (Code.quiet_builtin _ F.quiet) (exc_check_new hcE hC ?_)
  refine exc_new hcE hcA hcN hC ?_ hrest
  show wpAny _ _ _ _ _ _
  have k : ∀ b o, h.get? b = some o → ((h.push { cls := .type "tuple", data := .seq rest.toArray }).push (bare C h.objs.size)).get? b = some o := fun b o e => Heap.get?_push_of_some _ (Heap.get?_push_of_some _ e)
  have hC₁ := k _ _ hC
  have hget : ((h.push { cls := .type "tuple", data := .seq rest.toArray }).push (bare C h.objs.size)).get? (h.objs.size + 1) = some (bare C h.objs.size) := by heap_get
  have t1 : Looks (model prog w) ((h.push { cls := .type "tuple", data := .seq rest.toArray }).push (bare C h.objs.size)) (typeOf (.ref (h.objs.size + 1))) (.ref C) := (Looks.ld hget).andThen .now
  have hcC : (Value.ref C :: bm).contains (.ref C) = true := by simp
  have i1 := hi.keeps k
  have b1 := (hb (.ref (h.objs.size + 1))).keeps k
  unfold isInstance
  repeat (first | with_reducible refine wpAny_loadPart_at hget ?_ | (with_reducible refine wpAny_isSubtype_exc hC₁ ?_; rw [hcC]) | wp_step)
  show wpAny _ _ (isSubtype (.ref C) (.ref C)) _ _ _
  refine wpAny_isSubtype_exc hC₁ ?_
  rw [hcC]
  show wpAny _ _ (holding [Value.ref (h.objs.size + 1)] (callSpecial? (Value.ref (h.objs.size + 1)) (Str.ofString "__init__") rest []) >>= _) _ _ ⟨(h.push { cls := .type "tuple", data := .seq rest.toArray }).push (bare C h.objs.size), g, d, t, os⟩
  unfold callSpecial? specialOf
  repeat (first | with_reducible refine wpAny_call ?_ | lk)
  refine codeAny_mono hq fun r s' z => ?_
  rcases r with e | (v | _ | _ | _) <;> first | exact z | exact z.elim | skip
  obtain ⟨rfl, z⟩ := z
  exact wpAny_pure (wpAny_pure z)
end

section
open PySem PySem.Calls Builtin Builtin.ObjectAttr
variable {prog : Program} {w : World} {A : Around} {K : Frag} {C x dx L : Addr} {s : Shared} {h₀ : Heap} {m : Str → Option Value} {rest : List (Addr × Obj)} {R : Result → Shared → Prop} {name : Str} {tk : Tok} {v : Value} {cd : ClassData}

theorem osa_openE {ox : Obj} {od : Option Obj} (X : K.In s.heap) (I : InstAt s.heap x ox C od) (hc : clsIn K C = some cd) (hr : refuseLoop (.ref x) "__setattr__" cd.mro = pure ()) (ho : cd.mro.contains (.type "object") = true) (hne : cd.mro.isEmpty = false)
    (ha : findIn K (.ref C) name = some none)
    (h : wpAny (model prog w) A.in1 (storeInOwnDict (.ref x) (.ref C) (.str name tk) name v false)
      (fun fin s' => match fin with | .done f => R (.ok f) s' | .again c' => c'.quiet = true ∧ codeAny (model prog w) A c' R s') (fun e s' => R (.error e) s') s) :
    codeAny (model prog w) A (.call (.builtin "object.__setattr__") ⟨[.ref x, .str name tk, v], []⟩) R s := by
  have SF := PySem.F.store_object
  have sub : Looks (model prog w) s.heap (isInstance (.ref x) (.type "object")) true := I.type.andThen (looks_mroIn X (by unfold mroIn; rw [hc, Option.bind_some, if_neg (by rw [hne]; decide), ho]))
  refine codeAny_call_builtin SF.slot.plain SF.entry (@check_slot (model prog w) _ _ s "object.__setattr__" "object" "__setattr__" (.ref x) [.str name tk, v] [] _ SF.kind SF.split sub (SF.args (.ref x) (.str name tk) v) ?_)
  have hm : Looks (model prog w) s.heap (mroOf (.ref C)) cd.mro := (looks_clsIn X hc).andThen .now
  rw [osa_eq, refuse_eq]
  refine wpAny_bind (wpAny_bind (I.type.here (wpAny_bind (hm.here ?_))))
  rw [hr]
  exact wpAny_pure (wpAny_bind (I.type.here (wpAny_bind ((looks_findIn X ha).here (wpAny_bind (wpAny_pure h))))))

theorem store_tail {E : Value → Shared → Prop} {Q : Fin → Shared → Prop} {es es' : List DictEntry} {n n' : Nat} (F : Fr h₀ L s.heap m) (N : News h₀ L s.heap ((dx, dictOf es n) :: rest)) (ho : ∀ p ∈ rest, p.1 ≠ dx) (hl : (getL name es).isSome = true)
    (e : (putL name (PyData.keyHash w.params name) (.str name s.toks) v es, putN name es n) = (es', n')) (hz : es'.length ≤ 1000)
    (h : ∀ h', Fr h₀ L h' m → News h₀ L h' ((dx, dictOf es' n') :: rest) → Q (.done (.ret .none)) { s with heap := h', toks := s.toks + 1 }) :
    wpAny (model prog w) A (storeInDict dx (.str name tk) name v) Q E s := by
  obtain ⟨e1, e2⟩ := Prod.mk.inj e
  have e3 : Obj.putName name (PyData.keyHash w.params name) (.str name s.toks) v (dictOf es n) = dictOf es' n' := by rw [putName_dict, e1, e2]
  obtain ⟨U1, U2⟩ := news_upd (pre := []) (f := Obj.putName name (PyData.keyHash w.params name) (.str name s.toks) v) F N (fun _ q => nomatch q) ho e3 rfl
  have D := (N _ (.head _)).1
  have D' := (U2 _ (.head _)).1
  dsimp only at D D'
  unfold storeInDict
  refine wpAny_bind (wpAny_pure (wpAny_bind ?_))
  unfold nsSet
  refine wpAny_bind (wpAny_bind (wpAny_askSetting (wpAny_pure (wpAny_bind (wpAny_mkText (wpAny_bind (wpAny_loadPart D ?_)))))))
  dsimp only
  have c : aRefKeyMayBeTheName name es.toArray = false := by
    rw [aRefKeyMayBeTheName_at, ← Array.any_toList, ← Array.any_toList]
    unfold getL at hl
    split at hl
    · rename_i en he
      rw [List.any_eq_true.mpr ⟨en, List.mem_of_find?_eq_some he, List.find?_some he⟩]; rfl
    · split at hl
      · cases hl
      · rename_i z; rw [Bool.not_eq_true] at z; rw [z, Bool.and_false]
  rw [c]
  refine wpAny_updatePart D ?_
  refine wpAny_bind (wpAny_lookBehind D' (pastItsLine_dict (by rw [List.size_toArray, sizeLine_eq]; omega)) ?_)
  exact wpAny_pure (h _ U1 U2)

noncomputable abbrev excObj (C : Addr) (dx : Option Addr) (vs : Array Value) : Obj := { cls := .ref C, dict := dx, data := .fields vs }

theorem exc_set1 {E : Value → Shared → Prop} {Q : Unit → Shared → Prop} {vs : Array Value} (F : Fr h₀ L s.heap m) (X₀ : K.In h₀) (N : News h₀ L s.heap ((x, excObj C none vs) :: rest)) (hx : ∀ p ∈ rest, p.1 ≠ x)
    (hc : clsIn K C = some cd) (hdd : cd.hasDict = true) (hr : refuseLoop (.ref x) "__setattr__" cd.mro = pure ()) (ho : cd.mro.contains (.type "object") = true) (hne : cd.mro.isEmpty = false)
    (hs : findIn K (.ref C) "__setattr__" = some (some (.builtin "object.__setattr__"))) (ha : findIn K (.ref C) name = some none)
    (h : ∀ h' dx tk, Fr h₀ L h' m → News h₀ L h' ((dx, dictOf [⟨PyData.keyHash w.params name, .str name tk, v⟩] 1) :: (x, excObj C (some dx) vs) :: rest) → (∀ p ∈ rest, p.1 < dx) → x < dx → Q () { s with heap := h', toks := s.toks + 2 }) :
    wpAny (model prog w) A (setAttr (.ref x) name v) Q E s := by
  have X := X₀.keeps F.keep
  have D := (N _ (.head _)).1
  dsimp only at D
  have I : InstAt s.heap x (excObj C none vs) C none := ⟨D, rfl, rfl, trivial⟩
  refine set_plain X I hs (osa_openE (s := { s with toks := s.toks + 1 }) X I hc hr ho hne ha ?_)
  unfold storeInOwnDict ownStreamTells
  refine wpAny_bind (wpAny_pure ?_)
  rw [if_neg (fun e => by have := eq_of_beq e; cases this)]
  unfold ownDictForStores instanceDict
  refine wpAny_bind ?_
  show wpAny _ _ (loadPart x (some headPart) >>= _) _ _ _
  refine wpAny_bind (wpAny_loadPart D ?_)
  refine wpAny_bind (Looks.here (s := { s with toks := s.toks + 1 }) (looks_clsIn X hc) ?_)
  rw [hdd]
  refine wpAny_bind (wpAny_alloc ?_)
  have F1 := F.push { cls := .type "dict", data := .dict #[] }
  have N1 := N.push F { cls := .type "dict", data := .dict #[] }
  have D1 := (N1 _ (.tail _ (.head _))).1
  have hlt : ∀ p ∈ (x, excObj C none vs) :: rest, p.1 < s.heap.objs.size := fun p hp => Heap.lt_size (N p hp).1
  refine wpAny_bind (wpAny_update D1 ?_)
  obtain ⟨F2, N2⟩ := news_upd (pre := [(s.heap.objs.size, ({ cls := .type "dict", data := .dict #[] } : Obj))]) (f := fun o => { o with dict := some s.heap.objs.size }) (o' := excObj C (some s.heap.objs.size) vs) F1 N1
    (fun p hp => by rcases List.mem_singleton.mp hp with rfl; exact Nat.ne_of_gt (hlt _ (.head _))) hx rfl rfl
  refine wpAny_pure (a := some s.heap.objs.size) ?_
  refine store_tail (s := { s with heap := _, toks := s.toks + 1 }) (es := []) (n := 0) F2 N2 (fun p hp => ?_) rfl rfl (show (1 : Nat) ≤ 1000 by decide) fun h' F' N' => ?_
  · rcases List.mem_cons.mp hp with rfl | hp
    · exact Nat.ne_of_lt (hlt (x, excObj C none vs) (.head _))
    · exact Nat.ne_of_lt (hlt _ (.tail _ hp))
  · exact h h' _ _ F' N' (fun p hp => hlt _ (.tail _ hp)) (hlt _ (.head _))

theorem exc_set2 {E : Value → Shared → Prop} {Q : Unit → Shared → Prop} {vs : Array Value} {es es' : List DictEntry} {n n' : Nat} (F : Fr h₀ L s.heap m) (X₀ : K.In h₀) (N : News h₀ L s.heap ((dx, dictOf es n) :: (x, excObj C (some dx) vs) :: rest)) (hx : ∀ p ∈ rest, p.1 ≠ dx) (hxd : x ≠ dx)
    (hc : clsIn K C = some cd) (hdd : cd.hasDict = true) (hr : refuseLoop (.ref x) "__setattr__" cd.mro = pure ()) (ho : cd.mro.contains (.type "object") = true) (hne : cd.mro.isEmpty = false)
    (hs : findIn K (.ref C) "__setattr__" = some (some (.builtin "object.__setattr__"))) (ha : findIn K (.ref C) name = some none) (hl : (getL name es).isSome = true)
    (e : (putL name (PyData.keyHash w.params name) (.str name (s.toks + 1)) v es, putN name es n) = (es', n')) (hz : es'.length ≤ 1000)
    (h : ∀ h', Fr h₀ L h' m → News h₀ L h' ((dx, dictOf es' n') :: (x, excObj C (some dx) vs) :: rest) → Q () { s with heap := h', toks := s.toks + 2 }) :
    wpAny (model prog w) A (setAttr (.ref x) name v) Q E s := by
  have X := X₀.keeps F.keep
  have D := (N _ (.tail _ (.head _))).1
  dsimp only at D
  have I : InstAt s.heap x (excObj C (some dx) vs) C (some (dictOf es n)) := ⟨D, rfl, rfl, (N _ (.head _)).1⟩
  refine set_plain X I hs (osa_openE (s := { s with toks := s.toks + 1 }) X I hc hr ho hne ha ?_)
  unfold storeInOwnDict ownStreamTells
  refine wpAny_bind (wpAny_pure ?_)
  rw [if_neg (fun e => by have := eq_of_beq e; cases this)]
  unfold ownDictForStores instanceDict
  refine wpAny_bind ?_
  show wpAny _ _ (loadPart x (some headPart) >>= _) _ _ _
  refine wpAny_bind (wpAny_loadPart D ?_)
  refine wpAny_bind (Looks.here (s := { s with toks := s.toks + 1 }) (looks_clsIn X hc) ?_)
  rw [hdd]
  refine wpAny_pure (a := some dx) ?_
  refine store_tail (s := { s with toks := s.toks + 1 }) F N (fun p hp => ?_) hl e hz fun h' F' N' => h h' F' N'
  rcases List.mem_cons.mp hp with rfl | hp
  · exact hxd
  · exact hx p hp
end

section
open PySem PySem.Calls
variable {prog : Program} {w : World} {A : Around} {L x : Addr} {s : Shared} {h₀ : Heap} {m : Str → Option Value} {rest : List (Addr × Obj)}
variable {nm q : Str} {C N' : Addr} {bs bm : List Value} {hdct : Bool} {sn : List Str} {sub : List Value} {ab : Bool} {col : Option Bool} {dd : Option Addr} {k0 k1 k2 k3 k5 : Option Value}

theorem exc_init {E : Value → Shared → Prop} {Q : Value → Shared → Prop} {t0 : Addr} {a1 a2 a3 a4 a5 msg : Value} (F : Fr h₀ L s.heap m) (N : News h₀ L s.heap ((x, excObj C none #[.ref t0, a1, a2, a3, a4, a5]) :: rest)) (hx : ∀ p ∈ rest, p.1 ≠ x)
    (hcE : bm.contains (.type "Exception") = true) (hC : s.heap.get? C = some (excClassObj nm q C N' bs bm hdct sn sub ab col dd k0 k1 k2 k3 k5 "Exception.__new__"))
    (h : ∀ h' t, Fr h₀ L h' m → News h₀ L h' ((t, { cls := .type "tuple", data := .seq #[msg] }) :: (x, excObj C none #[.ref t, a1, a2, a3, a4, a5]) :: rest) → (∀ p ∈ rest, p.1 < t) → x < t → Q .none { s with heap := h' }) :
    wpAny (model prog w) A (call (.builtin "Exception.__init__") [.ref x, msg]) Q E s := by
  have FF := PySem.F.excBase_Exception
  obtain ⟨hp, g, d, tk, os⟩ := s
  dsimp only at F N hC
  have D := (N _ (.head _)).1
  dsimp only at D
  have hcB : (Value.ref C :: bm).contains (.type "Exception") = true := by rw [List.contains_cons, hcE, Bool.or_true]
  have chk : ∀ {M : Model} {A' : Around} {E' : Value → Shared → Prop} {Q' : Unit → Shared → Prop}, Q' () ⟨hp, g, d, tk, os⟩ → wpAny M A' (checkBuiltinCall "Exception.__init__" ⟨[.ref x, msg], []⟩) Q' E' ⟨hp, g, d, tk, os⟩ := by
    intro M A' E' Q' hq
    have hshort := FF.noStar
    simp only [checkBuiltinCall, FF.initKind, FF.initSplit, FF.initRow]
    repeat (first | (with_reducible refine wpAny_loadPart_at D ?_) | with_reducible refine wpAny_loadPart_at hC ?_ | (with_reducible refine wpAny_isSubtype_exc hC ?_; rw [hcB]) | wp_step)
    exact hq
  refine wpAny_call (codeAny_call_builtin FF.init.plain FF.initEntry (chk ?_))
  have F1 := F.push { cls := .type "tuple", data := .seq #[msg] }
  have N1 := N.push F { cls := .type "tuple", data := .seq #[msg] }
  have hlt : ∀ p ∈ (x, excObj C none #[.ref t0, a1, a2, a3, a4, a5]) :: rest, p.1 < hp.objs.size := fun p hq => Heap.lt_size (N p hq).1
  obtain ⟨F2, N2⟩ := news_upd (pre := [(hp.objs.size, ({ cls := .type "tuple", data := .seq #[msg] } : Obj))]) (f := fun o => o.mapFields fun vs => vs.setIfInBounds 0 (.ref hp.objs.size)) (o' := excObj C none #[.ref hp.objs.size, a1, a2, a3, a4, a5]) F1 N1
    (fun p hq => by rcases List.mem_singleton.mp hq with rfl; exact Nat.ne_of_gt (hlt _ (.head _))) hx rfl rfl
  have D1 := (N1 _ (.tail _ (.head _))).1
  dsimp only at D1
  wp_walk
  exact h _ _ F2 N2 (fun p hq => hlt _ (.tail _ hq)) (hlt (x, excObj C none #[.ref t0, a1, a2, a3, a4, a5]) (.head _))
end

section
open PySem PySem.Calls
variable {w : World} {L : Addr} {s : Shared} {h₀ base : Heap} {m mg mb : Str → Option Value} {news : List (Addr × Obj)} {outer : List Env} {A A₀ : Around} {env : Env} {p : Program} {loose : List Str} {mean : ExcName → Option Value}

theorem refuse59 (v : Value) : refuseLoop v "__setattr__" [.ref 59, .ref 38, .type "Exception", .type "BaseException", .type "object"] = pure () := by
  rw [refuseLoop_ref, refuseLoop_ref]
  kernel_rfl

theorem meta_Exception : typeOf (.type "Exception") = pure (.type "type") := by kernel_rfl
theorem swap2 {h₀ h : Heap} {L : Addr} {a b : Addr × Obj} {rest : List (Addr × Obj)} (N : News h₀ L h (a :: b :: rest)) : News h₀ L h (b :: a :: rest) :=
  cb_drop N fun p hp => by
    rcases List.mem_cons.mp hp with rfl | hp
    · exact .tail _ (.head _)
    · rcases List.mem_cons.mp hp with rfl | hp
      · exact .head _
      · exact .tail _ (.tail _ hp)
/-- a SettingError that a call has made -/
structure SetErr (h h' : Heap) (e t : Addr) (args : List Value) : Prop where
  keeps : ∀ b o, h.get? b = some o → h'.get? b = some o
  new : h.get? e = none
  newT : h.get? t = none
  there : ∃ dx, h'.get? e = some (excObj 59 (some dx) #[.ref t, .none, .none, .none, .bool false, .none])
  tup : h'.get? t = some { cls := .type "tuple", data := .seq args.toArray }
end
section
open PySem PySem.Calls
theorem units_under_tc (A : Around) (vs : List Value) : (A.under (.builtin "type.__call__" ⟨vs, []⟩)).units = A.units + 1 := rfl
/-- SettingError, as the top has left it -/
noncomputable abbrev setCls : Obj := excClassObj (Str.ofString "SettingError") (Str.ofString "SettingError") 59 58 [.ref 38] [.ref 38, .type "Exception", .type "BaseException", .type "object"] true [] [] false none none
  (some (.ref 42)) none (some (.str (Str.ofString "SettingError") 225)) (some (.str (Str.ofString "SettingError") 233)) (some (.bool true)) "Exception.__new__"
theorem setCls_in {w : World} {h : Heap} (X : (pre.heap_1 w.params).In h) : h.get? 59 = some setCls := X 59 _ rfl

noncomputable def RaisesSet (E : Value → Shared → Prop) (v : Value) (s₁ : Shared) : Prop :=
  ∃ a dx t, v = .ref a ∧ s₁.heap.get? a = some (excObj 59 dx #[.ref t, .none, .none, .none, .bool false, .none]) ∧ s₁.heap.get? 59 = some setCls ∧ E (.ref a) s₁

theorem Raise_set {M : Model} {A : Around} {E : Value → Shared → Prop} {s : Shared} {env : Env} {e : PySem.Expr} {pos : Pos} {Q : Flow → Shared → Prop} (hh : A.handled = none)
    (h : wpAny M A (eval e env) (RaisesSet E) E s) : wpAny M A (exec (.Raise (some e) none pos) env) Q E s := by
  show wpAny M A (do standAt pos; raiseStmt env (some (do let v ← eval e env; standAt pos; pure v)) none) Q E s
  refine wpAny_bind (wpAny_standAt ?_)
  unfold raiseStmt
  dsimp only
  refine wpAny_bind (wpAny_bind (wpAny_mono h (fun v s₁ h₁ => wpAny_bind (wpAny_standAt (wpAny_pure ?_))) fun _ _ x => x))
  obtain ⟨a, dx, t0, rfl, ha, hC, hE⟩ := h₁
  obtain ⟨hp, g, d, tk, os⟩ := s₁
  have hcB : (Value.ref 59 :: [Value.ref 38, .type "Exception", .type "BaseException", .type "object"]).contains (.type "BaseException") = true := rfl
  repeat (first | with_reducible refine wpAny_loadPart_at ha ?_ | with_reducible refine wpAny_loadPart_at hC ?_ | (with_reducible refine wpAny_isSubtype_exc hC ?_; rw [hcB]) | wp_step)
  exact wpAny_raiseNew_none hh hE

theorem leaves_setW {M : Model} {A : Around} {E : Value → Shared → Prop} {s : Shared} {base h : Heap} {env : Env} {outer : List Env} {L e t : Addr} {args : List Value} {Q : Unit → Shared → Prop}
    (hfr : A.frames = some (env :: outer)) (hf : env.frame = some L) (hkb : base.StaysIn h) (hl : h.FunFrames base (env :: outer)) (hx : SetErr h s.heap e t args)
    (hQ : ∀ h', Heap.FlyingW base outer e (.ref 59) (.ref t) h' → h'.TupAt t args → base.get? t = none → s.heap.UpToSlots h' → Q () { s with heap := h' }) : wpAny M A (leaving env (.ref e)) Q E s := by
  obtain ⟨dx, he⟩ := hx.there
  have fresh : ∀ b, h.get? b = none → base.get? b = none := fun b hb => by
    cases hq : base.get? b with
    | none => rfl
    | some o' => have := hkb b o' hq; rw [hb] at this; cases this
  refine wpAny_leaving_firstW (a0 := .ref t) hfr (hl.of_keeps fun b o hb _ => ⟨o, hx.keeps b o hb, rfl⟩) hf he (fun b o hb => hx.keeps b o (hkb b o hb)) (fresh e hx.new) rfl rfl rfl fun h' hL => ?_
  obtain ⟨k1, ⟨_, _, k2⟩, k3, k4⟩ := hL
  exact hQ h' ⟨k1, fresh e hx.new, k2, k3⟩ (Heap.TupAt.of_slots ⟨_, _, hx.tup, rfl, rfl⟩ k4) (fresh t hx.newT) k4

end
section
open PySem PySem.Calls
theorem leave_setS {M : Model} {A : Around} {E : Value → Shared → Prop} {s' : Shared} {base g h : Heap} {outer : List Env} {L a e t : Addr} {m : Str → Option Value} {name : Str} {scope : Scope} {cd : Value} {Q : Unit → Shared → Prop} {news : List (Addr × Obj)} {vs : List Value}
    (K : Below A base outer g) (hx : SetErr h s'.heap e t vs) (F : Fr g L h m) (N : News g L h news)
    (hQ : ∀ h', RaisedS base g outer e (.ref 59) t vs news h' → g.UpToSlots h' → Q () { s' with heap := h' }) (hk : scope.kind = .function := by rfl) :
    wpAny M (A.deeper (envOf name scope L a cd)) (leaving (envOf name scope L a cd) (.ref e)) Q E s' := by
  have K' := K.push (name := name) (a := a) (cd := cd) F hk
  have hin : ∀ env ∈ (envOf name scope L a cd :: outer), ∀ b, env.frame = some b → b ∈ (envOf name scope L a cd :: outer).filterMap (·.frame) := fun env he b hb => List.mem_filterMap.mpr ⟨env, he, hb⟩
  have st : base.StaysIn (hideAll h ((envOf name scope L a cd :: outer).filterMap (·.frame))) := fun b o q => hideAll_get _ (K'.stays b o q) fun hm => by
    rw [(K'.frames.mem hm).1] at q; cases q
  have sg : ∀ b o, g.get? b = some o → b ∉ outer.filterMap (·.frame) → (hideAll h ((envOf name scope L a cd :: outer).filterMap (·.frame))).get? b = some o := fun b o q nm => hideAll_get _ (F.keep b o q) fun hm => by
    rcases kts_mem hm with z | z
    · rw [z, kts_self F] at q; cases q
    · exact nm z
  refine leaves_setW K'.stack rfl (fun b o q => of_hideAll _ q) (funFrames_hide K'.frames hin) hx fun h' x1 x2 x3 x4 =>
    hQ h' ⟨⟨_, st, sg, fun q hq => ⟨hideAll_get _ (N q hq).1 fun hm => ?_, (N q hq).2.2, fresh_of_stays K.stays (N q hq).2.2⟩, x1, x3⟩, x2⟩ (((Heap.UpToSlots.of_keeps F.keep).trans (Heap.UpToSlots.of_keeps hx.keeps)).trans x4)
  obtain ⟨env, he, hf⟩ := List.mem_filterMap.mp hm
  rcases List.mem_cons.mp he with rfl | he
  · exact (N q hq).2.1 (Option.some.inj hf).symm
  · obtain ⟨o, ho, _⟩ := (K.frames.mem (List.mem_filterMap.mpr ⟨env, he, hf⟩)).2
    rw [(N q hq).2.2] at ho; cases ho
end
section
open PySem PySem.Calls
theorem leave_onV {M : Model} {A : Around} {E : Value → Shared → Prop} {s' : Shared} {base g g₂ : Heap} {outer : List Env} {L a e t : Addr} {m : Str → Option Value} {name : Str} {scope : Scope} {cd cls : Value} {vs : List Value} {Q : Unit → Shared → Prop} {nx : Led}
    (K : Below A base outer g) (F : Fr g L g₂ m) (N : ∀ q ∈ nx, g₂.get? q.1 = some q.2 ∧ q.1 ≠ L ∧ g.get? q.1 = none) (R : RaisedS base g₂ (envOf name scope L a cd :: outer) e cls t vs [] s'.heap) (hsm : g₂.UpToSlots s'.heap)
    (hQ : ∀ h', RaisedS base g outer e cls t vs nx h' → g.UpToSlots h' → Q () { s' with heap := h' }) :
    wpAny M (A.deeper (envOf name scope L a cd)) (leaving (envOf name scope L a cd) (.ref e)) Q E s' := by
  obtain ⟨⟨B, hB, hBG, hl, hfl, hnew⟩, htup⟩ := R
  refine wpAny_leaves_onW (Around.frames_deeper K.stack) rfl hfl fun h' x1 x2 => hQ h' ⟨⟨B, hB, fun b o q nm => hBG b o (F.keep b o q) (fun hm => ?_), fun q hq => ⟨hBG _ _ (N q hq).1 fun hm => ?_, (N q hq).2.2, fresh_of_stays K.stays (N q hq).2.2⟩, x1, hnew⟩, htup.of_slots x2⟩ ((Heap.UpToSlots.of_keeps F.keep).trans (hsm.trans x2))
  · rcases kts_mem hm with z | z
    · rw [z, kts_self F] at q
      cases q
    · exact nm z
  · rcases kts_mem hm with z | z
    · exact (N q hq).2.1 z
    · obtain ⟨_, o, ho, _⟩ := K.frames.mem z
      rw [(N q hq).2.2] at ho; cases ho
end

noncomputable abbrev fv (t : Addr) : Array Value := #[.ref t, .none, .none, .none, .bool false, .none]
noncomputable abbrev msgD (w : World) (tk : Tok) (v : Value) : Obj := dictOf [⟨PyData.keyHash w.params (Str.ofString "message"), .str (Str.ofString "message") tk, v⟩] 1
noncomputable abbrev tup1 (v : Value) : Obj := { cls := .type "tuple", data := .seq #[v] }
theorem meth_shape {w : World} {A : Around} {env : Env} {s : Shared} {c : PySem.Expr} {n : Str} {apos pos : Pos} {args : List PySem.Expr} {Q E : Value → Shared → Prop} (hm : MethShape c n apos args pos)
    (hc : wpAny (model PR w) A (eval c env) (fun ov s1 => ∀ pl : Sem Bool, wpAny (model PR w) A (getMethod ov n pl) (fun p s2 => wpAny (model PR w) A (callWith pos p.1 p.2 (backTo pos (starEach args env)) []) Q E s2) E s1) E s) : wpAny (model PR w) A (eval (.Call (.Attribute c n apos) args [] pos) env) Q E s := by
  obtain ⟨pl, hm⟩ := hm env
  exact MethodCall_ (pl := pl) (wpAny_mono hc (fun _ _ h => h pl) fun _ _ h => h) hm
theorem r_exprS {w : World} {A : Around} {env : Env} {g : Heap} {d : Nat} {sc : Scope} {s₀ s : Shared} {lm : Lm} {news : Led} {pos : Pos} {e : PySem.Expr} {α : Type} {C : α → Shared → Prop} {P : α → PV} {fn : α → Led} {Q : Flow → Shared → Prop} {E : Value → Shared → Prop} {rest : List Stmt} (Cc : Cx w A env g d sc) (_ : S1 g env s₀ s lm news) (hE : Ev w A env g s₀ s lm e C P fn) (hs : ∀ en, swapsWith e none pos.line en = pure false) (k : ∀ y s', C y s' → S1 g env s₀ s' lm (fn y) → wpAny (model PR w) A (execs rest env) Q E s') :
    wpAny (model PR w) A (execs (.Expr e pos :: rest) env) Q E s := r_expr Cc hE hs k
section
variable {w : World} {A : Around} {env : Env} {s : Shared} {a b : PySem.Expr} {p q : PV} {pos : Pos} {Q : List Value → Shared → Prop} {E : Value → Shared → Prop}
theorem args_pu1 (ha : Pu w A env s a p) (h1 : starEach [a] env = (false, eval a env) :: starEach [] env) (k : ∀ v tk, p.is v → Q [v] { s with toks := tk }) : wpAny (model PR w) A (spliced (backTo pos (starEach [a] env))) Q E s :=
  args_cons (ha _ _ s.toks fun v tk1 hv => args_nil (k v tk1 hv)) h1
theorem args_pu2 (ha : Pu w A env s a p) (hb : Pu w A env s b q) (h1 : starEach [a, b] env = (false, eval a env) :: starEach [b] env) (h2 : starEach [b] env = (false, eval b env) :: starEach [] env) (k : ∀ v u tk, p.is v → q.is u → Q [v, u] { s with toks := tk }) : wpAny (model PR w) A (spliced (backTo pos (starEach [a, b] env))) Q E s :=
  args_cons (ha _ _ s.toks fun v tk1 hv => args_cons (hb _ _ tk1 fun u tk2 hu => args_nil (k v u tk2 hv hu)) h2) h1
end
theorem switch_init (w : World) (e t0 : Addr) (msg : Str) :
    SpecV w 1 35 [.ref e, .str msg] [] [(e, excObj 59 none (fv t0))] (fun (y : Addr × Addr × Value × Tok × Value) => @LT.lt Nat _ e y.1 ∧ @LT.lt Nat _ y.2.1 y.1) (fun _ => .none)
      (fun y => [(y.1, msgD w y.2.2.2.1 y.2.2.1), (e, excObj 59 (some y.1) (fv y.2.1)), (y.2.1, tup1 y.2.2.2.2)]) := by
  refine specV_of [Str.ofString "self", Str.ofString "message"] [] [] rfl (by k_is) (by k_is) (by decide) (fun vs s hvs hX => ?_) (by decide) rfl rfl rfl (by decide) fun A env g s Q E pE hQ C S hpre lt => ?_
  · obtain ⟨_, _, rfl⟩ := hvs.two; exact BindsTo.of_eq rfl
  refine r_exprS (α := Addr × Value) (C := fun y _ => (PV.str msg).is y.2 ∧ @LT.lt Nat _ e y.1) (P := fun _ => .none) (fn := fun y => [(y.1, tup1 y.2), (e, excObj 59 none (fv y.1))]) C S (fun Q E k => meth_shape (fun _ => ⟨_, rfl⟩) ?_) (fun _ => rfl) fun y s hy S => ?_
  · obtain ⟨⟨m, F, hm⟩, N, same⟩ := id S
    obtain ⟨pp, loose, mean, mg, mb, outer, A₀, base, T, B, hA⟩ := C.ctx
    have X := C.X
    obtain ⟨cn, L, a, ccd, cl, rfl⟩ := C.eX
    refine nameX_B F X (topRead_of T) (by k_is) PyProof.Rows.Boot.«Exception» (by decide) (fun pl => ?_) C.kind rfl (by decide)
    refine method_type F X meta_Exception (by decide +kernel) (by k_dflt k_is) (by k_handed) ?_
    refine PyProof.Rows.callWith_builtin1 (args_pu2 (p := .ref e) (q := .str msg) (Pu.name C (S.tok _) rfl rfl rfl) (Pu.name C (S.tok _) rfl rfl rfl) rfl rfl fun v u tk hv hu => ?_) rfl rfl
    cases hv
    refine exc_init (s := { s with heap := s.heap, toks := tk }) (bm := [.ref 38, .type "Exception", .type "BaseException", .type "object"]) (C := 59) F N (fun _ h => nomatch h) rfl (X.keeps F.keep 59 _ rfl) fun h' t F' N' l1 l2 => ?_
    exact k (t, u) _ _ rfl ⟨hu, l2⟩ ⟨⟨m, F', hm⟩, N', same⟩
  obtain ⟨t, u⟩ := y
  obtain ⟨hu, het⟩ := hy
  have S := S.led (news' := [(e, excObj 59 none (fv t)), (t, tup1 u)]) (List.forall_mem_cons.mpr ⟨.tail _ (.head _), List.forall_mem_cons.mpr ⟨.head _, fun _ h => nomatch h⟩⟩)
  refine wpAny_execs_cons (plainObj_wpAny_Assign_Attribute ((Pu.name C S rfl rfl rfl) _ _ s.toks fun v tk hv => Pu.name C (S.tok tk) rfl rfl rfl _ _ tk fun x tk2 hx => ?_) rfl)
  cases hx
  obtain ⟨⟨m, F, hm⟩, N, same⟩ := S
  refine exc_set1 (s := { s with toks := tk2 }) (x := e) (C := 59) F C.X N (List.forall_mem_cons.mpr ⟨(Nat.ne_of_lt het).symm, fun _ h => nomatch h⟩) (by k_is) rfl (refuse59 _) rfl rfl (by k_is) (by k_is) fun h' dx tk3 F' N' l1 l2 => ?_
  exact r_end (hQ _ _ ⟨(dx, t, v, tk3, u), _, ⟨l2, l1 _ (.head _)⟩, rfl, ⟨⟨m, F', hm⟩, N', same⟩⟩)
theorem setting_init (w : World) (e t0 : Addr) (msg : Str) :
    SpecV w 2 56 [.ref e, .str msg] [] [(e, excObj 59 none (fv t0))] (fun (_ : Addr × Addr × Obj × Value) => True) (fun _ => .none)
      (fun y => [(y.1, y.2.2.1), (e, excObj 59 (some y.1) (fv y.2.1)), (y.2.1, tup1 y.2.2.2)]) := by
  refine specV_of [Str.ofString "self", Str.ofString "message", Str.ofString "row"] [.int 0 237] [.int 0] (by exact ⟨_, _, rfl, ⟨_, rfl⟩, rfl⟩) (by k_is) (by k_is) (by decide) (fun vs s hvs hX => ?_) (by decide) rfl rfl rfl (by decide) fun A env g s Q E pE hQ C S hpre lt => ?_
  · obtain ⟨_, _, rfl⟩ := hvs.two; exact binds_K hX rfl (by k_is) rfl rfl rfl
  refine r_exprS (α := Addr × Addr × Value × Tok × Value) (C := fun y _ => @LT.lt Nat _ e y.1 ∧ @LT.lt Nat _ y.2.1 y.1) (P := fun _ => .none) (fn := fun y => [(y.1, msgD w y.2.2.2.1 y.2.2.1), (e, excObj 59 (some y.1) (fv y.2.1)), (y.2.1, tup1 y.2.2.2.2)]) C S (fun Q E k => meth_shape (fun _ => ⟨_, rfl⟩) ?_) (fun _ => rfl) fun y s hy S => ?_
  · refine Pu.glob (p := .ref 38) C S (by k_is) rfl rfl rfl _ _ s.toks fun ov tk hv pl => ?_
    cases hv
    have X := C.X.keeps S.keep
    refine method_cls (s := { s with toks := tk }) X (by k_is) (cls_value (mc := .type "type") (v := .ref 35) X (by k_is) (by k_is) rfl ?_)
    refine callWith_K C.X (by k_is) (args_pu2 (p := .ref e) (q := .str msg) (Pu.name C (S.tok _) rfl rfl rfl) (Pu.name C (S.tok _) rfl rfl rfl) rfl rfl fun v u tk hv hu => ⟨X, ?_⟩) rfl rfl
    exact useV (switch_init w e t0 msg) C (Nat.le_refl _) [] (all := [(e, excObj 59 none (fv t0))]) (fun _ h => h) (fun _ h => nomatch h) (fun _ h => nomatch h) (fun _ h => nomatch h) (S.tok _) rfl ⟨_, _, rfl, hv, _, _, rfl, hu, rfl⟩ fun y v s'' hv hb S'' => k y v s'' hv hb.c (S''.led fun _ h => List.mem_append_left _ h)
  obtain ⟨dx, t, v0, tk0, u⟩ := y
  obtain ⟨l1, l2⟩ := hy
  refine wpAny_execs_cons (plainObj_wpAny_Assign_Attribute ((Pu.name C S rfl rfl rfl) _ _ s.toks fun v tk hv => Pu.name C (S.tok tk) rfl rfl rfl _ _ tk fun x tk2 hx => ?_) rfl)
  cases hx
  obtain ⟨⟨m, F, hm⟩, N, same⟩ := S
  refine exc_set2 (s := { s with toks := tk2 }) (x := e) (C := 59) (dx := dx) F C.X N (List.forall_mem_cons.mpr ⟨Nat.ne_of_lt l2, fun _ h => nomatch h⟩) (Nat.ne_of_lt l1) (by k_is) rfl (refuse59 _) rfl rfl (by k_is) (by k_is) rfl rfl (Nat.le_of_ble_eq_true rfl) fun h' F' N' => ?_
  exact r_end (hQ _ _ ⟨(dx, t, _, u), _, trivial, rfl, ⟨⟨m, F', hm⟩, N', same⟩⟩)

theorem set_ev {w : World} {A : Around} {env : Env} {g : Heap} {d : Nat} {sc : Scope} {s₀ s : Shared} {lm : Lm} {news : Led} {a : PySem.Expr} {msg : Str} {xpos pos : Pos} {Q E : Value → Shared → Prop} (C : Cx w A env g d sc) (hd : 4 ≤ d) (S : S1 g env s₀ s lm news) (hk : sc.names.lookup (Str.ofString "SettingError") = some .globalImplicit) (ha : Pu w A env s a (.str msg)) (h1 : starEach [a] env = (false, eval a env) :: starEach [] env)
    (k : ∀ e t v s', S1 g env s₀ s' lm news → SetErr s.heap s'.heap e t [v] → Q (.ref e) s') : wpAny (model PR w) A (eval (.Call (.Name (Str.ofString "SettingError") xpos) [a] [] pos) env) Q E s := by
  refine Call_ (Pu.glob (p := .ref 59) C S (by k_is) rfl hk (by decide) _ _ s.toks fun u tk hu => ?_)
  cases hu
  have X1 := C.X.keeps S.keep
  refine callWith_K C.X (by k_is) (args_cons (ha _ _ tk fun v tk2 hv => args_nil ⟨X1, ?_⟩) h1) h1 rfl
  have S1 := S.tok tk2
  obtain ⟨⟨m, F, hm⟩, N, same⟩ := id S1
  obtain ⟨hp, gg, dd, tk0, os⟩ := s
  dsimp only at F N X1 k
  refine wpAny_call (exc_call (bm := [.ref 38, .type "Exception", .type "BaseException", .type "object"]) rfl rfl rfl (by simp [sizeLine_eq]) (X1 59 _ rfl) (looks_findIn X1 (by k_is)) (fun self => bind_fn X1 self (by k_is)) ?_)
  have F1 := F.push (tup1 v)
  have N1 := N.push F (tup1 v)
  have F2 := F1.push (bare 59 hp.objs.size)
  have N2 := N1.push F1 (bare 59 hp.objs.size)
  rw [Heap.size_push] at N2
  have N3 : News g env.locals ((hp.push (tup1 v)).push (bare 59 hp.objs.size)) [(hp.objs.size + 1, excObj 59 none (fv hp.objs.size))] := cb_drop N2 (List.forall_mem_cons.mpr ⟨.head _, fun _ q => nomatch q⟩)
  have hold : ∀ b o, hp.get? b = some o → ((hp.push (tup1 v)).push (bare 59 hp.objs.size)).get? b = some o := fun b o e => Heap.get?_push_of_some _ (Heap.get?_push_of_some _ e)
  have hnone : ∀ b, ((hp.push (tup1 v)).push (bare 59 hp.objs.size)).get? b = none → hp.get? b = none := fun b hb => by
    cases q : hp.get? b with
    | none => rfl
    | some o => rw [hold b o q] at hb; cases hb
  refine setting_init w (hp.objs.size + 1) hp.objs.size msg _ env g sc lm s₀ _ _ _ (C.under (d' := 2) (by omega)) ⟨⟨m, F2, hm⟩, N3, same⟩ ⟨_, _, rfl, rfl, _, _, rfl, hv, rfl⟩ (fun _ h => nomatch h) fun y v' s'' _ hv' S'' K' D' => ⟨hv', ?_⟩
  have keep : ∀ b o, hp.get? b = some o → s''.heap.get? b = some o := fun b o e => K' b o (hold b o e) fun hm => by
    have := List.mem_singleton.mp hm
    rw [this] at e
    exact absurd (Heap.lt_size e) (Nat.not_lt_of_le (Nat.le_succ _))
  refine k _ _ y.2.2.2 s'' ⟨S''.fr, fun p hp' => ⟨keep _ _ (N p hp').1, (N p hp').2⟩, S''.same⟩ ⟨keep, Heap.get?_none_of_le (Nat.le_succ _), ?_, ⟨_, (S''.N _ (.tail _ (.head _))).1⟩, (S''.N _ (.tail _ (.tail _ (.head _)))).1⟩
  rcases D' _ (.tail _ (.tail _ (.head _))) with h | h
  · have z := List.mem_singleton.mp h
    have e1 := (S''.N _ (.tail _ (.head _))).1
    have e2 := (S''.N _ (.tail _ (.tail _ (.head _)))).1
    dsimp only at e1 e2 z
    rw [z, e1] at e2; cases e2
  · exact hnone _ h
theorem r_raise {w : World} {A : Around} {env : Env} {g : Heap} {d : Nat} {sc : Scope} {s₀ s : Shared} {lm : Lm} {news : Led} {a : PySem.Expr} {msg : Str} {xpos pos rpos : Pos} {rest : List Stmt} {Q : Flow → Shared → Prop} {E : Value → Shared → Prop} (C : Cx w A env g d sc) (hd : 4 ≤ d) (S : S1 g env s₀ s lm news) (hk : sc.names.lookup (Str.ofString "SettingError") = some .globalImplicit) (ha : Pu w A env s a (.str msg)) (h1 : starEach [a] env = (false, eval a env) :: starEach [] env)
    (k : ∀ e t v s', S1 g env s₀ s' lm news → SetErr s.heap s'.heap e t [v] → E (.ref e) s') : wpAny (model PR w) A (execs (.Raise (some (.Call (.Name (Str.ofString "SettingError") xpos) [a] [] pos)) none rpos :: rest) env) Q E s := by
  refine wpAny_execs_cons (Raise_set C.hand (set_ev C hd S hk ha h1 fun e t v s' S' hx => ?_))
  obtain ⟨dx, hx1⟩ := hx.there
  exact ⟨_, _, _, rfl, hx1, setCls_in (C.X.keeps S'.keep), k e t v s' S' hx⟩
/-- a SettingError on its way out of a call -/
noncomputable def Flies (base : Heap) (env : Env) (outer : List Env) (g : Heap) (kp : Led) (e : Value) (s' : Shared) : Prop :=
  ∃ ea t v g₂ m, e = .ref ea ∧ Fr g env.locals g₂ m ∧ RaisedS base g₂ (env :: outer) ea (.ref 59) t [v] [] s'.heap ∧ g₂.UpToSlots s'.heap ∧ ∀ q ∈ kp, g₂.get? q.1 = some q.2
noncomputable def SpecE (w : World) (d : Nat) (f : Addr) (args : List PV) (news : Led) : Prop :=
  ∀ A env g sc lm s₀ s vs R kp base outer, Cx w A env g d sc → S1 g env s₀ s lm (news ++ kp) → (∀ p ∈ kp, p.1 ∉ news.map (·.1)) → (∃ p loose mean mg mb A₀, Top p loose mean mg mb g ∧ Below A₀ base outer g) → A.frames = some (env :: outer) → PvsAre args vs →
    (∀ e s', Flies base env outer g kp e s' → s'.gens = s₀.gens ∧ s'.drawn = s₀.drawn ∧ s'.os = s₀.os → R (.error e) s') → codeAny (model PR w) A (.call (.ref f) ⟨vs, []⟩) R s
section
variable {w : World} {d : Nat} {f : Addr} {args : List PV} {news : Led} {name qual : Str} {params : Arguments} {body : List Stmt} {scope : Scope} {dV kV doc pm cdv ct oc : Value} {an od : Option Addr} {osl : Array (Option Value)}
theorem specE_of (ps : List Str) (dfl : List Value) (pd : List PV) (hpd : PvsAre pd dfl) (ho : (Mine.pre.heap_1 w.params).lookup f = some ⟨oc, od, .func (fnOf name qual params body scope dV kV doc pm an cdv ct), osl⟩) (hcd : codeIn (Mine.pre.heap_1 w.params) cdv qual = true) (hn : ps.Nodup)
    (hbind : ∀ vs s, PvsAre args vs → (Mine.pre.heap_1 w.params).In s.heap → BindsTo s (fnOf name qual params body scope dV kV doc pm an cdv ct) ⟨vs, []⟩ (ps.zip (vs ++ dfl))) (hloc : ∀ x ∈ ps, scope.names.lookup x = some .local)
    (hco : scope.isCoroutine = false) (hgen : scope.isGenerator = false) (hk : scope.kind = .function) (hcell : ∀ x ∈ scope.names, x.2 ≠ .cell)
    (hb : ∀ A env g s E, PassesOwn (model PR w) A env E → (∀ e t v s1 s' lm, S1 g env s s1 lm [] → SetErr s1.heap s'.heap e t [v] → s'.gens = s.gens ∧ s'.drawn = s.drawn ∧ s'.os = s.os → E (.ref e) s') → Cx w A env g d scope → S1 g env s s (ps.zip (args ++ pd)) news → (∀ p ∈ news, p.1 < env.locals) → wpAny (model PR w) A (execs body env) (fun _ _ => False) E s) :
    SpecE w (d + 1) f args news := by
  intro A env g₀ sc lm s₀ s vs R kp base outer Cc S hkp hctx hA hvs hR
  obtain ⟨⟨m, F, hm⟩, N, same⟩ := S
  obtain ⟨p, loose, mean, mg, mb, A₀, T, B⟩ := hctx
  have hroom := room_0 Cc.dep
  have hX := Cc.X.keeps F.keep
  have Nn : News g₀ env.locals s.heap news := cb_drop N fun p hp => List.mem_append_left _ hp
  obtain ⟨cn, L, a, ccd, cl, rfl⟩ := Cc.eX
  refine enterX (ps.zip (vs ++ dfl)).reverse B F Cc.X Nn T hA rfl Cc.kind ho hcd hroom (by rw [List.reverse_reverse]; exact hbind vs s hvs hX) (fun y hy => ?_) (fun g L' h₁ tk hg FG F' N' B' X' T' lt => ?_) hco hgen hk hcell
  · rw [List.reverse_reverse] at hy
    exact hloc _ (List.of_mem_zip hy).1
  · have hl := zip_lm (ps := ps) (hvs.app hpd)
    refine wpAny_mono (hb _ _ g { s with heap := h₁, toks := tk } _ (by passes_own) (fun e t v s1 s' lm' S1' hx hs' => ?_) ⟨⟨_, L', f, cdv, [], rfl⟩, hk, Cc.hand, X', ⟨p, loose, mean, mg, mb, _, A, base, T', B', by simp only [Around.frames_deeper hA]⟩, ?_, ?_⟩
      ⟨⟨_, F', fun x q hq => ?_⟩, N', rfl, rfl, rfl⟩ lt) (fun _ _ h => h.elim) fun _ _ x => x
    · obtain ⟨⟨m1, F1, _⟩, N1, same1⟩ := S1'
      refine leave_setS B' hx F1 N1 (fun h' R1 U1 => hR _ _ ⟨e, t, v, g, m, rfl, FG, R1, U1, fun q hq => hg _ _ (N q (List.mem_append_right _ hq)).1 (hkp q hq)⟩ ?_) hk
      exact ⟨hs'.1.trans same.1, hs'.2.1.trans same.2.1, hs'.2.2.trans same.2.2⟩
    · show A.depth + 1 + d < _
      have := Cc.dep; omega
    · show A.units + 3 + 8 * d < _
      have := Cc.un; omega
    · obtain ⟨v, h1, h2⟩ := hl x q hq
      exact ⟨v, by rw [lookup_rev (zip_map_nodup hn)]; exact h1, h2⟩
end

section
variable {w : World} {A : Around} {env : Env} {g : Heap} {d : Nat} {sc : Scope} {s₀ s : Shared} {lm : Lm} {news : Led} {x y : Str} {xpos pos : Pos} {a b : PySem.Expr}
theorem Pu.addS (ha : Pu w A env s a (.str x)) (hb : Pu w A env s b (.str y)) (hz : x.length + y.length ≤ sizeLine) : Pu w A env s (.BinOp a .Add b pos) (.str (x ++ y)) := fun _ _ tk h =>
  wpAny_BinOp (ha _ _ tk fun v tk1 hv => hb _ _ tk1 fun u tk2 hu => by obtain ⟨t, rfl⟩ := hv; obtain ⟨t', rfl⟩ := hu; exact PyProof.Rows.add_str (fun t' tk => h _ tk ⟨_, rfl⟩) hz)
theorem Pu.str1 (C : Cx w A env g d sc) (S : S1 g env s₀ s lm news) (hk : sc.names.lookup (Str.ofString "str") = some .globalImplicit) (hg : nsIn (Mine.pre.heap_1 w.params) mainGlobals (Str.ofString "str") = some (Option.none : Option Value)) (ha : Pu w A env s a (.str x)) (h1 : starEach [a] env = (false, eval a env) :: starEach [] env) :
    Pu w A env s (.Call (.Name (Str.ofString "str") xpos) [a] [] pos) (.str x) := fun Q E tk k => by
  obtain ⟨⟨m, F, hm⟩, N, same⟩ := S
  obtain ⟨cn, L, a', ccd, cl, rfl⟩ := C.eX
  obtain ⟨pp, loose, mean, mg, mb, outer, A₀, base, T, _⟩ := C.ctx
  refine Call_ (nameX_B (s := { s with toks := tk }) F C.X (topRead_of T) hg PyProof.Rows.Boot.«str» (by decide) ?_ C.kind hk (by decide))
  refine PyProof.Rows.callWith_type1 (args_cons (ha _ _ tk fun v tk hv => args_nil ?_) h1) h1 rfl
  obtain ⟨t, rfl⟩ := hv
  exact PySem.P.str_of_str (k _ _ ⟨t, rfl⟩)
end
theorem row_raises (w : World) (x dx : Addr) : SpecE w 5 147 [.ref x, .int 1, .str (Str.ofString "known"), .int 1, .int 1] [(x, instObj 162 dx), (dx, dictOf [] 0)] := by
  refine specE_of rowPs [.bool false, .none] [.bool false, .none] (by exact ⟨_, _, rfl, rfl, _, _, rfl, rfl, rfl⟩) (by k_is) (by k_is) (by decide) (fun vs s hvs hX => ?_) (by decide) rfl rfl rfl (by decide) fun A env g s E pE hE C S lt => ?_
  · obtain ⟨_, _, _, _, _, rfl⟩ := hvs.five; exact binds_K hX rfl (by k_is) rfl rfl rfl
  obtain ⟨tvs, tn, dd, sl, ht, hs⟩ : ∃ (l : List Value) (n : Nat) (dd : Option Addr) (sl : Array (Option Value)), (Mine.pre.heap_1 w.params).lookup 132 = some ⟨.type "tuple", dd, .seq l.toArray n, sl⟩ ∧ StrsAre l kindsL := ⟨_, _, _, _, by k_is, by kde_strs⟩
  refine r_if (Te.ninTup (b := false) C S (Pu.name C S rfl rfl rfl) (Pu.glob (p := .ref 132) C S (by k_is) rfl rfl rfl) ht hs (by decide) rfl) S (fun _ s S _ => ?_) fun q => nomatch q
  refine r_raise C (Nat.le_refl _) S rfl (Pu.addS Pu.str (Pu.str1 C S rfl (by k_is) (Pu.name C S rfl rfl rfl) rfl) (by rw [sizeLine_eq]; decide)) rfl fun e t v s' S' hx => hE e t v s s' _ (S.led fun _ h => nomatch h) hx S'.same

noncomputable abbrev ctlB (rl : Addr) (rn : Nat) (e1 e2 : En) : Led := (rl, listOf #[.ref e1.ad, .ref e2.ad] rn) :: (e1.led ++ e2.led)
theorem ctl_raises (w : World) (cx cd : Addr) (hxd : @LT.lt Nat _ cd cx) (rl : Addr) (rn : Nat) (k : Key) (e1 e2 : En) (r1 r2 : Rw) (h1 : okC w k r1 e1) (h2 : okC w k r2 e2) (hnd : ND (ctlB rl rn e1 e2)) (hfar : ∀ p ∈ ctlB rl rn e1 e2, p.1 < cd) :
    SpecE w 5 181 [.ref cx, .ref rl] ((cx, instObj 212 cd) :: (cd, dictOf [] 0) :: ctlB rl rn e1 e2) := by
  refine specE_of [Str.ofString "self", Str.ofString "rows", Str.ofString "recovery"] [.int 0 424] [.int 0] (by exact ⟨_, _, rfl, ⟨_, rfl⟩, rfl⟩) (by k_is) (by k_is) (by decide) (fun vs s hvs hX => ?_) (by decide) rfl rfl rfl (by decide) fun A env g s E pE hE C S lt => ?_
  · obtain ⟨_, _, rfl⟩ := hvs.two; exact binds_K hX rfl (by k_is) rfl rfl rfl
  have hrlB : (rl, listOf #[.ref e1.ad, .ref e2.ad] rn) ∈ ctlB rl rn e1 e2 := .head _
  have he1B : ∀ p ∈ e1.led, p ∈ ctlB rl rn e1 e2 := fun p hp => .tail _ (List.mem_append_left _ hp)
  have he2B : ∀ p ∈ e2.led, p ∈ ctlB rl rn e1 e2 := fun p hp => .tail _ (List.mem_append_right _ hp)
  generalize ctlB rl rn e1 e2 = B at S hnd hfar hrlB he1B he2B
  have hne : ∀ p ∈ (cx, instObj 212 cd) :: B, p.1 ≠ cd := List.forall_mem_cons.mpr ⟨(Nat.ne_of_lt hxd).symm, fun p hp => Nat.ne_of_lt (hfar p hp)⟩
  have Ss := S
  have S := S.led (news' := (cd, dictOf [] 0) :: (cx, instObj 212 cd) :: B) (List.forall_mem_cons.mpr ⟨.tail _ (.head _), List.forall_mem_cons.mpr ⟨.head _, fun _ h => .tail _ (.tail _ h)⟩⟩)
  have S0 := S
  refine r_attrE (o := dictOf [] 0) (gg := fun y o' => (y.1, y.2) :: (cd, o') :: (cx, instObj 212 cd) :: B) C (ev_dict0 C S) (fun y s' hc S => Pu.evT (Pu.name C S rfl rfl rfl) S) (fun y => .tail _ (.tail _ (.head _))) (fun y s' hc S => .tail (S0.ne hc.2.2.2.2 (.head _)) (.head hne)) dct_nil (st212_rows w) (Nat.le_of_ble_eq_true rfl) (fun _ => rfl) fun y s' s o hc S ho => ?_
  obtain ⟨D, oD⟩ := y
  obtain ⟨-, -, hD, lo, hDn⟩ := hc
  have hDc : ∀ p ∈ (cd, dictOf [] 0) :: (cx, instObj 212 cd) :: B, D ≠ p.1 := fun p hp => S0.ne hDn (o := p.2) hp
  refine r_attr C (Pu.ev (Pu.name C S rfl rfl rfl) S) rfl rfl (.tail _ (.tail _ (.head _))) (.tail (hDc _ (.head _)) (.head hne)) ho (st212_recovery w) (Nat.le_of_ble_eq_true rfl) (fun _ => rfl) fun _ _ s o _ S ho => ?_
  have S9 := S
  refine r_attrE (o := o) (gg := fun y o' => (y.1, y.2) :: (D, oD) :: (cd, o') :: (cx, instObj 212 cd) :: B) C (ev_dict0 C S) (fun y s' hc S => Pu.evT (Pu.name C S rfl rfl rfl) S) (fun y => .tail _ (.tail _ (.tail _ (.head _)))) (fun y s' hc S => .tail (S9.ne hc.2.2.2.2 (.tail _ (.head _))) (.tail (hDc _ (.head _)) (.head hne))) ho (st212_shut w) (Nat.le_of_ble_eq_true rfl) (fun _ => rfl) fun y s' s oc hc S ho => ?_
  obtain ⟨sd, so⟩ := y
  have hoc : Dct w oc (ctlL D 0 sd) := ho
  have nd0 : ND ((D, oD) :: (cd, oc) :: (cx, instObj 212 cd) :: B) := ND.cons (ND.cons (ND.cons hnd fun p hp => (Nat.ne_of_lt (Nat.lt_trans (hfar p hp) hxd)).symm) fun p hp => (hne p hp).symm) (List.forall_mem_cons.mpr ⟨hDc (cd, dictOf [] 0) (.head _), fun p hp => hDc p (.tail _ hp)⟩)
  have S := S.led (news' := (D, oD) :: (cd, oc) :: (cx, instObj 212 cd) :: B) fun _ h => .tail _ h
  have hcx : (cx, instObj 212 cd) ∈ (cd, oc) :: (cx, instObj 212 cd) :: B := .tail _ (.head _)
  have hcd : (cd, oc) ∈ (cd, oc) :: (cx, instObj 212 cd) :: B := .head _
  have hsub : ∀ p ∈ B, p ∈ (cd, oc) :: (cx, instObj 212 cd) :: B := fun _ h => .tail _ (.tail _ h)
  generalize (cd, oc) :: (cx, instObj 212 cd) :: B = base at nd0 hcx hcd hsub S
  refine r_for C pE (Pu.ev (Pu.name C S rfl rfl rfl) S) rfl (fun _ => rfl) fun _ v s hv _ S => ?_
  cases hv
  refine ⟨2, fun i => ([.ref e1.ad, .ref e2.ad] : List PV).getD i .none, [(rl, listOf #[.ref e1.ad, .ref e2.ad] rn)], fun i l nx => ∃ oD KT xs, nx = (D, oD) :: (KT ++ base) ∧ ND nx ∧ KD w oD KT xs ∧ (i = 0 ∧ xs = [] ∨ i = 1 ∧ ∃ T v, xs = [(mk k, T, v)]) ∧ l.lookup (Str.ofString "self") = some (.ref cx), itr_list C S ⟨_, S.mem (.tail _ (hsub _ hrlB)), rfl, _, rfl⟩ (.inr ⟨_, .head _⟩) (S.N _ (List.mem_cons_of_mem _ (hsub _ hrlB))).2.1 (pvs_at (ps := [.ref e1.ad, .ref e2.ad]) ⟨_, _, rfl, rfl, _, _, rfl, rfl, rfl⟩), ?_, ⟨oD, [], [], rfl, nd0, hD, .inl ⟨rfl, rfl⟩, rfl⟩, ?_, ?_⟩
  · rintro i l nx ⟨oD, KT, xs, rfl, _⟩ p hp
    rw [List.mem_singleton.mp hp]
    exact .tail _ (List.mem_append_right _ (hsub _ hrlB))
  · rintro I it i l nx s Q' hi ⟨oD, KT, xs, rfl, nd, K, hx, l1⟩ S off hT
    obtain ⟨e, r, he, hok, heB⟩ : ∃ e r, ([.ref e1.ad, .ref e2.ad] : List PV).getD i .none = .ref e.ad ∧ okC w k r e ∧ ∀ p ∈ e.led, p ∈ B := by
      rcases hx with ⟨rfl, _⟩ | ⟨rfl, _⟩
      · exact ⟨e1, r1, rfl, h1, he1B⟩
      · exact ⟨e2, r2, rfl, h2, he2B⟩
    simp only [he] at S
    obtain ⟨rx, bx, bd, ob, hex, ho, _⟩ := hok
    have had : e.ad = rx := by unfold En.ad; rw [hex]
    have hin : ∀ p ∈ e.led, p ∈ (I, it) :: (D, oD) :: (KT ++ base) := fun p hp => .tail _ (.tail _ (List.mem_append_right _ (hsub _ (heB p hp))))
    have i1 : (e.ad, instObj 162 e.d) ∈ (I, it) :: (D, oD) :: (KT ++ base) := hin _ (by unfold En.led; rw [hex, had]; exact .tail _ (.tail _ (.head _)))
    have i2 := hin _ (.head _)
    have c1 : (cx, instObj 212 cd) ∈ (I, it) :: (D, oD) :: (KT ++ base) := .tail _ (.tail _ (List.mem_append_right _ hcx))
    have c2 : (cd, oc) ∈ (I, it) :: (D, oD) :: (KT ++ base) := .tail _ (.tail _ (List.mem_append_right _ hcd))
    refine r_ifE (TEv.inT C S (K.td lo (.tail _ (.head _)) fun p hp => .tail _ (.tail _ (List.mem_append_left _ hp))) (by exact ⟨_, _, rfl, Pu.attr C S (Pu.name C S rfl rfl rfl) (S.inst i1 i2) ho rfl (at162_port w), rfl, _, _, rfl, Pu.attr C S (Pu.name C S rfl rfl rfl) (S.inst i1 i2) ho rfl (at162_kind w), rfl, rfl⟩) (fun s' S => Pu.attr C S (Pu.name C S l1 rfl rfl) (S.inst c1 c2) hoc rfl (at212_rows w)) rfl) (fun _ s q _ S => ?_) fun _ s q _ S => r_end ?_
    · exact r_raise C (Nat.le_refl _) S rfl Pu.str rfl fun e t v s' S' hx => hE e t v s s' _ (S.led fun _ h => nomatch h) hx S'.same
    rcases hx with ⟨rfl, rfl⟩ | ⟨rfl, T, v, rfl⟩
    · have nd1 := List.nodup_cons.mp nd
      refine r_setT C (by decide) S (Pu.name C S rfl rfl rfl) (fun tk => Pu.attr C (S.tok tk) (Pu.name C (S.tok tk) l1 rfl rfl) ((S.tok tk).inst c1 c2) hoc rfl (at212_rows w)) (fun tk => by exact ⟨_, _, rfl, Pu.attr C (S.tok tk) (Pu.name C (S.tok tk) rfl rfl rfl) ((S.tok tk).inst i1 i2) ho rfl (at162_port w), rfl, _, _, rfl, Pu.attr C (S.tok tk) (Pu.name C (S.tok tk) rfl rfl rfl) ((S.tok tk).inst i1 i2) ho rfl (at162_kind w), rfl, rfl⟩) K (gg := fun o' => (I, it) :: (D, o') :: (KT ++ base))
        (.tail (fun z => off _ (.head _) z.symm) (.head fun p hp z => nd1.1 (z ▸ List.mem_map_of_mem (f := (·.1)) hp))) (fun p hp => .tail _ (.tail _ (List.mem_append_left _ hp))) rfl (by decide) (fun _ => rfl) fun s oD' T t u hTn S K' => r_end (hT _ _ ⟨_, (D, oD') :: (((T, tupObj k.1 t k.2 u) :: KT) ++ base), S.led fun p hp => ?_, List.forall_mem_cons.mpr ⟨off (D, oD) (.head _), List.forall_mem_cons.mpr ⟨hTn _ (.head _), fun p hp => off p (.tail _ hp)⟩⟩, oD', _, _, rfl, ?_, K', .inr ⟨rfl, _, _, rfl⟩, l1⟩)
      · simp only [List.mem_cons, List.cons_append] at hp ⊢
        rcases hp with h | h | h | h
        · exact .inr (.inl h)
        · exact .inr (.inr (.inl h))
        · exact .inl h
        · exact .inr (.inr (.inr h))
      · exact ND.cons (ND.cons nd1.2 fun p hp => hTn p (.tail _ (.tail _ hp))) (List.forall_mem_cons.mpr ⟨(hTn _ (.tail _ (.head _))).symm, fun p hp z => nd1.1 (z ▸ List.mem_map_of_mem (f := (·.1)) hp)⟩)
    · unfold atKey at q
      simp at q
  · rintro l nx s ⟨oD, KT, xs, rfl, nd, K, hx, _⟩ S
    rcases hx with ⟨h, _⟩ | ⟨h, _⟩ <;> cases h

theorem Flies.frames {base g : Heap} {env : Env} {outer : List Env} {kp : Led} {e : Value} {s' : Shared} (h : Flies base env outer g kp e s') : ∃ ea, e = .ref ea := let ⟨ea, _, _, _, _, h, _⟩ := h; ⟨ea, h⟩
section
variable {w : World} {A : Around} {env : Env} {g base : Heap} {d d' : Nat} {sc : Scope} {s₀ s : Shared} {lm : Lm} {news kp : Led} {ps : List PV} {K fI : Addr} {vs : List Value} {outer : List Env} {Q E : Value → Shared → Prop}
theorem callE (Sp : ∀ x dx, @LT.lt Nat _ dx x → (∀ p ∈ news, p.1 < dx) → SpecE w d' fI (.ref x :: ps) ((x, instObj K dx) :: (dx, dictOf [] 0) :: news)) (C : Cx w A env g d sc) (hdd : d' + 1 ≤ d) (S : S1 g env s₀ s lm (news ++ kp)) (hkp : ∀ p ∈ kp, p.1 ∉ news.map (·.1)) (hm : makesIn (Mine.pre.heap_1 w.params) K = true) (hi : findIn (Mine.pre.heap_1 w.params) (.ref K) "__init__" = some (some (.ref fI))) (hf : isFn (Mine.pre.heap_1 w.params) (.ref fI) = true)
    (hctx : ∃ p loose mean mg mb A₀, Top p loose mean mg mb g ∧ Below A₀ base outer g) (hA : A.frames = some (env :: outer)) (hvs : PvsAre ps vs) (hR : ∀ e s', Flies base env outer g kp e s' → s'.gens = s₀.gens ∧ s'.drawn = s₀.drawn ∧ s'.os = s₀.os → E e s') : wpAny (model PR w) A (call (.ref K) vs) Q E s := by
  obtain ⟨⟨m, F, hlm⟩, N, same⟩ := id S
  refine call_cls F C.X N hm hi hf fun x dx h' F' N' hlt hxd => ?_
  refine Sp x dx hxd (fun p hp => hlt p (List.mem_append_left _ hp)) _ env g sc lm s₀ _ _ _ kp base outer (C.under hdd) ⟨⟨m, F', hlm⟩, N', same⟩ (fun p hp z => ?_) hctx (by unfold Around.under; rw [hA]; rfl) ⟨.ref x, vs, rfl, rfl, hvs⟩ hR
  have l1 := hlt p (List.mem_append_right _ hp)
  rcases List.mem_cons.mp z with z | z
  · exact Nat.ne_of_lt (Nat.lt_trans l1 hxd) z
  · rcases List.mem_cons.mp z with z | z
    · exact Nat.ne_of_lt l1 z
    · exact hkp p hp z
end
/-- a lambda whose body raises -/
noncomputable def LamE (w : World) (bd : PySem.Expr) (sc : Scope) : Prop :=
  ∀ A env g s Q E kp base outer, Cx w A env g 6 sc → S1 g env s s [] kp → (∃ p loose mean mg mb A₀, Top p loose mean mg mb g ∧ Below A₀ base outer g) → A.frames = some (env :: outer) →
    (∀ e s', Flies base env outer g kp e s' → s'.gens = s.gens ∧ s'.drawn = s.drawn ∧ s'.os = s.os → E e s') → wpAny (model PR w) A (eval bd env) Q E s
theorem lam1 {w : World} {sc : Scope} {a1 a2 a3 a4 : PySem.Expr} {xp pos : Pos} (hk : sc.names.lookup (Str.ofString "StormRow") = some .globalImplicit)
    (h : ∀ A env s, PuL w A env s [a1, a2, a3, a4] [.int 1, .str (Str.ofString "known"), .int 1, .int 1]) (hp : ∀ en, (backTo pos (starEach [a2, a3, a4] en)).any (·.1) = false) : LamE w (.Call (.Name (Str.ofString "StormRow") xp) [a1, a2, a3, a4] [] pos) sc := fun A env g s Q E kp base outer C S hctx hA hR => by
  refine Call_ (Pu.glob (p := .ref 162) C S (by k_is) rfl hk (by decide) _ _ s.toks fun u tk hu => ?_)
  cases hu
  refine callWith_K C.X (by k_is) ((h A env s).go (tk := tk) fun vs tk' hvs => ⟨C.X.keeps S.keep, ?_⟩) (h A env s).choose_spec.choose_spec.2.2.1 (hp _)
  exact callE (news := []) (fun x dx h _ => row_raises w x dx) C (Nat.le_refl _) (S.tok tk') (fun _ _ h => nomatch h) (by k_is) (by k_is) (by k_is) hctx hA hvs hR
theorem lam2 {w : World} {sc : Scope} {k : Key} (hkk : (kindsL.any (· == k.2)) = true) {a b : List PySem.Expr} {a0 b0 : PySem.Expr} {i j : Int} {xp x1 x2 p1 p2 lp pos : Pos} (hi : 1 ≤ i) (hj : 1 ≤ j) (hk : sc.names.lookup (Str.ofString "StormControl") = some .globalImplicit) (hk2 : sc.names.lookup (Str.ofString "StormRow") = some .globalImplicit)
    (ha : ∀ A env s, PuL w A env s (a0 :: a) [.int k.1, .str k.2, .int i, .int i]) (hb : ∀ A env s, PuL w A env s (b0 :: b) [.int k.1, .str k.2, .int j, .int j]) (hpa : ∀ en pos, (backTo pos (starEach a en)).any (·.1) = false) (hpb : ∀ en pos, (backTo pos (starEach b en)).any (·.1) = false) :
    LamE w (.Call (.Name (Str.ofString "StormControl") xp) [.List [.Call (.Name (Str.ofString "StormRow") x1) (a0 :: a) [] p1, .Call (.Name (Str.ofString "StormRow") x2) (b0 :: b) [] p2] lp] [] pos) sc := fun A env g s Q E kp base outer C S hctx hA hR => by
  refine Call_ (Pu.glob (p := .ref 212) C S (by k_is) rfl hk (by decide) _ _ s.toks fun u tk hu => ?_)
  cases hu
  have row : ∀ {all : Led} {s1 : Shared} {n : Int} {es : List PySem.Expr} {e0 : PySem.Expr} {xp pos : Pos}, 1 ≤ n → S1 g env s s1 [] all → PuL w A env s1 (e0 :: es) [.int k.1, .str k.2, .int n, .int n] → (∀ en, (backTo pos (starEach es en)).any (·.1) = false) → Ev w A env g s s1 [] (.Call (.Name (Str.ofString "StormRow") xp) (e0 :: es) [] pos) (fun y _ => Mk [] all (fun x _ (e : En) => okC w k (newR n n false none) e ∧ e.ad = x ∧ ND e.led) (fun _ _ e => e.led) y) (fun y => .ref y.1) (fun y => y.2.2.led ++ all) := fun hn S hp hpl =>
    ev_cls (fun x dx h _ => row_init w x dx h k hkk _ _ false none (by omega) hn _ [.bool false, .none] [.bool false, .none] (.inr ⟨rfl, rfl, rfl, rfl, rfl⟩)) C (by decide) S (by k_is) (by k_is) (by k_is) (by k_is) hk2 (by k_is) hp hpl _ (fun _ h => nomatch h) (fun _ h => h) (fun _ _ h => nomatch h)
  have Sb := S.tok tk
  refine callWith_K C.X (by k_is) (args_cons (List_ (args_cons (row hi Sb (ha _ _ _) (fun en => hpa en _) _ _ fun y1 v1 s1 hv1 hc1 Sx => args_cons (row hj Sx (hb _ _ _) (fun en => hpb en _) _ _ fun y2 v2 s2 hv2 hc2 S2 => args_nil ?_) rfl) rfl)) rfl) rfl rfl
  obtain ⟨x1, dx1, e1⟩ := y1
  obtain ⟨x2, dx2, e2⟩ := y2
  obtain ⟨⟨c11, c12, c13⟩, _, _, c14⟩ := hc1
  obtain ⟨⟨c21, c22, c23⟩, _, _, c24⟩ := hc2
  dsimp only at c11 c12 c13 c14 c21 c22 c23 c24 Sx S2
  have hv1 : v1 = .ref e1.ad := hv1.trans (congrArg Value.ref c12.symm)
  have hv2 : v2 = .ref e2.ad := hv2.trans (congrArg Value.ref c22.symm)
  subst hv1; subst hv2
  obtain ⟨⟨m, F, hm⟩, N, same⟩ := id S2
  refine newList_N F N (fun h' F' N' => args_nil ⟨C.X.keeps F'.keep, ?_⟩) (by rw [sizeLine_eq]; exact Nat.le_of_ble_eq_true rfl)
  have hl : ∀ p ∈ e2.led ++ (e1.led ++ kp), @Ne Nat s2.heap.objs.size p.1 := fun p hp => S2.ne (Heap.get?_none_of_le (Nat.le_refl _)) (o := p.2) hp
  have f1 : ∀ p ∈ e1.led, ∀ q ∈ kp, @Ne Nat q.1 p.1 := fun p hp => (c14 p hp).elim (fun h => nomatch h) id
  have f2 : ∀ p ∈ e2.led, ∀ q ∈ e1.led ++ kp, @Ne Nat q.1 p.1 := fun p hp => (c24 p hp).elim (fun h => nomatch h) id
  have hnd : ND (ctlB s2.heap.objs.size 0 e1 e2) := by
    refine ND.cons ?_ fun p hp => hl p ((List.mem_append.mp hp).elim (fun h => List.mem_append_right _ (List.mem_append_left _ h)) fun h => List.mem_append_left _ h)
    unfold ND at c13 c23 ⊢
    rw [List.map_append, List.nodup_append]
    refine ⟨c13, c23, fun a ha b hb => ?_⟩
    obtain ⟨p, hp, rfl⟩ := List.mem_map.mp ha
    obtain ⟨q, hq, rfl⟩ := List.mem_map.mp hb
    exact f2 q hq p (List.mem_append_left _ hp)
  have S3 : S1 g env s { s2 with heap := h' } [] (ctlB s2.heap.objs.size 0 e1 e2 ++ kp) := ⟨⟨m, F', hm⟩, cb_drop N' fun p hp => ?_, same⟩
  · refine callE (news := ctlB s2.heap.objs.size 0 e1 e2) (fun x dx h hfar => ctl_raises w x dx h _ 0 k e1 e2 _ _ c11 c21 hnd hfar) C (Nat.le_refl _) S3 (fun p hp z => ?_) (by k_is) (by k_is) (by k_is) hctx hA ⟨_, _, rfl, rfl, rfl⟩ hR
    rcases List.mem_cons.mp z with z | z
    · exact hl p (List.mem_append_right _ (List.mem_append_right _ hp)) z.symm
    · obtain ⟨q, hq, z⟩ := List.mem_map.mp z
      rcases List.mem_append.mp hq with hq | hq
      · exact f1 q hq p hp z.symm
      · exact f2 q hq p (List.mem_append_right _ hp) z.symm
  · simp only [ctlB, List.cons_append, List.mem_cons, List.mem_append] at hp ⊢
    rcases hp with h | (h | h) | h
    · exact .inl h
    · exact .inr (.inr (.inl h))
    · exact .inr (.inl h)
    · exact .inr (.inr (.inr h))

noncomputable abbrev tabMore (ps : Array Value) (pos : Pos) (c : Addr) : Array Value := ps ++ #[rawInt pos.line, rawInt pos.col, .ref c]
theorem ev_refused {w : World} {A : Around} {env : Env} {g : Heap} {d : Nat} {sc lsc : Scope} {s₀ s : Shared} {lm : Lm} {ps : Array Value} {params : Arguments} {bd : PySem.Expr} {lpos xp pos : Pos} {c : Addr} (C : Cx w A env g d sc) (hd : 9 ≤ d) (S : S1 g env s₀ s lm [(271, tabObj ps)]) (hB : ∃ A₀, Below A₀ g [] g) (hA : A.frames = some [env]) (hcode : CodeHd g c 271) (henv : ∃ cn L a, env = envX cn sc L a (.ref c) []) (ht : TriplesOk ps.toList) (hn : codeAmong lpos ps.toList = none) (hk : sc.names.lookup (Str.ofString "_law_refused") = some .globalImplicit)
    (H : LamE w bd lsc) (hbd : ∀ qual cl pm cdv ctv, bindArgs (kla_fn (Str.ofString "<lambda>") qual params bd lsc cl pm cdv ctv) ⟨[], []⟩ = pure []) (hdef : ∀ en, defaultsOf params en = ([], [])) (hcl : ∀ en, closureFor lsc en = pure []) (hco : lsc.isCoroutine = false) (hgen : lsc.isGenerator = false) (hlk : lsc.kind = .function) (hcell : ∀ x ∈ lsc.names, x.2 ≠ .cell) :
    Ev w A env g s₀ s lm (.Call (.Name (Str.ofString "_law_refused") xp) [.Lambda params bd lsc lpos] [] pos) (fun (_ : Addr) _ => True) (fun _ => .bool true) (fun c' => [(271, tabObj (tabMore ps lpos c'))]) := fun Q E k => by
  refine Call_ (Pu.glob (p := .ref 264) C S (by k_is) rfl hk (by decide) _ _ s.toks fun u tk hu => ?_)
  cases hu
  obtain ⟨⟨m, F, hm⟩, N, same⟩ := id (S.tok tk)
  obtain ⟨A₀, B⟩ := hB
  obtain ⟨p, loose, mean, mg, mb, T⟩ : ∃ p loose mean mg mb, Top p loose mean mg mb g := by
    obtain ⟨p, loose, mean, mg, mb, _, _, _, T, _⟩ := C.ctx; exact ⟨p, loose, mean, mg, mb, T⟩
  have hroom := room_0 C.dep
  have hdep := C.dep
  have hun := C.un
  have hX := C.X
  have hand := C.hand
  have hckind := C.kind
  obtain ⟨cn, L, a, rfl⟩ := henv
  refine callWith_K C.X (by k_is) (args_cons (kla_eval (hdef _) (kla_nest (s := { s with toks := tk }) F N T hcode rfl (.head fun _ h => nomatch h) ht hn (hcl _) fun f c' oc vs t ctv h' tk' F' N' hd' hv l1 l2 => args_nil ⟨C.X.keeps F'.keep, ?_⟩)) rfl) rfl rfl
  refine wpAny_call (code_defS0 (f := 264) B F' C.X N' T hA rfl (by k_is) hroom (BindsTo.of_eq rfl) (locs rfl) (fun g1 L1 h1 FG F1 N1 B1 X1 T1 D1 => ?_) hckind rfl rfl rfl (by decide))
  refine wpAny_execs_cons (wpAny_Try_except (wpAny_execs_cons (wpAny_Expr_any (Call_ (nameX_L F1 rfl (callWith_F0 (FnAt.of N1 (.head _)) (wpAny_call (kla_code B1 F1 X1 N1 T1 (Around.frames_deeper hA) rfl rfl (.head _) (codeRec_news N1 (.tail _ (.head _)) hd' hv) ?_ (hbd _ _ _ _ _) (fun _ h => nomatch h) (fun g2 L2 h2 FG2 F2 N2 B2 X2 T2 => ?_) hco hgen hlk hcell))))) rfl rfl)))
  · show A.depth + 1 < _
    omega
  refine H _ _ g2 _ _ _ _ g _ ⟨⟨_, L2, f, _, _, rfl⟩, hlk, hand, X2, ⟨p, loose, mean, mg, mb, _, _, g, T2, B2, Around.frames_deeper (Around.frames_deeper hA)⟩, ?_, ?_⟩ ⟨⟨_, F2, fun _ _ h => nomatch h⟩, N2, rfl, rfl, rfl⟩ ⟨p, loose, mean, mg, mb, _, T2, B2⟩ (Around.frames_deeper (Around.frames_deeper hA)) fun e s' hf hs => ?_
  · show A.depth + 1 + 1 + 6 < _
    omega
  · show A.units + 3 + 3 + 8 * 6 < _
    omega
  obtain ⟨ea, t', v', g3, m3, rfl, F3, R3, U3, kp3⟩ := hf
  refine leave_onV (nx := [(271, tabObj (tabMore ps lpos c'))]) B2 F3 (List.forall_mem_cons.mpr ⟨⟨kp3 _ (.tail _ (.tail _ (.head _))), (N2 _ (.tail _ (.tail _ (.head _)))).2.1, (N2 _ (.tail _ (.tail _ (.head _)))).2.2⟩, fun _ h => nomatch h⟩) R3 U3 fun h4 R4 U4 => ?_
  refine caught_SO0 (s' := { s' with heap := h4 }) R4 FG2 B1 U4 C.X T D1 KtsTurn.refl (by k_is) (by kts_isx) (fun h5 g5 news₂ T5 F5 _ _ N5 _ _ _ _ => ?_)
  refine wpAny_execs_cons (wpAny_Return_some (Pu.bool (w := w) (s := { s' with heap := h5 }) _ _ s'.toks fun v tk5 hv5 => ?_))
  refine leaveS0_ F5 N5 T5 fun kF kN => k c' v _ hv5 trivial ⟨⟨m, kF, hm⟩, kN, ?_⟩
  exact ⟨hs.1.trans same.1, hs.2.1.trans same.2.1, hs.2.2.trans same.2.2⟩

noncomputable abbrev rngObj (n : Int) (t u v : Tok) : Obj := { cls := .type "range", data := .fields #[.int 0 t, .int n u, .int 1 v] }
section
variable {w : World} {A : Around} {env : Env} {g : Heap} {d : Nat} {sc : Scope} {s₀ s : Shared} {lm l : Lm} {news : Led} {x : Str} {xpos pos tp tp2 ppos : Pos} {p q : PV} {a b c e t : PySem.Expr} {i j : Int} {k : Nat} {α β : Type} {Q : Flow → Shared → Prop} {E : Value → Shared → Prop} {rest body orelse : List Stmt} {D ra : Addr} {o : Obj}
theorem Ev.re {C : α → Shared → Prop} {P : α → PV} {fn : α → Led} {C' : β → Shared → Prop} {P' : β → PV} {fn' : β → Led} (h : Ev w A env g s₀ s lm e C P fn) (f : ∀ y s', C y s' → ∃ z, C' z s' ∧ P' z = P y ∧ fn' z = fn y) : Ev w A env g s₀ s lm e C' P' fn' := fun Q E k => h Q E fun y v s' hv hc S => by
  obtain ⟨z, h1, h2, h3⟩ := f y s' hc
  exact k z v s' (h2 ▸ hv) h1 (h3 ▸ S)
theorem ev_addE {C : α → Shared → Prop} {P : α → Int} {fn : α → Led} (ha : Pu w A env s a (.int i)) (hE : ∀ tk, Ev w A env g s₀ { s with toks := tk } lm b C (fun y => .int (P y)) fn) : Ev w A env g s₀ s lm (.BinOp a .Add b pos) (Was C) (fun y => .int (i + P y)) fn := fun Q E k =>
  wpAny_BinOp (ha _ _ s.toks fun v tk1 hv => hE tk1 _ _ fun y u s2 hu hc S2 => by
    obtain ⟨_, rfl⟩ := hv; obtain ⟨_, rfl⟩ := hu
    exact add_int (k y _ _ ⟨_, rfl⟩ ⟨_, hc⟩ (S2.tok _)))
theorem ev_range {C : α → Shared → Prop} {P : α → Int} {fn : α → Led} (Cc : Cx w A env g d sc) (S : S1 g env s₀ s lm news) (hg : nsIn (Mine.pre.heap_1 w.params) mainGlobals (Str.ofString "range") = some (Option.none : Option Value)) (hk : sc.names.lookup (Str.ofString "range") = some .globalImplicit) (hE : Ev w A env g s₀ s lm a C (fun y => .int (P y)) fn) (h1 : starEach [a] env = (false, eval a env) :: starEach [] env) :
    Ev w A env g s₀ s lm (.Call (.Name (Str.ofString "range") xpos) [a] [] pos) (fun (z : α × Addr × Tok × Tok × Tok) _ => (∃ s', C z.1 s') ∧ ∀ p ∈ fn z.1, @Ne Nat z.2.1 p.1) (fun z => .ref z.2.1) (fun z => (z.2.1, rngObj (P z.1) z.2.2.1 z.2.2.2.1 z.2.2.2.2) :: fn z.1) := fun Q E k => by
  obtain ⟨⟨m, F, hm⟩, N, same⟩ := S
  obtain ⟨cn, L, a', ccd, cl, rfl⟩ := Cc.eX
  obtain ⟨pp, loose, mean, mg, mb, outer, A₀, base, T, _⟩ := Cc.ctx
  refine Call_ (nameX_B F Cc.X (topRead_of T) hg PyProof.Rows.Boot.«range» (by decide) ?_ Cc.kind hk (by decide))
  refine PyProof.Rows.callWith_type1 (args_cons (hE _ _ fun y v s2 hv hc S2 => args_nil ?_) h1) h1 rfl
  obtain ⟨t, rfl⟩ := hv
  obtain ⟨⟨m2, F2, hm2⟩, N2, same2⟩ := id S2
  exact call_range_1 (k (y, _, _, _, _) _ _ rfl ⟨⟨_, hc⟩, fun p hp => S2.ne (Heap.get?_none_of_le (Nat.le_refl _)) (o := p.2) hp⟩ ⟨⟨m2, F2.push _, hm2⟩, N2.push F2 _, same2⟩)
theorem itr_range {r : Addr} {t u v : Tok} {N : Nat} (C : Cx w A env g d sc) (S : S1 g env s₀ s lm news) (hr : s.heap.get? r = some (rngObj N t u v)) (hN : N ≤ 1000) : Itr w A g env.locals s (.ref r) N (fun i => .int i) [] := fun Q E k => by
  obtain ⟨⟨m, F, _⟩, N', _⟩ := S
  refine wpAny_pyIter_range hr (small_one (by decide) (by decide) (by omega) (by omega)) ?_
  have W := Walks.range (prog := PR) (w := w) C.hand s.heap.objs.size 0 1 N
  refine k _ _ _ _ _ W (.head _) (fun b hb => .inl (List.mem_singleton.mp hb)) (fun i h st => ⟨_, st⟩) (fun hm => absurd F.ns.lt ((List.mem_singleton.mp hm) ▸ Nat.lt_irrefl _)) (fun i v _ h => ?_) (next_is_new F) (Heap.get?_none_of_le (Nat.le_refl _)) ?_ (fun m F => F.push _) (fun b o e => Heap.get?_push_of_some _ e)
  · obtain ⟨t, rfl⟩ := h
    exact ⟨t, by simp⟩
  · show IsRangeIter _ _ _ _ _
    rw [rangeSize_nat]
    simpa using Heap.get?_push_size _ rfl
theorem TEv.eqE {C : α → Shared → Prop} {P : α → Int} {fn : α → Led} (hE : Ev w A env g s₀ s lm a C (fun y => .int (P y)) fn) (hb : ∀ y s', C y s' → S1 g env s₀ s' lm (fn y) → Pu w A env s' b (.int j)) (hm : behindInMarks .Eq b = false) : TEv w A env g s₀ s lm (.Compare a [.Eq] [b] pos) (Was C) (fun y => P y == j) fn := fun Q E k =>
  wpAny_isTrue_Compare1 (hE _ _ fun y v s' hv hc S => hb y s' hc S _ _ s'.toks fun u tk hu => by
    obtain ⟨t, rfl⟩ := hv; obtain ⟨t', rfl⟩ := hu
    exact eq_int (wpAny_truthy_bool (k y _ ⟨s', hc⟩ (S.tok _)))) hm
/-- two calls, one behind the other -/
noncomputable def Two {C1 : α → Shared → Prop} {f1 : α → Led} {C2 : α → Shared → β → Shared → Prop} (g : Heap) (env : Env) (s₀ : Shared) (lm : Lm) (_ : f1 = f1) (z : α × β) : Prop := ∃ s', C1 z.1 s' ∧ S1 g env s₀ s' lm (f1 z.1) ∧ ∃ s'', C2 z.1 s' z.2 s''
theorem TEv.neS {C1 : α → Shared → Prop} {f1 : α → Led} {C2 : α → Shared → β → Shared → Prop} {f2 : α → β → Led} (h1 : Ev w A env g s₀ s lm a C1 (fun _ => .str x) f1) (h2 : ∀ y s', C1 y s' → S1 g env s₀ s' lm (f1 y) → Ev w A env g s₀ s' lm b (C2 y s') (fun _ => .str x) (f2 y)) (hm : behindInMarks .NotEq b = false) :
    TEv w A env g s₀ s lm (.Compare a [.NotEq] [b] pos) (fun (z : α × β) _ => Two (C1 := C1) (C2 := C2) g env s₀ lm (Eq.refl f1) z) (fun _ => false) (fun z => f2 z.1 z.2) := fun Q E k =>
  wpAny_isTrue_Compare1 (h1 _ _ fun y v s1 hv hc S => h2 y s1 hc S _ _ fun z u s2 hu hc2 S2 => by
    obtain ⟨t, rfl⟩ := hv; obtain ⟨t', rfl⟩ := hu
    exact PyProof.Rows.ne_str (wpAny_truthy_bool (by simpa using k (y, z) _ ⟨s1, hc, S, s2, hc2⟩ S2))) hm
theorem TEv.neI {C1 : α → Shared → Prop} {f1 : α → Led} {C2 : α → Shared → β → Shared → Prop} {f2 : α → β → Led} (h1 : Ev w A env g s₀ s lm a C1 (fun _ => .int i) f1) (h2 : ∀ y s', C1 y s' → S1 g env s₀ s' lm (f1 y) → Ev w A env g s₀ s' lm b (C2 y s') (fun _ => .int i) (f2 y)) (hm : behindInMarks .NotEq b = false) :
    TEv w A env g s₀ s lm (.Compare a [.NotEq] [b] pos) (fun (z : α × β) _ => Two (C1 := C1) (C2 := C2) g env s₀ lm (Eq.refl f1) z) (fun _ => false) (fun z => f2 z.1 z.2) := fun Q E k =>
  wpAny_isTrue_Compare1 (h1 _ _ fun y v s1 hv hc S => h2 y s1 hc S _ _ fun z u s2 hu hc2 S2 => by
    obtain ⟨t, rfl⟩ := hv; obtain ⟨t', rfl⟩ := hu
    exact ne_int (wpAny_truthy_bool (by simpa using k (y, z) _ ⟨s1, hc, S, s2, hc2⟩ S2))) hm
theorem TEv.orE {C1 : α → Shared → Prop} {f1 : α → Led} {C2 : α → β → Shared → Prop} {f2 : α → β → Led} (h1 : TEv w A env g s₀ s lm a C1 (fun _ => false) f1) (h2 : ∀ y s', C1 y s' → S1 g env s₀ s' lm (f1 y) → TEv w A env g s₀ s' lm b (C2 y) (fun _ => false) (f2 y)) :
    TEv w A env g s₀ s lm (.BoolOp .Or [a, b] pos) (fun (z : α × β) s' => C2 z.1 z.2 s') (fun _ => false) (fun z => f2 z.1 z.2) := fun Q E k =>
  isTrue_or (h1 _ _ fun y s1 hc S => isTrue_or (h2 y s1 hc S _ _ fun z s2 hc2 S2 => isTrue_or_nil (k (y, z) s2 hc2 S2)))
theorem r_ifJE {C : α → Shared → Prop} {tt : α → Bool} {fn : α → Led} (J : Shared → Prop) (hT : TEv w A env g s₀ s lm e C tt fn) (k1 : ∀ y s' Q', tt y = true → C y s' → S1 g env s₀ s' lm (fn y) → (∀ s', J s' → Q' .next s') → wpAny (model PR w) A (execs body env) Q' E s')
    (k2 : ∀ y s' Q', tt y = false → C y s' → S1 g env s₀ s' lm (fn y) → (∀ s', J s' → Q' .next s') → wpAny (model PR w) A (execs orelse env) Q' E s') (k : ∀ s', J s' → wpAny (model PR w) A (execs rest env) Q E s') : wpAny (model PR w) A (execs (.If e body orelse pos :: rest) env) Q E s :=
  r_ifE hT (fun y s' q c S => k1 y s' (Then w A env rest Q E) q c S k) fun y s' q c S => k2 y s' (Then w A env rest Q E) q c S k
theorem ev_ifx {Ct : α → Shared → Prop} {tt : α → Bool} {fT : α → Led} {C : β → Shared → Prop} {P : β → PV} {fn : β → Led} (hT : TEv w A env g s₀ s lm t Ct tt fT) (h1 : ∀ y s', tt y = true → Ct y s' → S1 g env s₀ s' lm (fT y) → Ev w A env g s₀ s' lm a C P fn) (h2 : ∀ y s', tt y = false → Ct y s' → S1 g env s₀ s' lm (fT y) → Ev w A env g s₀ s' lm b C P fn) : Ev w A env g s₀ s lm (.IfExp t a b pos) C P fn := fun Q E k =>
  IfExp_ (hT _ _ fun y s' hc S => by
    cases h : tt y with
    | true => exact h1 y s' h hc S Q E k
    | false => exact h2 y s' h hc S Q E k)
theorem ev_fld {C : α → Shared → Prop} (hE : Ev w A env g s₀ s lm c C (fun _ => .ref D) (fun _ => news)) (hm : (D, o) ∈ news) (hD : Dct w o l) (hl : l.lookup x = some p) (hs : ∀ kv, subscripted (.Constant (.str x) k ppos) false (.ref D) kv = operate [.ref D, kv] (getItem (.ref D) kv)) :
    Ev w A env g s₀ s lm (.Subscript c (.Constant (.str x) k ppos) pos) (fun (_ : Unit) _ => True) (fun _ => p) (fun _ => news) := fun Q E k' =>
  Subscript_ (hE _ _ fun y u s' hu _ S => Pu.str (w := w) (A := A) (env := env) (s := s') (x := x) _ _ s'.toks fun v tk2 hv => by
    cases hu
    obtain ⟨kvs, h1, h2⟩ := hD
    obtain ⟨z, f, hy⟩ := h2.find hl
    have hD := kda_dict (s := { s' with toks := tk2 }) S.N hm h1
    exact tail_any hD.typeIs slot_dict_getitem.lookup (wpAny_getItem_of (s := { s' with toks := tk2 }) (str_key v hv) hD.mapOf (by unfold valueAt; rw [f]; rfl) (k' () z _ hy trivial (S.tok _))) (hs v))
theorem a_setT {v : Value} {KT : Led} {xs : TXs} {gg : Obj → Led} {Q : Unit → Shared → Prop} (C : Cx w A env g d sc) (h1 : 1 ≤ d) (S : S1 g env s₀ s lm news) (hv : v = .ref ra) (hc : Pu w A env s c (.ref D)) (ha : ∀ tk, PuL w A env { s with toks := tk } [a, b] [.int i, .str x]) (K : KD w o KT xs) (U : UpdF D o news gg) (hk : ∀ p ∈ KT, p ∈ news) (hn : atKey xs (mk (i, x)) = none) (hz : xs.length ≤ 100)
    (k' : ∀ s' o' T t u, (∀ p ∈ news, @Ne Nat T p.1) → S1 g env s₀ s' lm ((T, tupObj i t x u) :: gg o') → KD w o' ((T, tupObj i t x u) :: KT) (xs ++ [(mk (i, x), T, .ref ra)]) → Q () s') : wpAny (model PR w) A (assign (.Subscript c (.Tuple [a, b] k tp) tp2) env v) Q E s := by
  subst hv
  rw [assign_Subscript]
  refine wpAny_bind (wpAny_holding (hc _ _ s.toks fun u tk hu => ?_))
  cases hu
  refine wpAny_bind (wpAny_holding (ev_key (s := { s with toks := tk }) (S.tok tk) (ha tk) _ _ fun y v2 s' hv2 hn' S' => wpAny_bind (wpAny_standAt (wpAny_bind (wpAny_holding ?_)))))
  cases hv2
  have fr : ∀ p ∈ news, @Ne Nat y.1 p.1 := fun p hp => (S.tok tk).ne hn' (o := p.2) hp
  have hD : (D, o) ∈ news := by obtain ⟨pre, post, e, _⟩ := U.split; rw [e]; simp
  exact set_T C h1 S' K (.tail (fr _ hD) U) hk hn hz fun s'' o' S'' K' => wpAny_release (k' s'' o' y.1 y.2.1 y.2.2 fr S'' K')
end

section
variable {w : World} {A : Around} {env : Env} {g : Heap} {d : Nat} {sc : Scope} {s₀ s : Shared} {lm : Lm} {x1 x2 x3 : Str} {q1 q2 q3 pos tp vp : Pos} {a b c : PySem.Expr} {k kv : Nat} {Q : Flow → Shared → Prop} {E : Value → Shared → Prop} {rest : List Stmt}
theorem r_names3 {α β γ : Type} {C1 : α → Shared → Prop} {P1 : α → PV} {f1 : α → Led} {C2 : α → Shared → β → Shared → Prop} {P2 : α → β → PV} {f2 : α → β → Led} {C3 : α → β → Shared → γ → Shared → Prop} {P3 : α → β → γ → PV} {f3 : α → β → γ → Led} (C : Cx w A env g d sc) (h1 : Ev w A env g s₀ s lm a C1 P1 f1) (h2 : ∀ y s', C1 y s' → S1 g env s₀ s' lm (f1 y) → Ev w A env g s₀ s' lm b (C2 y s') (P2 y) (f2 y)) (h3 : ∀ y z s', S1 g env s₀ s' lm (f2 y z) → Ev w A env g s₀ s' lm c (C3 y z s') (P3 y z) (f3 y z))
    (e1 : sc.names.lookup x1 = some .local) (e2 : sc.names.lookup x2 = some .local) (e3 : sc.names.lookup x3 = some .local) (hs : ∀ cn L a' ccd cl, swapsWithSole [.Tuple [.Name x1 q1, .Name x2 q2, .Name x3 q3] k tp] (.Tuple [a, b, c] kv vp) pos.line (envX cn sc L a' ccd cl) = pure false) (hw : ∀ cn L a' ccd cl, swappedStores [.Tuple [.Name x1 q1, .Name x2 q2, .Name x3 q3] k tp] (.Tuple [a, b, c] kv vp) (envX cn sc L a' ccd cl) = pure (some [x1, x2, x3]))
    (hp1 : starEach [a, b, c] env = (false, eval a env) :: starEach [b, c] env) (hp2 : starEach [b, c] env = (false, eval b env) :: starEach [c] env) (hp3 : starEach [c] env = (false, eval c env) :: starEach [] env)
    (k' : ∀ y z u s', (∃ s1 s2 s3, C1 y s1 ∧ S1 g env s₀ s1 lm (f1 y) ∧ C2 y s1 z s2 ∧ S1 g env s₀ s2 lm (f2 y z) ∧ C3 y z s2 u s3) → S1 g env s₀ s' ((x1, P1 y) :: (x2, P2 y z) :: (x3, P3 y z u) :: lm) (f3 y z u) → wpAny (model PR w) A (execs rest env) Q E s') :
    wpAny (model PR w) A (execs (.Assign [.Tuple [.Name x1 q1, .Name x2 q2, .Name x3 q3] k tp] (.Tuple [a, b, c] kv vp) pos :: rest) env) Q E s := by
  have hs : swapsWithSole [.Tuple [.Name x1 q1, .Name x2 q2, .Name x3 q3] k tp] (.Tuple [a, b, c] kv vp) pos.line env = pure false := by obtain ⟨_, _, _, _, _, rfl⟩ := C.eX; exact hs ..
  have hw : swappedStores [.Tuple [.Name x1 q1, .Name x2 q2, .Name x3 q3] k tp] (.Tuple [a, b, c] kv vp) env = pure (some [x1, x2, x3]) := by obtain ⟨_, _, _, _, _, rfl⟩ := C.eX; exact hw ..
  refine wpAny_execs_cons (Assign_Tuple_swapped (Tuple_ (args_cons (h1 _ _ fun y v t1 hv hc1 S1' => args_cons (h2 y t1 hc1 S1' _ _ fun z u t2 hu hc2 S2 => args_cons (h3 y z t2 S2 _ _ fun r x t3 hx hc3 S3 => args_nil ?_) hp3) hp2) hp1)) hs hw)
  obtain ⟨⟨m, F, hm⟩, N, same⟩ := S3
  refine newTuple_N F N (fun h' F' N' => ?_) (by rw [sizeLine_eq]; exact Nat.le_of_ble_eq_true rfl)
  refine unpackItemsN_ F' N' ⟨_, (N' _ (.head _)).1, rfl, _, rfl⟩ C.hand rfl fun h2 F2 N2 => ?_
  refine assignInOrder_cons (bindName_ (a_name C ⟨⟨m, F2, hm⟩, cb_drop N2 fun p hp => .tail _ hp, same⟩ hx e3 fun s3 S3 => assignInOrder_cons (bindName_ (a_name C S3 hu e2 fun s4 S4 => assignInOrder_cons (bindName_ (a_name C S4 hv e1 fun s5 S5 => assignInOrder_nil (k' y z r s5 ⟨_, _, _, hc1, S1', hc2, S2, hc3⟩ S5)))))))
end

theorem GoodR.later {n n' : Nat} {now now' : Int} {r : Rw} (h : GoodR n now r) (hn : n ≤ n') (ht : now ≤ now') : GoodR n' now' r :=
  ⟨h.r0, h.r1, Int.le_trans h.t ht, h.g, fun q m hm => h.l q m (Int.le_trans ht hm), Nat.le_trans h.nc hn, Nat.le_trans h.no hn⟩
theorem Good.later {n n' : Nat} {now now' : Int} {ρ : Rho} (h : Good n now ρ) (hn : n ≤ n') (ht : now ≤ now') : Good n' now' ρ := fun k r hr => (h k r hr).later hn ht
theorem Good.set {n : Nat} {now : Int} {ρ : Rho} {k : Key} {r : Rw} (h : Good n now ρ) (hr : GoodR n now r) : Good n now (setR ρ k r) := fun k' r' e => by
  unfold setR at e
  by_cases z : k' = k
  · rw [if_pos z] at e; cases e; exact hr
  · rw [if_neg z] at e; exact h k' r' e
theorem fill_le {r : Rw} {n : Nat} {now : Int} (G : GoodR n now r) : fillG r.rate r.burst r.grains r.time now ≤ 100 * r.burst := by
  have := G.g
  unfold fillG
  split
  · exact this
  · split <;> omega
theorem take_le {r : Rw} {n : Nat} {now size : Int} (G : GoodR n now r) (hs : 0 ≤ size) : takeG (costF r.fr size) (fillG r.rate r.burst r.grains r.time now) ≤ 100 * r.burst := by
  have h1 := fill_le G
  have h2 : 0 ≤ costF r.fr size := by unfold costF; split <;> omega
  unfold takeG
  split <;> omega
theorem GoodR.let {r : Rw} {n : Nat} {now size : Int} (G : GoodR n now r) (hs : 0 ≤ size) : GoodR (n + 1) now (rowLet r size now) :=
  ⟨G.r0, G.r1, Int.le_refl _, take_le G hs, G.l, Nat.le_succ_of_le G.nc, Nat.le_succ_of_le G.no⟩
theorem last_last {now m : Int} (h : now ≤ m) (ns : List Int) : lastOf m (lastOf now ns) = lastOf m ns := by
  unfold lastOf
  rw [List.filter_filter]
  exact List.filter_congr fun k _ => by
    by_cases q : m - k < 100
    · have q2 : now - k < 100 := by omega
      simp [q, q2]
    · simp [q]
theorem GoodR.drop {r : Rw} {n : Nat} {now size : Int} (G : GoodR n now r) (hs : 0 ≤ size) : GoodR (n + 1) now (rowDrop r size now) := by
  refine ⟨G.r0, G.r1, Int.le_refl _, take_le G hs, fun q m hm => ?_, ?_, ?_⟩
  · show lastOf m (timesF r.mo now r.tc) = lastOf m (r.to ++ [now])
    have q : r.mo ≠ none := q
    cases e : r.mo with
    | none => exact absurd e q
    | some i =>
      show lastOf m (lastOf now r.tc ++ [now]) = _
      have a : ∀ x : List Int, lastOf m (x ++ [now]) = lastOf m x ++ lastOf m [now] := fun x => List.filter_append ..
      rw [a, a, last_last hm, G.l q m hm]
  · show (timesF r.mo now r.tc).length ≤ _
    have := G.nc
    cases r.mo with
    | none => exact Nat.le_succ_of_le this
    | some i =>
      show (lastOf now r.tc ++ [now]).length ≤ _
      have h2 : (lastOf now r.tc).length ≤ r.tc.length := List.length_filter_le _ _
      rw [List.length_append]
      simp only [List.length_cons, List.length_nil]
      omega
  · show (r.to ++ [now]).length ≤ _
    have := G.no
    rw [List.length_append]
    simp only [List.length_cons, List.length_nil]
    omega
theorem Good.ask {ρ ρ2 : Rho} {σ σ2 : Sig} {rec : Int} {k : Key} {n : Nat} {now size : Int} {v : Str} (h : Good n now ρ) (hs : 0 ≤ size) (e : askA ρ σ rec k size now = (ρ2, σ2, v)) : Good (n + 1) now ρ2 ∧ σ2.length ≤ σ.length + 1 := by
  have h := h.exp σ rec k.1
  have hz := expS_len σ rec k.1 now
  unfold askA at e
  generalize expR ρ σ rec k.1 now = ρ at h e
  generalize expS σ rec k.1 now = σ1 at hz e
  have h' := h.later (Nat.le_succ n) (Int.le_refl now)
  cases q : (σ1.lookup k.1).isSome with
  | true => rw [askK_shut q] at e; cases e; exact ⟨h', Nat.le_succ_of_le hz⟩
  | false =>
    cases hr : ρ k with
    | none => rw [askK_no q hr] at e; cases e; exact ⟨h', Nat.le_succ_of_le hz⟩
    | some r =>
      cases q2 : letB r size now with
      | true => rw [askK_let q hr q2] at e; cases e; exact ⟨h'.set ((h k r hr).let hs), Nat.le_succ_of_le hz⟩
      | false =>
        have hd := h'.set (k := k) ((h k r hr).drop hs)
        cases q3 : overR r now with
        | true => rw [askK_over q hr q2 q3] at e; cases e; exact ⟨hd, Nat.le_trans (putS_len ..) (Nat.succ_le_succ hz)⟩
        | false => rw [askK_drop q hr q2 q3] at e; cases e; exact ⟨hd, Nat.le_succ_of_le hz⟩
theorem lookup_nil_of {k : Key} {es : Es} (h : k ∉ es.map (·.1)) : es.lookup k = none := by
  induction es with
  | nil => rfl
  | cons q r ih =>
    rw [List.map_cons, List.mem_cons, not_or] at h
    rw [List.lookup_cons, beq_eq_false_iff_ne.mpr h.1]; exact ih h.2
theorem Rel.add {ok : Key → Rw → En → Prop} {ρ : Rho} {es : Es} {k : Key} {e : En} {r : Rw} (h : Rel ok ρ es) (hk : k ∉ es.map (·.1)) (h' : ok k r e) : Rel ok (setR ρ k r) (es ++ [(k, e)]) := fun k' => by
  have hl := lookup_nil_of hk
  have := h k'
  rw [List.lookup_append]
  unfold setR
  by_cases z : k' = k
  · subst z
    rw [hl, if_pos rfl, List.lookup_cons, beq_self_eq_true]
    exact ⟨r, rfl, h'⟩
  · rw [if_neg z, List.lookup_cons, beq_eq_false_iff_ne.mpr z]
    cases q : es.lookup k' with
    | none => rw [q] at this; exact this
    | some e' => rw [q] at this; exact this
theorem atKey_none {xs : TXs} {es : Es} {k : Key} (h : keysX xs = keysE es) (hk : k ∉ es.map (·.1)) : atKey xs (mk k) = none := by
  unfold atKey
  rw [Option.map_eq_none_iff, List.find?_eq_none]
  intro x hx q
  have q := of_decide_eq_true q
  have h1 : (x.1, x.2.2) ∈ keysE es := h ▸ List.mem_map_of_mem (f := fun x : List Mix × Addr × Value => (x.1, x.2.2)) hx
  obtain ⟨y, hy, e1⟩ := List.mem_map.mp h1
  exact hk (List.mem_map.mpr ⟨y, hy, mk_inj ((congrArg Prod.fst e1).trans q)⟩)
noncomputable abbrev portsL : List Int := [1, 2]
noncomputable abbrev allK : List Key := [(1, Str.ofString "broadcast"), (1, Str.ofString "group"), (1, Str.ofString "unknown"), (2, Str.ofString "broadcast"), (2, Str.ofString "group"), (2, Str.ofString "unknown")]
theorem allK_get : ∀ {i j : Nat}, i < 2 → j < 3 → allK[3 * i + j]? = some (portsL.getD i 0, kdAt j)
  | 0, 0, _, _ | 0, 1, _, _ | 0, 2, _, _ | 1, 0, _, _ | 1, 1, _, _ | 1, 2, _, _ => rfl
  | n + 2, _, h, _ => absurd h (by omega)
  | 0, n + 3, _, h | 1, n + 3, _, h => absurd h (by omega)
theorem allK_nd : allK.Nodup := by decide
theorem key_new {ks : List Key} {n : Nat} {k : Key} (hs : ks.Sublist (allK.take n)) (hk : allK[n]? = some k) : k ∉ ks := fun hm => by
  obtain ⟨j, hj, e⟩ := List.mem_iff_getElem.mp (hs.subset hm)
  rw [List.getElem_take] at e
  rw [List.length_take] at hj
  have h2 := List.getElem?_eq_some_iff.mp hk
  have : j = n := (List.getElem_inj (h₀ := by omega) (h₁ := h2.1) allK_nd).mp (e.trans h2.2.symm)
  omega
theorem sub_add {es : Es} {n : Nat} {k : Key} {e : En} (hs : (es.map (·.1)).Sublist (allK.take n)) (hk : allK[n]? = some k) : ((es ++ [(k, e)]).map (·.1)).Sublist (allK.take (n + 1)) := by
  rw [List.map_append, List.take_add_one, hk]
  exact hs.append (List.Sublist.refl _)
theorem sub_skip {ks : List Key} {n : Nat} (hs : ks.Sublist (allK.take n)) : ks.Sublist (allK.take (n + 1)) := by
  rw [List.take_add_one]; exact hs.trans (List.sublist_append_left ..)
theorem ND.step2 {a a' b : Led} (hn : ND (a ++ b)) (h' : ND a') (hf : ∀ p ∈ a', p.1 ∈ a.map (·.1) ∨ ∀ q ∈ b, @Ne Nat q.1 p.1) : ND (a' ++ b) := by
  have hr := hn.r
  have ho := hn.off
  unfold ND at *
  rw [List.map_append, List.nodup_append]
  refine ⟨h', hr, fun x hx y hy e => ?_⟩
  obtain ⟨p, hp, rfl⟩ := List.mem_map.mp hx
  obtain ⟨q, hq, rfl⟩ := List.mem_map.mp hy
  rcases hf p hp with z | z
  · exact ho q hq (e ▸ z)
  · exact z q hq e.symm
noncomputable abbrev bL (sa : Addr) (o : Obj) (rl : Addr) (rn : Nat) (D : Addr) (oD : Obj) (KT : Led) (es es' : Es) (R : Led) : Led := (sa, o) :: (rl, listOf (rowsOf es).toArray rn) :: (D, oD) :: (KT ++ (ledK [] es ++ (ledK [] es' ++ R)))
theorem bL_perm {sa rl D T : Addr} {o oD oT : Obj} {rn : Nat} {KT R : Led} {es es' : Es} {k : Key} {ec eo : En} {l : Obj} :
    (bL sa o rl rn D oD ((T, oT) :: KT) (es ++ [(k, ec)]) (es' ++ [(k, eo)]) R).Perm ((T, oT) :: (rl, listOf (rowsOf (es ++ [(k, ec)])).toArray rn) :: (D, oD) :: (sa, o) :: ((eo.led ++ ec.led) ++ (KT ++ (ledK [] es ++ (ledK [] es' ++ R))))) := by
  classical
  refine List.perm_iff_count.mpr fun a => ?_
  simp only [bL, ledK, List.flatMap_append, List.flatMap_cons, List.flatMap_nil, List.append_nil, List.nil_append, List.cons_append, List.count_append, List.count_cons]
  omega

noncomputable def lawFd (P : Params) : Option FuncData := match (Mine.pre.heap_1 P).lookup 276 with | some o => (match o.data with | .func fd => some fd | _ => none) | none => none
noncomputable def lawBody (P : Params) : List Stmt := match lawFd P with | some fd => (match fd.body with | .stmts b => b | _ => []) | none => []
noncomputable def lawScope (P : Params) : Scope := match lawFd P with | some fd => fd.scope | none => { kind := .function, names := [], isGenerator := false, isCoroutine := false }
/-- what the building loops have made -/
noncomputable def Bld (w : World) (sa rl D sd : Addr) (R : Led) (n : Nat) (l : Lm) (nx : Led) : Prop := ∃ o rn oD KT xs es es' ρ, nx = bL sa o rl rn D oD KT es es' R ∧ SrcO w o ∧ KD w oD KT xs ∧ keysX xs = keysE es' ∧ es.map (·.1) = es'.map (·.1) ∧ (es.map (·.1)).Sublist (allK.take n) ∧ Rel (okC w) ρ es ∧ Rel (okO w) ρ es' ∧ Good 0 0 ρ ∧
  l.lookup (Str.ofString "source") = some (.ref sa) ∧ l.lookup (Str.ofString "rows") = some (.ref rl) ∧ l.lookup (Str.ofString "own") = some (.ref D) ∧ l.lookup (Str.ofString "shut") = some (.ref sd)
theorem kd_any : ∀ {j : Nat}, j < 3 → (kindsL.any (· == kdAt j)) = true
  | 0, _ | 1, _ | 2, _ => by decide
  | n + 3, h => absurd h (by omega)
theorem ND.offI {I : Addr} {it : Obj} {l : Led} (h : ND ((I, it) :: l)) : ∀ p ∈ l, p.1 ≠ I := fun p hp z => (List.nodup_cons.mp h).1 (z ▸ List.mem_map_of_mem (f := (·.1)) hp)
theorem turn_perm {a b c d : Addr × Obj} {F K t : Led} : ((a :: b :: F) ++ (K ++ (c :: d :: t))).Perm ((c :: d :: a :: (F ++ t)) ++ (b :: K)) := by
  classical
  refine List.perm_iff_count.mpr fun x => ?_
  simp only [List.cons_append, List.count_append, List.count_cons]
  omega
theorem fin_perm {nx Y kp : Led} {b i : Addr × Obj} (P : nx.Perm Y) : (Y ++ (b :: i :: kp)).Perm (b :: i :: (kp ++ nx)) := by
  classical
  refine List.perm_iff_count.mpr fun x => ?_
  have := P.count_eq x
  simp only [List.count_append, List.count_cons]
  omega
theorem push_rows (es : Es) (k : Key) (e : En) : (rowsOf es).toArray.push (.ref e.ad) = (rowsOf (es ++ [(k, e)])).toArray := by
  rw [List.push_toArray]
  unfold rowsOf
  rw [List.map_append]; rfl
theorem law_build (w : World) {A : Around} {env : Env} {g : Heap} {s₀ s : Shared} {lm : Lm} {Q : Flow → Shared → Prop} {E : Value → Shared → Prop} (pE : PassesOwn (model PR w) A env E) (C : Cx w A env g 9 (lawScope w.params)) {sa : Addr} {o : Obj} {ps : Array Value} (ho : SrcO w o) (hsa : @Ne Nat sa 271) (hl : lm.lookup (Str.ofString "source") = some (.ref sa)) (S : S1 g env s₀ s lm [(sa, o), (271, tabObj ps)])
    (k : ∀ s' rl D sd so l nx, Bld w sa rl D sd [(sd, so), (271, tabObj ps)] 6 l nx → ND nx → DctK (PySem.intKind PR w) so [] → (sd == sysModules) = false → (D == sysModules) = false → S1 g env s₀ s' l nx → wpAny (model PR w) A (execs ((lawBody w.params).drop 3) env) Q E s') : wpAny (model PR w) A (execs ((lawBody w.params).drop 1) env) Q E s := by
  have S00 := S
  refine r_names3 C (ev_list (ps := []) S rfl (Nat.le_of_ble_eq_true rfl)) (fun y s' hc S => ev_dict0 C S) (fun y z s' S => ev_dict0 C S) rfl rfl rfl (fun _ _ _ _ _ => rfl) (fun _ _ _ _ _ => rfl) rfl rfl rfl fun y z u s hc S => ?_
  obtain ⟨rl, rvs⟩ := y
  obtain ⟨D, oD⟩ := z
  obtain ⟨sd, so⟩ := u
  obtain ⟨s1, s2, s3, ⟨hrv, c1⟩, T1, ⟨-, -, hD, lo, c2⟩, T2, -, hso, -, lo2, c3⟩ := hc
  cases hrv
  have nd0 : ND (bL sa o rl 0 D oD [] [] [] [(sd, so), (271, tabObj ps)]) := by
    have a1 := S00.ne c1 (.head _)
    have a2 := S00.ne c1 (.tail _ (.head _))
    have b1 := T1.ne c2 (.head _)
    have b2 := T1.ne c2 (.tail _ (.head _))
    have b3 := T1.ne c2 (.tail _ (.tail _ (.head _)))
    have d1 := T2.ne c3 (.head _)
    have d2 := T2.ne c3 (.tail _ (.head _))
    have d3 := T2.ne c3 (.tail _ (.tail _ (.head _)))
    have d4 := T2.ne c3 (.tail _ (.tail _ (.tail _ (.head _))))
    exact nodup5 a1.symm b2.symm d3.symm hsa b1.symm d2.symm a2 d1.symm b3 d4
  have S := S.led (news' := bL sa o rl 0 D oD [] [] [] [(sd, so), (271, tabObj ps)]) (List.forall_mem_cons.mpr ⟨.tail _ (.tail _ (.tail _ (.head _))), List.forall_mem_cons.mpr ⟨.tail _ (.tail _ (.head _)), List.forall_mem_cons.mpr ⟨.tail _ (.head _), List.forall_mem_cons.mpr ⟨.head _, List.forall_mem_cons.mpr ⟨.tail _ (.tail _ (.tail _ (.tail _ (.head _)))), fun _ h => nomatch h⟩⟩⟩⟩⟩)
  have hb : Bld w sa rl D sd [(sd, so), (271, tabObj ps)] 0 ((Str.ofString "rows", .ref rl) :: (Str.ofString "own", .ref D) :: (Str.ofString "shut", .ref sd) :: lm) (bL sa o rl 0 D oD [] [] [] [(sd, so), (271, tabObj ps)]) := ⟨o, 0, oD, [], [], [], [], fun _ => none, rfl, ho, hD, rfl, rfl, .slnil, fun _ => rfl, fun _ => rfl, (fun _ _ h => nomatch h), hl, rfl, rfl, rfl⟩
  generalize bL sa o rl 0 D oD [] [] [] [(sd, so), (271, tabObj ps)] = n0 at S nd0 hb
  generalize hR : [(sd, so), (271, tabObj ps)] = R at hb
  clear T1 T2 c1 c2 c3 S00 hD ho
  refine r_for C pE (ev_list (ps := [.int 1, .int 2]) S (by exact ⟨_, _, rfl, Pu.int, rfl, _, _, rfl, Pu.int, rfl, rfl⟩) (Nat.le_of_ble_eq_true rfl)) rfl (fun _ => rfl) fun y v s1 hv hc S1' => ?_
  cases hv
  obtain ⟨pl, pvs⟩ := y
  obtain ⟨hpv, hpl⟩ := hc
  have hpl2 := hpv.length
  have hpn : ∀ p ∈ n0, @Ne Nat pl p.1 := fun p hp => S.ne hpl (o := p.2) hp
  refine ⟨2, fun i => .int (portsL.getD i 0), [(pl, listOf pvs.toArray 0)], fun i l nx => ∃ nx', nx = (pl, listOf pvs.toArray 0) :: nx' ∧ ND nx ∧ Bld w sa rl D sd R (3 * i) l nx', ?_, ?_, ⟨n0, rfl, ND.cons nd0 hpn, hb⟩, ?_, ?_⟩
  · have := itr_list (kp := [(pl, listOf pvs.toArray 0)]) (pv := fun i => .int (portsL.getD i 0)) C S1' ⟨_, S1'.mem (.head _), rfl, _, rfl⟩ (.inr ⟨_, .head _⟩) (S1'.N _ (.head _)).2.1 fun i v hv => by
      have h := pvs_at hpv i v hv
      match i, hv with
      | 0, _ => exact h
      | 1, _ => exact h
      | n + 2, hv => rw [List.getElem?_eq_none (by rw [hpl2]; simp)] at hv; cases hv
    rw [hpl2] at this
    exact this
  · rintro i l nx ⟨nx', rfl, _⟩ p hp
    rw [List.mem_singleton.mp hp]; exact .head _
  rotate_left
  · rintro l nx s'' ⟨nx', rfl, nd, hb⟩ S
    subst hR
    exact k s'' rl D sd so l nx' hb (List.nodup_cons.mp nd).2 hso lo2 lo (S.led fun _ h => .tail _ h)
  rintro I it i l nx s Q' hi ⟨n1, rfl, nd, hb⟩ S off hT
  have hkp : ∀ p ∈ [(pl, listOf pvs.toArray 0)], p.1 ≠ I := List.forall_mem_cons.mpr ⟨off _ (.head _), fun _ h => nomatch h⟩
  have nd2 : ND ([(I, it), (pl, listOf pvs.toArray 0)] ++ n1) := ND.cons nd fun p hp => (off p hp).symm
  have S : S1 g env s₀ s _ ([(I, it), (pl, listOf pvs.toArray 0)] ++ n1) := S
  generalize hkp2 : [(I, it), (pl, listOf pvs.toArray 0)] = kp at nd2 S
  obtain ⟨tvs, tn, dd, sl, ht, hs⟩ : ∃ (l : List Value) (n : Nat) (dd : Option Addr) (sl : Array (Option Value)), (Mine.pre.heap_1 w.params).lookup 238 = some ⟨.type "list", dd, .seq l.toArray n, sl⟩ ∧ StrsAre l kindsL := ⟨_, _, _, _, by k_is, by kde_strs⟩
  have hlen : tvs.length = 3 := hs.len_eq
  have hgl := C.X _ _ ht
  refine r_for C pE (Pu.ev (Pu.glob (p := .ref 238) C S (by k_is) rfl rfl rfl) S) rfl (fun _ => rfl) fun _ v s hv _ S => ?_
  cases hv
  refine ⟨3, fun j => .str (kdAt j), [], fun j l nx => ∃ nx', nx = kp ++ nx' ∧ ND nx ∧ Bld w sa rl D sd R (3 * i + j) l nx' ∧ l.lookup (Str.ofString "port") = some (.int (portsL.getD i 0)), hlen ▸ itr_list C S ⟨_, S.keep _ _ hgl, rfl, _, rfl⟩ (.inl ⟨_, hgl⟩) (s1_ne S hgl) (pv_strs hs), (fun _ _ _ _ _ h => nomatch h), ⟨n1, rfl, nd2, ?_, rfl⟩, ?_, ?_⟩
  · obtain ⟨o, rn, oD, KT, xs, es, es', ρ, e1, e2, e3, e4, e5, e6, e7, e8, e9, l1, l2, l3, l4⟩ := hb
    exact ⟨o, rn, oD, KT, xs, es, es', ρ, e1, e2, e3, e4, e5, e6, e7, e8, e9, l1, l2, l3, l4⟩
  rotate_left
  · rintro l nx s'' ⟨nx', rfl, nd, hb, _⟩ S
    subst hkp2
    have nd := List.nodup_cons.mp nd
    exact r_end (hT .next _ ⟨l, _, S, fun p hp z => nd.1 (z ▸ List.mem_map_of_mem (f := (·.1)) hp), nx', rfl, nd.2, hb⟩)
  clear hT hb nd nd2 S
  rintro I2 it2 j l nx s Q' hj ⟨nx', rfl, nd, ⟨o, rn, oD, KT, xs, es, es', ρ, rfl, hso2, hK, hx, hm, hsub, hr, hr', hg, l1, l2, l3, l4⟩, l5⟩ S off hT
  have hkey := allK_get hi hj
  have hnew := key_new hsub hkey
  have hnew' : _ ∉ es'.map (·.1) := hm ▸ hnew
  generalize hpt : portsL.getD i 0 = pt at hkey hnew hnew' l5
  have nd1 : ND ((I2, it2) :: (kp ++ bL sa o rl rn D oD KT es es' R)) := ND.cons nd fun p hp => (off p hp).symm
  have S : S1 g env _ s _ (((I2, it2) :: kp) ++ ((sa, o) :: (rl, listOf (rowsOf es).toArray rn) :: (D, oD) :: (KT ++ (ledK [] es ++ (ledK [] es' ++ R))))) := S
  have nd1 : ND (((I2, it2) :: kp) ++ ((sa, o) :: (rl, listOf (rowsOf es).toArray rn) :: (D, oD) :: (KT ++ (ledK [] es ++ (ledK [] es' ++ R))))) := nd1
  generalize hK2 : (I2, it2) :: kp = K2 at S nd1
  generalize htl2 : KT ++ (ledK [] es ++ (ledK [] es' ++ R)) = tl2 at S nd1
  generalize htl : (rl, listOf (rowsOf es).toArray rn) :: (D, oD) :: tl2 = tl at S nd1
  have nda : ND ([(sa, o)] ++ (K2 ++ tl)) := nd1.perm List.perm_middle
  have mem0 : ∀ p ∈ [(sa, o)], p ∈ K2 ++ (sa, o) :: tl := fun p hp => List.perm_middle.mem_iff.mpr (List.mem_append_left _ hp)
  have rsub : ∀ p ∈ K2 ++ tl, p ∈ K2 ++ (sa, o) :: tl := fun p hp => List.perm_middle.mem_iff.mpr (.tail _ hp)
  have hkk := kd_any hj
  refine r_ifE (TEv.gtE (j := 0) (ev_fun (next_v w sa 4 (by decide) (by decide) o hso2) C (Nat.le_of_ble_eq_true rfl) S (by k_is) rfl (by k_is) (by exact ⟨_, _, rfl, Pu.name C S l1 rfl rfl, rfl, _, _, rfl, Pu.int, rfl, rfl⟩) (fun _ => rfl) (K2 ++ tl) mem0 rsub nda.off (fun _ h => nomatch h)) (fun _ _ _ _ => Pu.int) rfl) (fun y s q hc S => ?_) (fun y s q hc S => r_end (r_end ?_))
  rotate_left
  · obtain ⟨_, hc⟩ := hc
    subst htl; subst htl2; subst hK2
    exact hT .next _ ⟨_, kp ++ bL sa y.1 rl rn D oD KT es es' R, S.led fun p hp => (List.perm_middle (l₁ := (I2, it2) :: kp)).mem_iff.mp hp, (nd1.same (b := (I2, it2) :: (kp ++ bL sa y.1 rl rn D oD KT es es' R)) (by simp only [List.map_append, List.map_cons, List.cons_append])).offI, _, rfl, nd.same (by simp only [List.map_append, List.map_cons]), ⟨y.1, rn, oD, KT, xs, es, es', ρ, rfl, hc.c.1, hK, hx, hm, sub_skip hsub, hr, hr', hg, l1, l2, l3, l4⟩, by rw [hpt]; exact l5⟩
  obtain ⟨_, hc⟩ := hc
  have ndb : ND ([(sa, y.1)] ++ (K2 ++ tl)) := nda.same rfl
  have Sb := S
  refine r_unp (α := Obj × Addr × En × En × Rw) (T := fun y => y.2.1) (v1 := fun y => .ref y.2.2.1.ad) (v2 := fun y => .ref y.2.2.2.1.d) (n := fun _ => 0) C (ev_fun (row_v w sa (pt, kdAt j) hkk y.1 hc.c.1) C (Nat.le_of_ble_eq_true rfl) S (by k_is) rfl (by k_is) (by exact ⟨_, _, rfl, Pu.name C S l1 rfl rfl, rfl, _, _, rfl, Pu.name C S l5 rfl rfl, rfl, _, _, rfl, (Pu.name C S rfl rfl rfl), rfl, rfl⟩) (fun _ => rfl) (K2 ++ tl) (fun p hp => List.mem_append_left _ hp) (fun p hp => List.mem_append_right _ hp) ndb.off (fun _ h => nomatch h)) (fun y s' hc => .tail _ (.head _)) (fun _ _ _ _ _ => rfl) (fun _ _ _ _ _ => rfl) rfl fun z s2 hz S h' S' => ?_
  obtain ⟨o3, T, ec, eo, r⟩ := z
  have ndc := ndb.step hz.c.2.2 (fun p hp => ⟨_, Sb.mem (List.mem_append_right _ hp)⟩) hz.new
  have hz := hz.c
  dsimp only at hz ndc S'
  refine assign_Name (a_name (p := .ref ec.ad) C S' rfl rfl fun s3 S3 => ?_)
  subst htl
  have P := turn_perm (a := (sa, o3)) (b := (T, ({ cls := .type "tuple", data := .seq #[.ref ec.ad, .ref eo.d] } : Obj))) (c := (rl, listOf (rowsOf es).toArray rn)) (d := (D, oD)) (F := eo.led ++ ec.led) (K := K2) (t := tl2)
  have S4 := S3.led fun p hp => P.mem_iff.mpr hp
  have nd4 := ndc.perm P
  have hlen : xs.length ≤ 100 := by
    have h1 := congrArg List.length hx
    have h2 := congrArg List.length hm
    have h3 := hsub.length_le
    have h4 := List.length_take_le (3 * i + j) allK
    have h5 : allK.length = 6 := rfl
    rw [List.length_map, List.length_map] at h1 h2
    rw [List.length_map] at h3
    rw [List.length_take] at h3
    omega
  refine a_setT (D := D) (o := oD) (ra := eo.d) (KT := KT) (xs := xs) C (by decide) S4 rfl (Pu.name C S4 l3 rfl rfl) (fun tk => by exact ⟨_, _, rfl, Pu.name C (S4.tok tk) l5 rfl rfl, rfl, _, _, rfl, Pu.name C (S4.tok tk) rfl rfl rfl, rfl, rfl⟩) hK (UpdF.mid (pre := [(rl, listOf (rowsOf es).toArray rn)]) nd4) (fun p hp => ?_) (atKey_none hx hnew') hlen fun s5 oD' T'' t u hTn S5 K' => ?_
  · exact List.mem_append_left _ (.tail _ (.tail _ (.tail _ (List.mem_append_right _ (htl2 ▸ List.mem_append_left _ hp)))))
  have nd5 := (ND.cons (o := tupObj pt t (kdAt j) u) nd4 hTn).same (b := (T'', tupObj pt t (kdAt j) u) :: ([(rl, listOf (rowsOf es).toArray rn)] ++ (D, oD') :: ((sa, o3) :: ((eo.led ++ ec.led) ++ tl2) ++ ((T, ({ cls := .type "tuple", data := .seq #[.ref ec.ad, .ref eo.d] } : Obj)) :: K2)))) rfl
  have hrs : (rowsOf es).length ≤ 100 := by
    have h3 := hsub.length_le
    have h5 : allK.length = 6 := rfl
    rw [List.length_map, List.length_take] at h3
    unfold rowsOf; rw [List.length_map]; omega
  refine r_expr C (ev_append S5 (Pu.name C S5 l2 rfl rfl) (Pu.name (p := .ref ec.ad) C S5 rfl rfl rfl) (UpdF.mid (pre := [(T'', tupObj pt t (kdAt j) u)]) nd5) (by rw [List.size_toArray]; exact Nat.le_trans hrs (by decide)) (fun _ => ⟨_, rfl⟩) rfl) (fun _ => rfl) fun v s6 hv S6 => r_end (r_end ?_)
  have hv : v = .ref ec.ad := hv
  subst hv
  have nd6 := nd5.same (b := (T'', tupObj pt t (kdAt j) u) :: ([(rl, listOf ((rowsOf es).toArray.push (.ref ec.ad)) (rn + 1))] ++ (D, oD') :: ((sa, o3) :: ((eo.led ++ ec.led) ++ tl2) ++ ((T, ({ cls := .type "tuple", data := .seq #[.ref ec.ad, .ref eo.d] } : Obj)) :: K2)))) rfl
  rw [push_rows es (pt, kdAt j) ec] at S6 nd6
  subst htl2; subst hK2
  have B := bL_perm (sa := sa) (rl := rl) (D := D) (T := T'') (o := o3) (oD := oD') (oT := tupObj pt t (kdAt j) u) (rn := rn + 1) (KT := KT) (R := R) (es := es) (es' := es') (k := (pt, kdAt j)) (ec := ec) (eo := eo) (l := o3)
  have P2 := fin_perm (kp := kp) (b := (T, ({ cls := .type "tuple", data := .seq #[.ref ec.ad, .ref eo.d] } : Obj))) (i := (I2, it2)) B
  have nd7 := (List.nodup_cons.mp ((nd6 : ND (_ ++ _)).perm P2)).2
  have had : eo.ad = eo.d := by have := hz.2.1.o.1; unfold En.ad; rw [this]
  refine hT .next _ ⟨_, kp ++ bL sa o3 rl (rn + 1) D oD' ((T'', tupObj pt t (kdAt j) u) :: KT) (es ++ [((pt, kdAt j), ec)]) (es' ++ [((pt, kdAt j), eo)]) R, S6.led fun p hp => P2.mem_iff.mpr (.tail _ hp), ND.offI nd7, _, rfl, (List.nodup_cons.mp nd7).2, ⟨o3, rn + 1, oD', _, _, _, _, setR ρ (pt, kdAt j) r, rfl, hz.1, K', ?_, ?_, sub_add hsub hkey, hr.add hnew hz.2.1.c, hr'.add hnew' hz.2.1.o, hg.set hz.2.1.g, l1, l2, l3, l4⟩, by rw [hpt]; exact l5⟩
  · unfold keysX keysE at hx ⊢
    rw [List.map_append, List.map_append, hx, ← had]; rfl
  · rw [List.map_append, List.map_append, hm]; rfl

theorem getD_int {is : List Int} {i : Nat} (h : i < is.length) : (is.map PV.int).getD i .none = .int (is.getD i 0) := by
  rw [List.getD_eq_getElem?_getD, List.getD_eq_getElem?_getD, List.getElem?_map, List.getElem?_eq_getElem h]; rfl
section
variable {w : World} {A : Around} {env : Env} {g : Heap} {d : Nat} {sc : Scope} {s₀ s : Shared} {lm : Lm} {news : Led} {xpos pos lp np : Pos} {a b e : PySem.Expr} {es : List PySem.Expr} {sa : Addr} {o : Obj} {is : List Int} {α : Type}
theorem ev_pickI (C : Cx w A env g d sc) (hd : 2 ≤ d) (S : S1 g env s₀ s lm news) (ha : Pu w A env s a (.ref sa)) (hps : PuL w A env s es (is.map .int)) (h1 : 1 ≤ is.length) (h2 : is.length ≤ 100) (rest : Led) (hm : (sa, o) ∈ news) (ho : SrcO w o) (hr : ∀ p ∈ rest, p ∈ news) (off : ∀ p ∈ rest, p.1 ≠ sa)
    (hk : sc.names.lookup (Str.ofString "_law_pick") = some .globalImplicit) (hs1 : starEach [a, .List es lp] env = (false, eval a env) :: starEach [.List es lp] env) :
    Ev w A env g s₀ s lm (.Call (.Name (Str.ofString "_law_pick") xpos) [a, .List es lp] [] pos) (fun (y : Obj × Int) _ => SrcO w y.1 ∧ y.2 ∈ is) (fun y => .int y.2) (fun y => (sa, y.1) :: rest) :=
  (ev_pick C hd S ha hps (by rw [List.length_map]; exact h1) (by rw [List.length_map]; exact h2) rest hm ho hr off hk hs1).re fun y _ hc => by
    rw [List.length_map] at hc
    exact ⟨(y.1, is.getD y.2 0), ⟨hc.1, by rw [List.getD_eq_getElem?_getD, List.getElem?_eq_getElem hc.2]; exact List.getElem_mem _⟩, (getD_int hc.2).symm, rfl⟩
/-- `_law_pick(a, _law_kinds)` -/
theorem ev_pickK (C : Cx w A env g d sc) (hd : 2 ≤ d) (S : S1 g env s₀ s lm news) (ha : Pu w A env s a (.ref sa)) (rest : Led) (hm : (sa, o) ∈ news) (ho : SrcO w o) (hr : ∀ p ∈ rest, p ∈ news) (off : ∀ p ∈ rest, p.1 ≠ sa)
    (hk : sc.names.lookup (Str.ofString "_law_pick") = some .globalImplicit) (hk2 : sc.names.lookup (Str.ofString "_law_kinds") = some .globalImplicit) (hs1 : starEach [a, .Name (Str.ofString "_law_kinds") np] env = (false, eval a env) :: starEach [.Name (Str.ofString "_law_kinds") np] env) :
    Ev w A env g s₀ s lm (.Call (.Name (Str.ofString "_law_pick") xpos) [a, .Name (Str.ofString "_law_kinds") np] [] pos) (fun (y : Obj × Str) _ => SrcO w y.1) (fun y => .str y.2) (fun y => (sa, y.1) :: rest) := by
  obtain ⟨tvs, tn, dd, sl, ht, hs⟩ : ∃ (l : List Value) (n : Nat) (dd : Option Addr) (sl : Array (Option Value)), (Mine.pre.heap_1 w.params).lookup 238 = some ⟨.type "list", dd, .seq l.toArray n, sl⟩ ∧ StrsAre l kindsL := ⟨_, _, _, _, by k_is, by kde_strs⟩
  have hlen : tvs.length = 3 := hs.len_eq
  have hgl := C.X _ _ ht
  refine (ev_fun (pick_v w sa 238 ⟨.type "list", dd, .seq tvs.toArray tn, sl⟩ tvs tn rfl rfl (by omega) (by omega) (fun i => .str (kdAt i)) (pv_strs hs) o ho) C hd S (by k_is) hk (by k_is) (by exact ⟨_, _, rfl, ha, hs1, _, _, rfl, Pu.glob (p := .ref 238) C S (by k_is) rfl hk2 (by decide), rfl, rfl⟩) (fun _ => rfl) rest (fun p hp => by rw [List.mem_singleton.mp hp]; exact hm) hr (fun p hp z => off p hp (List.mem_singleton.mp z)) (fun p hp => ?_)).re fun y _ hc => ⟨(y.1, kdAt y.2), hc.c.1, rfl, rfl⟩
  rw [List.mem_singleton.mp hp]
  refine ⟨S.keep _ _ hgl, fun z => ?_⟩
  have z := List.mem_singleton.mp z
  have := (S.N _ hm).2.2
  dsimp only at z this
  rw [← z, hgl] at this; cases this
theorem ev_range2 {C : α → Shared → Prop} {P : α → Int} {fn : α → Led} (Cc : Cx w A env g d sc) (S : S1 g env s₀ s lm news) (hg : nsIn (Mine.pre.heap_1 w.params) mainGlobals (Str.ofString "range") = some (Option.none : Option Value)) (hk : sc.names.lookup (Str.ofString "range") = some .globalImplicit) (hE : Ev w A env g s₀ s lm a C (fun y => .int (P y)) fn) (h1 : starEach [a] env = (false, eval a env) :: starEach [] env) :
    Ev w A env g s₀ s lm (.Call (.Name (Str.ofString "range") xpos) [a] [] pos) (fun (z : α × Addr × Tok × Tok × Tok) s'' => (∃ s', C z.1 s') ∧ s''.heap.get? z.2.1 = some (rngObj (P z.1) z.2.2.1 z.2.2.2.1 z.2.2.2.2)) (fun z => .ref z.2.1) (fun z => fn z.1) := fun Q E k =>
  ev_range Cc S hg hk hE h1 Q E fun y v s' hv hc S => k y v s' hv ⟨hc.1, S.mem (.head _)⟩ (S.led fun _ h => .tail _ h)
end
theorem RoD.tdL {w : World} {RO : Led} {D : Addr} {xs : TXs} (R : RoD w RO D xs) {g : Heap} {news : Led} (h : ∀ p ∈ RO, p ∈ news) : TD w g news D xs := ⟨R.1, RO, fun p hp => .inr (h p hp), R.2⟩
noncomputable abbrev wL (sa : Addr) (o : Obj) (A B R : Led) : Led := (sa, o) :: (A ++ (B ++ R))
/-- where the main loop stands -/
noncomputable def MJ (w : World) (sa cx sc D sd : Addr) (rec : Int) (xc xo : TXs) (R : Led) (i : Nat) (l : Lm) (nx : Led) : Prop := ∃ o yc yo ρ σ now, nx = wL sa o (ctlLed sc yc) (ctlLed sd yo) R ∧ ND nx ∧ SrcO w o ∧ St w (okC w) xc sc ρ σ yc ∧ St w (okO w) xo sd ρ σ yo ∧ Good i now ρ ∧ σ.length ≤ i ∧
  l.lookup (Str.ofString "source") = some (.ref sa) ∧ l.lookup (Str.ofString "control") = some (.ref cx) ∧ l.lookup (Str.ofString "own") = some (.ref D) ∧ l.lookup (Str.ofString "shut") = some (.ref sd) ∧ l.lookup (Str.ofString "recovery") = some (.int rec) ∧ l.lookup (Str.ofString "now") = some (.int now)
theorem ctl_perm {RO F1 F2 KT : Led} {a b c d e : Addr × Obj} : ((RO ++ (a :: F1)) ++ (b :: c :: (KT ++ (F2 ++ [d, e])))).Perm (b :: ((a :: F1) ++ ((d :: F2) ++ (RO ++ ((c :: KT) ++ [e]))))) := by
  classical
  refine List.perm_iff_count.mpr fun x => ?_
  simp only [List.cons_append, List.count_append, List.count_cons, List.count_nil]
  omega
theorem law_ctl (w : World) {A : Around} {env : Env} {g : Heap} {s₀ s : Shared} {l : Lm} {Q : Flow → Shared → Prop} {E : Value → Shared → Prop} (C : Cx w A env g 9 (lawScope w.params)) {sa rl D sd : Addr} {so : Obj} {ps : Array Value} {nx : Led} (hb : Bld w sa rl D sd [(sd, so), (271, tabObj ps)] 6 l nx) (nd : ND nx) (hso : DctK (PySem.intKind PR w) so []) (lo : (D == sysModules) = false) (S : S1 g env s₀ s l nx)
    (k : ∀ s' cx sc rec xc xo RO RO' Dc cd oc l nx, CtlRO w RO cx Dc sc rec xc cd oc → RoD w RO' D xo → MJ w sa cx sc D sd rec xc xo (RO ++ (RO' ++ [(271, tabObj ps)])) 0 l nx → S1 g env s₀ s' l nx → wpAny (model PR w) A (execs ((lawBody w.params).drop 5) env) Q E s') : wpAny (model PR w) A (execs ((lawBody w.params).drop 3) env) Q E s := by
  obtain ⟨o, rn, oD, KT, xs, es, es', ρ, rfl, hso2, hK, hx, hm, hsub, hr, hr', hg, l1, l2, l3, l4⟩ := hb
  refine r_set C (ev_pickI (is := [0, 0, 50, 130]) C (by decide) S (Pu.name C S l1 rfl rfl) (by exact ⟨_, _, rfl, Pu.int, rfl, _, _, rfl, Pu.int, rfl, _, _, rfl, Pu.int, rfl, _, _, rfl, Pu.int, rfl, rfl⟩) (by decide) (by decide) _ (.head _) hso2 (fun _ h => .tail _ h) (ND.offI nd) rfl rfl) rfl (fun _ => rfl) fun y _ s hy S _ => ?_
  obtain ⟨o, rec⟩ := y
  have hy1 := hy.1
  clear hy
  have nd : ND (bL sa o rl rn D oD KT es es' [(sd, so), (271, tabObj ps)]) := nd.same rfl
  have hkn : (es.map (·.1)).Nodup := hsub.nodup (List.Nodup.sublist (List.take_sublist _ _) allK_nd)
  have hz : es.length ≤ 50 := by
    have h3 := hsub.length_le
    have h5 : allK.length = 6 := rfl
    rw [List.length_map, List.length_take] at h3
    omega
  have P : (bL sa o rl rn D oD KT es es' [(sd, so), (271, tabObj ps)]).Perm (ledK [(rl, listOf (rowsOf es).toArray rn)] es ++ ((sa, o) :: (D, oD) :: (KT ++ (ledK [] es' ++ [(sd, so), (271, tabObj ps)])))) := by
    classical
    refine List.perm_iff_count.mpr fun x => ?_
    simp only [bL, ledK, List.nil_append, List.cons_append, List.count_append, List.count_cons, List.count_nil]
    omega
  have S := S.led (news' := ledK [(rl, listOf (rowsOf es).toArray rn)] es ++ ((sa, o) :: (D, oD) :: (KT ++ (ledK [] es' ++ [(sd, so), (271, tabObj ps)])))) fun p hp => P.mem_iff.mpr hp
  have nd := nd.perm P
  refine r_names2 C (ev_cls (fun x dx h hfar => ctl_init w x dx h rl rn es ρ hr hkn hz nd.l hfar rec _ [] [] (.inl ⟨rfl, rfl, rfl⟩)) C (by decide) S (by k_is) (by k_is) (by k_is) (by k_is) rfl (by k_is) (by exact ⟨_, _, rfl, Pu.name C S l2 rfl rfl, rfl, _, _, rfl, (Pu.name C S rfl rfl rfl), rfl, rfl⟩) (fun _ => rfl) _ (fun _ h => List.mem_append_left _ h) (fun _ h => List.mem_append_right _ h) nd.off) (fun y s' hc S => Pu.evT Pu.int S) rfl rfl (fun _ _ _ _ _ => rfl) (fun _ _ _ _ _ => rfl) rfl rfl fun y _ s _ hy S => ?_
  obtain ⟨cx, cd, Dc, sc, oc, soc, xc, RO, cd2⟩ := y
  obtain ⟨_, ⟨hR, hst, hnd2⟩, _, _, far⟩ := hy
  have ndw := nd.step2 hnd2 fun p hp => (far p hp).imp id fun h q hq => h q (List.mem_append_right _ hq)
  have P2 := ctl_perm (RO := RO) (F1 := es.flatMap fun q => q.2.led) (F2 := es'.flatMap fun q => q.2.led) (KT := KT) (a := (sc, soc)) (b := (sa, o)) (c := (D, oD)) (d := (sd, so)) (e := (271, tabObj ps))
  have ndw := (show ND _ from ndw).perm P2
  have ndo : ND (ctlLed sd (so, es')) := (show ND ([(sa, o)] ++ (ctlLed sc (soc, es) ++ (ctlLed sd (so, es') ++ (RO ++ ((D, oD) :: KT ++ [(271, tabObj ps)]))))) from ndw).r.r.l
  refine k s cx sc rec xc xs RO ((D, oD) :: KT) Dc cd2 oc ((Str.ofString "control", .ref cx) :: (Str.ofString "now", .int 0) :: (Str.ofString "recovery", .int rec) :: l) _ hR ⟨lo, fun h hh => hK.at (hh _ (.head _)) fun p hp => hh p (.tail _ hp)⟩ ⟨o, (soc, es), (so, es'), ρ, [], 0, rfl, ndw, hy1, hst, ⟨hso, hr', keys_all hx, ndo⟩, hg, Nat.le_refl _, l1, rfl, l3, l4, rfl, rfl⟩ (S.led fun p hp => P2.mem_iff.mpr hp)

section
variable {i a : Addr × Obj} {A B R : Led}
theorem cutS : (i :: a :: (A ++ (B ++ R))).Perm ([a] ++ (i :: (A ++ (B ++ R)))) := List.Perm.swap ..
theorem cutA : (i :: a :: (A ++ (B ++ R))).Perm (A ++ (i :: a :: (B ++ R))) := by
  classical
  refine List.perm_iff_count.mpr fun x => ?_
  simp only [List.count_append, List.count_cons]
  omega
theorem cutB : (i :: a :: (A ++ (B ++ R))).Perm (B ++ (i :: a :: (A ++ R))) := by
  classical
  refine List.perm_iff_count.mpr fun x => ?_
  simp only [List.count_append, List.count_cons]
  omega
end
theorem Perm.subL {all X rest : Led} (P : all.Perm (X ++ rest)) : ∀ p ∈ X, p ∈ all := fun _ hp => P.mem_iff.mpr (List.mem_append_left _ hp)
theorem Perm.subR {all X rest : Led} (P : all.Perm (X ++ rest)) : ∀ p ∈ rest, p ∈ all := fun _ hp => P.mem_iff.mpr (List.mem_append_right _ hp)
theorem Perm.pre {all X rest RO : Led} {g : Heap} {env : Env} {s₀ s : Shared} {lm : Lm} (P : all.Perm (X ++ rest)) (nd : ND all) (S : S1 g env s₀ s lm all) (h : ∀ p ∈ RO, p ∈ rest) : ∀ p ∈ RO, s.heap.get? p.1 = some p.2 ∧ p.1 ∉ X.map (·.1) := fun p hp =>
  ⟨S.mem (Perm.subR P p (h p hp)), (nd.perm P).off p (h p hp)⟩
theorem dt_nn {x : Int} (h : x ∈ [0, 1, 9, 40, 99, 100]) : 0 ≤ x := by simp at h; omega
theorem sz_nn {x : Int} (h : x ∈ [1, 64, 70, 3]) : 0 ≤ x := by simp at h; omega
theorem law_main (w : World) {A : Around} {env : Env} {g : Heap} {s₀ s : Shared} {l : Lm} {Q : Flow → Shared → Prop} {E : Value → Shared → Prop} (pE : PassesOwn (model PR w) A env E) (C : Cx w A env g 9 (lawScope w.params)) {sa cx sc D sd Dc cd : Addr} {oc : Obj} {rec : Int} {xc xo : TXs} {ps : Array Value} {RO RO' R nx : Led} (hR : CtlRO w RO cx Dc sc rec xc cd oc) (hO : RoD w RO' D xo) (los : (sd == sysModules) = false) (hRm : ∀ p ∈ RO, p ∈ R) (hOm : ∀ p ∈ RO', p ∈ R) (htab : (271, tabObj ps) ∈ R)
    (hJ : MJ w sa cx sc D sd rec xc xo R 0 l nx) (S : S1 g env s₀ s l nx) (k : ∀ s' l, S1 g env s₀ s' l [(271, tabObj ps)] → wpAny (model PR w) A (execs ((lawBody w.params).drop 6) env) Q E s') : wpAny (model PR w) A (execs ((lawBody w.params).drop 5) env) Q E s := by
  obtain ⟨o, yc, yo, ρ, σ, now, rfl, nd, hso, hc, ho, hg, hz, l1, l2, l3, l4, l5, l6⟩ := hJ
  refine' r_for C pE ?hE rfl (fun _ => rfl) ?kk
  case hE =>
    refine ev_range2 (α := Obj × Int) (P := fun y => 8 + y.2) (C := Was fun (y : Obj × Int) _ => SrcO w y.1 ∧ 0 ≤ y.2 ∧ y.2 < 13) (fn := fun y => (sa, y.1) :: (ctlLed sc yc ++ (ctlLed sd yo ++ R))) C S (by k_is) rfl ?_ rfl
    refine ev_addE (C := fun (y : Obj × Int) _ => SrcO w y.1 ∧ 0 ≤ y.2 ∧ y.2 < 13) Pu.int fun tk => ?_
    exact (ev_fun (next_v w sa 13 (by decide) (by decide) o hso) C (Nat.le_of_ble_eq_true rfl) (S.tok tk) (by k_is) rfl (by k_is) (by exact ⟨_, _, rfl, Pu.name C (S.tok tk) l1 rfl rfl, rfl, _, _, rfl, Pu.int, rfl, rfl⟩) (fun _ => rfl) (ctlLed sc yc ++ (ctlLed sd yo ++ R)) (fun p hp => by rw [List.mem_singleton.mp hp]; exact .head _) (fun _ h => .tail _ h) (fun p hp z => ND.offI nd p hp (List.mem_singleton.mp z)) (fun _ h => nomatch h)).re fun y s' hy => ⟨y, hy.c, rfl, rfl⟩
  rintro y v s hv hy S
  obtain ⟨⟨o1, n⟩, ra, t1, t2, t3⟩ := y
  obtain ⟨⟨_, _, hn⟩, hra⟩ := hy
  dsimp only at hn
  cases hv
  obtain ⟨N, hN⟩ : ∃ N : Nat, 8 + n = (N : Int) := ⟨(8 + n).toNat, by omega⟩
  dsimp only at hra
  rw [hN] at hra
  refine ⟨N, fun i => .int i, [], MJ w sa cx sc D sd rec xc xo R, itr_range C S hra (by omega), (fun _ _ _ _ _ h => nomatch h), ⟨o1, yc, yo, ρ, σ, now, rfl, nd.same rfl, hn.1, hc, ho, hg, hz, l1, l2, l3, l4, l5, l6⟩, ?_, ?_⟩
  rotate_left
  · rintro l nx s'' ⟨o, yc, yo, ρ, σ, now, rfl, _⟩ S
    exact k s'' l (S.led fun p hp => by rw [List.mem_singleton.mp hp]; exact .tail _ (List.mem_append_right _ (List.mem_append_right _ htab)))
  have hN2 : N ≤ 50 := by omega
  clear hc ho hg hz nd S hso l1 l2 l3 l4 l5 l6 hra hn
  rintro I it i l nx s Q' hi ⟨o, yc, yo, ρ, σ, now, rfl, nd, hso, hc, ho, hg, hz, l1, l2, l3, l4, l5, l6⟩ S off hT
  have nd1 : ND ((I, it) :: (sa, o) :: (ctlLed sc yc ++ (ctlLed sd yo ++ R))) := ND.cons nd fun p hp => (off p hp).symm
  have S := S.led (news' := (sa, o) :: ((I, it) :: (ctlLed sc yc ++ (ctlLed sd yo ++ R)))) fun p hp => cutS.mem_iff.mpr hp
  have offS := ND.offI (nd1.perm cutS)
  refine r_set C (ev_addE (Pu.name C S l6 rfl rfl) fun tk => ev_pickI (is := [0, 1, 9, 40, 99, 100]) C (by decide) (S.tok tk) (Pu.name C (S.tok tk) l1 rfl rfl) (by exact ⟨_, _, rfl, Pu.int, rfl, _, _, rfl, Pu.int, rfl, _, _, rfl, Pu.int, rfl, _, _, rfl, Pu.int, rfl, _, _, rfl, Pu.int, rfl, _, _, rfl, Pu.int, rfl, rfl⟩) (by decide) (by decide) _ (.head _) hso (fun _ h => .tail _ h) offS rfl rfl) rfl (fun _ => rfl) fun y _ s hy S _ => ?_
  obtain ⟨_, hso, hdt⟩ := hy
  obtain ⟨o1, dt⟩ := y
  have hdt := dt_nn hdt
  refine r_names2 C (ev_pickI (is := [1, 1, 2, 3]) C (by decide) S (Pu.name C S l1 rfl rfl) (by exact ⟨_, _, rfl, Pu.int, rfl, _, _, rfl, Pu.int, rfl, _, _, rfl, Pu.int, rfl, _, _, rfl, Pu.int, rfl, rfl⟩) (by decide) (by decide) _ (.head _) hso (fun _ h => .tail _ h) offS rfl rfl) (fun y s' hy S => ev_pickK C (by decide) S (Pu.name C S l1 rfl rfl) _ (.head _) hy.1 (fun _ h => .tail _ h) offS rfl rfl rfl) rfl rfl (fun _ _ _ _ _ => rfl) (fun _ _ _ _ _ => rfl) rfl rfl fun y z s hz1 hy S => ?_
  obtain ⟨_, hso⟩ := hz1
  obtain ⟨_, p⟩ := y
  obtain ⟨o1, kd⟩ := z
  clear hy
  refine r_set C (ev_pickI (is := [1, 64, 70, 3]) C (by decide) S (Pu.name C S l1 rfl rfl) (by exact ⟨_, _, rfl, Pu.int, rfl, _, _, rfl, Pu.int, rfl, _, _, rfl, Pu.int, rfl, _, _, rfl, Pu.int, rfl, rfl⟩) (by decide) (by decide) _ (.head _) hso (fun _ h => .tail _ h) offS rfl rfl) rfl (fun _ => rfl) fun y _ s hy S _ => ?_
  obtain ⟨o1, n1⟩ := y
  obtain ⟨hso, hn1⟩ := hy
  have hn1 := sz_nn hn1
  have hg := hg.later (Nat.le_refl i) (show now ≤ now + dt by omega)
  generalize now + dt = now2 at S hg
  generalize hlm : (Str.ofString "size", PV.int n1) :: _ = lm at S
  have m1 : lm.lookup (Str.ofString "source") = some (.ref sa) := by rw [← hlm]; exact l1
  have m2 : lm.lookup (Str.ofString "control") = some (.ref cx) := by rw [← hlm]; exact l2
  have m3 : lm.lookup (Str.ofString "own") = some (.ref D) := by rw [← hlm]; exact l3
  have m4 : lm.lookup (Str.ofString "shut") = some (.ref sd) := by rw [← hlm]; exact l4
  have m5 : lm.lookup (Str.ofString "recovery") = some (.int rec) := by rw [← hlm]; exact l5
  have m6 : lm.lookup (Str.ofString "now") = some (.int now2) := by rw [← hlm]; rfl
  have m7 : lm.lookup (Str.ofString "port") = some (.int p) := by rw [← hlm]; rfl
  have m8 : lm.lookup (Str.ofString "kind") = some (.str kd) := by rw [← hlm]; rfl
  have m9 : lm.lookup (Str.ofString "size") = some (.int n1) := by rw [← hlm]; rfl
  clear hlm l1 l2 l3 l4 l5 l6 off nd
  have nd1 : ND ((I, it) :: (sa, o1) :: (ctlLed sc yc ++ (ctlLed sd yo ++ R))) := nd1.same rfl
  have S := S.led (news' := (I, it) :: (sa, o1) :: (ctlLed sc yc ++ (ctlLed sd yo ++ R))) fun p hp => cutS.mem_iff.mp hp
  refine r_ifJE (fun s' => ∃ o yc yo ρ σ, S1 g env s₀ s' lm ((I, it) :: (sa, o) :: (ctlLed sc yc ++ (ctlLed sd yo ++ R))) ∧ ND ((I, it) :: (sa, o) :: (ctlLed sc yc ++ (ctlLed sd yo ++ R))) ∧ SrcO w o ∧ St w (okC w) xc sc ρ σ yc ∧ St w (okO w) xo sd ρ σ yo ∧ Good i now2 ρ ∧ σ.length ≤ i)
    (TEv.eqE (j := 0) (ev_fun (next_v w sa 9 (by decide) (by decide) o1 hso) C (Nat.le_of_ble_eq_true rfl) S (by k_is) rfl (by k_is) (by exact ⟨_, _, rfl, Pu.name C S m1 rfl rfl, rfl, _, _, rfl, Pu.int, rfl, rfl⟩) (fun _ => rfl) _ (Perm.subL cutS) (Perm.subR cutS) (nd1.perm cutS).off (fun _ h => nomatch h)) (fun _ _ _ _ => Pu.int) rfl) (fun y s Q' _ hy S hJ => ?_) (fun y s Q' _ hy S hJ => r_end (hJ _ ?_)) fun s hJ => ?_
  rotate_left
  · obtain ⟨_, hy⟩ := hy
    exact ⟨y.1, yc, yo, ρ, σ, S.led fun p hp => cutS.mem_iff.mp hp, nd1.same rfl, hy.c.1, hc, ho, hg, hz⟩
  · clear hso hc ho hg hz nd1 S
    obtain ⟨o, yc, yo, ρ, σ, S, nd1, hso, hc, ho, hg, hz⟩ := hJ
    have hg0 := hz
    obtain ⟨ρ2, σ2, v2, hres⟩ : ∃ ρ2 σ2 v2, askA ρ σ rec (p, kd) n1 now2 = (ρ2, σ2, v2) := ⟨_, _, _, rfl⟩
    have hz2 : σ.length ≤ 90 := by omega
    have hg9 := hg.later (show i ≤ 900 by omega) (Int.le_refl now2)
    obtain ⟨hg2, hz3⟩ := hg.ask hn1 hres
    have inR : ∀ {X : Led}, ∀ q ∈ RO, q ∈ (I, it) :: (sa, o) :: (X ++ R) := fun q hq => .tail _ (.tail _ (List.mem_append_right _ (hRm q hq)))
    have inO : ∀ {X : Led}, ∀ q ∈ RO', q ∈ (I, it) :: (sa, o) :: (X ++ R) := fun q hq => .tail _ (.tail _ (List.mem_append_right _ (hOm q hq)))
    have nxt : ∀ (y : CSt) s', Bk (ctlLed sc yc) s (St w (okC w) xc sc ρ2 σ2) (ctlLed sc) y s' → ND ((I, it) :: (sa, o) :: (ctlLed sc y ++ (ctlLed sd yo ++ R))) := fun y s' B =>
      ((nd1.perm cutA).step B.c.nd (fun q hq => ⟨_, S.mem (Perm.subR cutA q hq)⟩) B.new).perm cutA.symm
    refine r_ifE (TEv.neS (x := v2) (ev_meth (asked_v hR ρ σ yc hc hz2 (p, kd) n1 now2 hg9 hres) C (Nat.le_of_ble_eq_true rfl) S (Pu.name C S m2 rfl rfl) (hR.ins fun q hq => S.mem (Perm.subR cutA q (inR q hq))) hR.d rfl (me212_asked w) (by exact ⟨_, _, rfl, Pu.name C S m7 rfl rfl, rfl, _, _, rfl, Pu.name C S m8 rfl rfl, rfl, _, _, rfl, Pu.name C S m9 rfl rfl, rfl, _, _, rfl, Pu.name C S m6 rfl rfl, rfl, rfl⟩) (fun _ => rfl) (fun _ => ⟨_, rfl⟩) _ (Perm.subL cutA) (Perm.subR cutA) (nd1.perm cutA).off (Perm.pre cutA nd1 S inR))
      (fun y s' hy S' => ev_fun (own_asked_v hO los ρ σ yo ho hz2 rec (p, kd) n1 now2 hg9 hres) C (Nat.le_of_ble_eq_true rfl) (S'.led (news' := (I, it) :: (sa, o) :: (ctlLed sc y ++ (ctlLed sd yo ++ R))) fun q hq => cutA.mem_iff.mp hq) (by k_is) rfl (by k_is) (by exact ⟨_, _, rfl, Pu.name C S' m3 rfl rfl, rfl, _, _, rfl, Pu.name C S' m4 rfl rfl, rfl, _, _, rfl, Pu.name C S' m5 rfl rfl, rfl, _, _, rfl, Pu.name C S' m7 rfl rfl, rfl, _, _, rfl, Pu.name C S' m8 rfl rfl, rfl, _, _, rfl, Pu.name C S' m9 rfl rfl, rfl, _, _, rfl, Pu.name C S' m6 rfl rfl, rfl, rfl⟩) (fun _ => rfl) _ (Perm.subL cutB) (Perm.subR cutB) ((nxt y s' hy).perm cutB).off (Perm.pre cutB (nxt y s' hy) (S'.led (news' := (I, it) :: (sa, o) :: (ctlLed sc y ++ (ctlLed sd yo ++ R))) fun q hq => cutA.mem_iff.mp hq) inO)) rfl) (fun _ _ q => nomatch q) (fun z s2 _ hz S => r_end ?_)
    obtain ⟨yc2, yo2⟩ := z
    obtain ⟨s3, B1, S3, _, B2⟩ := hz
    have nd2 := nxt yc2 s3 B1
    have S3 := S3.led (news' := (I, it) :: (sa, o) :: (ctlLed sc yc2 ++ (ctlLed sd yo ++ R))) fun q hq => cutA.mem_iff.mp hq
    have nd3 : ND ((I, it) :: (sa, o) :: (ctlLed sc yc2 ++ (ctlLed sd yo2 ++ R))) := ((nd2.perm cutB).step B2.c.nd (fun q hq => ⟨_, S3.mem (Perm.subR cutB q hq)⟩) B2.new).perm cutB.symm
    have hc2 := B1.c
    have ho2 := B2.c
    have S := S.led (news' := (I, it) :: (sa, o) :: (ctlLed sc yc2 ++ (ctlLed sd yo2 ++ R))) fun q hq => cutB.mem_iff.mp hq
    clear nxt B1 B2 S3 nd2 nd1
    have fin : ∀ s', S1 g env s₀ s' lm ((I, it) :: (sa, o) :: (ctlLed sc yc2 ++ (ctlLed sd yo2 ++ R))) → Q' .next s' := fun s' S => hT .next _ ⟨lm, wL sa o (ctlLed sc yc2) (ctlLed sd yo2) R, S, ND.offI nd3, o, yc2, yo2, ρ2, σ2, now2, rfl, (List.nodup_cons.mp nd3).2, hso, hc2, ho2, hg2, Nat.le_trans hz3 (Nat.succ_le_succ hg0), m1, m2, m3, m4, m5, m6⟩
    refine r_ifE (TEv.neI (i := match ρ2 (p, kd) with | none => 0 | some r => r.cnt) (C2 := fun _ _ (_ : Unit) _ => True) (f2 := fun _ _ => (I, it) :: (sa, o) :: (ctlLed sc yc2 ++ (ctlLed sd yo2 ++ R))) (ev_meth (dropped_v hR ρ2 σ2 yc2 hc2 (p, kd)) C (Nat.le_of_ble_eq_true rfl) S (Pu.name C S m2 rfl rfl) (hR.ins fun q hq => S.mem (Perm.subR cutA q (inR q hq))) hR.d rfl (me212_dropped w) (by exact ⟨_, _, rfl, Pu.name C S m7 rfl rfl, rfl, _, _, rfl, Pu.name C S m8 rfl rfl, rfl, rfl⟩) (fun _ => rfl) (fun _ => ⟨_, rfl⟩) _ (Perm.subL cutA) (Perm.subR cutA) (nd3.perm cutA).off (Perm.pre cutA nd3 S inR))
      (fun y s' hy S' => ev_ifx (TEv.inT C (S'.led (news' := (I, it) :: (sa, o) :: (ctlLed sc yc2 ++ (ctlLed sd yo2 ++ R))) fun q hq => cutA.mem_iff.mp hq) (hO.tdL fun q hq => Perm.subR cutB q (inO q hq)) (by exact ⟨_, _, rfl, Pu.name C S' m7 rfl rfl, rfl, _, _, rfl, Pu.name C S' m8 rfl rfl, rfl, rfl⟩) (fun s' S => Pu.name C S m3 rfl rfl) rfl) (fun _ s' q _ S => ?_) (fun _ s' q _ S => ?_)) rfl) (fun _ _ q => nomatch q) (fun _ s2 _ _ S => r_end (r_end (fin _ S)))
    · obtain ⟨e, hl, ka, hka⟩ := ho2.rows.isSome (k := (p, kd)) q
      obtain ⟨r, hr, hx, hd, _⟩ := ho2.rel.at hl
      have had : e.ad = e.d := by unfold En.ad; rw [hx]
      have hmem : (e.d, e.o) ∈ ctlLed sd yo2 := by
        obtain ⟨pre, post, e1, _⟩ := updK_split hl
        show _ ∈ ledK [(sd, yo2.1)] yo2.2
        rw [e1]
        exact List.mem_append_right _ (List.mem_flatMap.mpr ⟨((p, kd), e), by simp, .head _⟩)
      rw [hr]
      exact ev_fld (ev_itemT (p := .ref e.d) C S (hO.tdL fun q hq => Perm.subR cutB q (inO q hq)) (Pu.name C S m3 rfl rfl) (by exact ⟨_, _, rfl, Pu.name C S m7 rfl rfl, rfl, _, _, rfl, Pu.name C S m8 rfl rfl, rfl, rfl⟩) hka (congrArg Value.ref had)) (Perm.subL cutB _ hmem) hd rfl (fun _ => by with_unfolding_all rfl)
    · rw [show ρ2 (p, kd) = none from ho2.rel.no (ho2.rows.isNone (k := (p, kd)) q)]
      exact Pu.evT Pu.int S
  obtain ⟨_, hy⟩ := hy
  obtain ⟨o2, _⟩ := y
  have hso := hy.c.1
  clear hy
  have nd1 : ND ((I, it) :: (sa, o2) :: (ctlLed sc yc ++ (ctlLed sd yo ++ R))) := nd1.same rfl
  have S := S.led (news' := (I, it) :: (sa, o2) :: (ctlLed sc yc ++ (ctlLed sd yo ++ R))) fun p hp => cutS.mem_iff.mp hp
  have hz2 : σ.length ≤ 100 := by omega
  have inR : ∀ {X : Led}, ∀ p ∈ RO, p ∈ (I, it) :: (sa, o2) :: (X ++ R) := fun p hp => .tail _ (.tail _ (List.mem_append_right _ (hRm p hp)))
  have S0 := S
  refine r_expr C (ev_meth (mend_v hR ρ σ yc hc hz2 p) C (Nat.le_of_ble_eq_true rfl) S (Pu.name C S m2 rfl rfl) (hR.ins fun p hp => S.mem (Perm.subR cutA p (inR p hp))) hR.d rfl (me212_mend w) (by exact ⟨_, _, rfl, Pu.name C S m7 rfl rfl, rfl, rfl⟩) (fun _ => rfl) (fun _ => ⟨_, rfl⟩) _ (Perm.subL cutA) (Perm.subR cutA) (nd1.perm cutA).off (Perm.pre cutA nd1 S inR)) (fun _ => rfl) fun yc2 s hy S => ?_
  have nd2 := (nd1.perm cutA).step hy.c.nd (fun p hp => ⟨_, S0.mem (Perm.subR cutA p hp)⟩) hy.new
  have nd3 : ND ((I, it) :: (sa, o2) :: (ctlLed sc yc2 ++ (ctlLed sd yo ++ R))) := nd2.perm cutA.symm
  have S := S.led (news' := (I, it) :: (sa, o2) :: (ctlLed sc yc2 ++ (ctlLed sd yo ++ R))) fun p hp => cutA.mem_iff.mp hp
  have hc2 := hy.c
  clear nd1 nd2 hy S0
  have S0 := S
  refine r_expr C (ev_fun (mended_v hO los ρ σ yo ho hz2 p) C (Nat.le_of_ble_eq_true rfl) S (by k_is) rfl (by k_is) (by exact ⟨_, _, rfl, Pu.name C S m3 rfl rfl, rfl, _, _, rfl, Pu.name C S m4 rfl rfl, rfl, _, _, rfl, Pu.name C S m7 rfl rfl, rfl, rfl⟩) (fun _ => rfl) _ (Perm.subL cutB) (Perm.subR cutB) (nd3.perm cutB).off (Perm.pre cutB nd3 S fun p hp => .tail _ (.tail _ (List.mem_append_right _ (hOm p hp))))) (fun _ => rfl) fun yo2 s hy S => r_end (hJ _ ?_)
  have nd2 := (nd3.perm cutB).step hy.c.nd (fun p hp => ⟨_, S0.mem (Perm.subR cutB p hp)⟩) hy.new
  exact ⟨o2, yc2, yo2, mendA ρ p, delS σ p, S.led fun p hp => cutB.mem_iff.mp hp, nd2.perm cutB.symm, hso, hc2, hy.c, ((hg.clr _).clr _).clr _, Nat.le_trans (List.length_filter_le _ _) hz⟩

section
variable {w : World} {A : Around} {env : Env} {g : Heap} {d : Nat} {sc : Scope} {s₀ s : Shared} {lm : Lm} {news : Led} {xpos pos lp ppos : Pos} {p : PV} {a b : PySem.Expr} {sl : Addr} {i j : Int} {k : Nat} {vs : List Value} {ns : List Int} {v0 : Value}
theorem TEv.neNil (S : S1 g env s₀ s lm news) (ha : Pu w A env s a (.ref sl)) (hl : ∀ s' nx, S1 g env s₀ s' lm nx → s'.heap.IsList sl vs.toArray) (hi : IntsAre vs ns) (hu : A.units + 64 < cLine) (hm : behindInMarks .NotEq (.List [] lp) = false) : TEv w A env g s₀ s lm (.Compare a [.NotEq] [.List [] lp] pos) (fun (_ : Unit) _ => True) (fun _ => !decide (ns = [])) (fun _ => news) := fun Q E k =>
  wpAny_isTrue_Compare1 (ha _ _ s.toks fun v tk hv => ev_list (es := []) (ps := []) (S.tok tk) rfl (Nat.le_of_ble_eq_true rfl) _ _ fun y u s' hu2 hc S' => by
    obtain ⟨l2, lv⟩ := y
    obtain ⟨hlv, _⟩ := hc
    cases hlv; cases hv; cases hu2
    exact ne_intsK (hl _ _ S') hi ⟨_, S'.mem (.head _), rfl, _, rfl⟩ (ms := []) (us := []) .nil hu (wpAny_truthy_bool (k () _ trivial (S'.led fun _ h => .tail _ h)))) hm
theorem Pu.first {x : Str} {apos : Pos} (ha : Pu w A env s (.Name x apos) (.ref sl)) (hl : s.heap.IsList sl vs.toArray) (h0 : vs[0]? = some v0) (hp : p.is v0) : Pu w A env s (.Subscript (.Name x apos) (.Constant (.int 0) k ppos) pos) p := fun Q E tk k' =>
  Subscript_ (ha _ _ tk fun u tk1 hu => Pu.int (w := w) (A := A) (env := env) (s := s) (i := 0) _ _ tk1 fun v tk2 hv => by
    cases hu; obtain ⟨t, rfl⟩ := hv
    exact item_list (x := v0) (s := { s with toks := tk2 }) hl (by decide) (by decide) (by simpa using h0) (k' _ _ hp))
theorem Pu.pow (ha : Pu w A env s a (.int i)) (hb : Pu w A env s b (.int j)) (h1 : 0 ≤ j) (h2 : j ≤ 1000000) (h3 : i.natAbs < 2 ^ 64) : Pu w A env s (.BinOp a .Pow b pos) (.int (i ^ j.toNat)) := fun _ _ tk h =>
  wpAny_BinOp (ha _ _ tk fun v tk1 hv => hb _ _ tk1 fun u tk2 hu => by obtain ⟨t, rfl⟩ := hv; obtain ⟨t', rfl⟩ := hu; exact pow_int_small h1 h2 h3 (h _ _ ⟨_, rfl⟩))
theorem ev_abs (C : Cx w A env g d sc) (S : S1 g env s₀ s lm news) (hk : sc.names.lookup (Str.ofString "abs") = some .globalImplicit) (hg : nsIn (Mine.pre.heap_1 w.params) mainGlobals (Str.ofString "abs") = some none) (ha : Pu w A env s a (.int i)) (h1 : starEach [a] env = (false, eval a env) :: starEach [] env) :
    Ev w A env g s₀ s lm (.Call (.Name (Str.ofString "abs") xpos) [a] [] pos) (fun (_ : Int) _ => True) (fun y => .int y) (fun _ => news) :=
  ev_builtin C S hg boot_abs (by decide) hk (by exact ⟨_, _, rfl, ha, h1, rfl⟩) (fun _ => rfl) fun vs tk Q E hvs k => by
    obtain ⟨_, _, rfl, ⟨t, rfl⟩, rfl⟩ := hvs
    exact call_abs_int fun u tk2 => k _ _ _ ⟨u, rfl⟩ trivial (S.tok tk2)
end
theorem source_v (w : World) (sl : Addr) (lo : Obj) (vs : List Value) (ns : List Int) (n : Nat) (hc : lo.cls = .type "list") (hd : lo.data = .seq vs.toArray n) (hi : IntsAre vs ns) : SpecV w 9 223 [.ref sl] [(sl, lo)] [] (fun (y : Addr × Obj) => SrcO w y.2) (fun y => .ref y.1) (fun y => [(y.1, y.2)]) := by
  refine specV_of [Str.ofString "script"] [] [] rfl (by k_is) (by k_is) (by decide) (fun vs s hvs hX => ?_) (by decide) rfl rfl rfl (by decide) fun A env g s Q E pE hQ C S hpre lt => ?_
  · obtain ⟨_, rfl⟩ := hvs.one; exact BindsTo.of_eq rfl
  have hl : ∀ s' lm nx, S1 g env s s' lm nx → s'.heap.IsList sl vs.toArray := fun s' lm nx S => ⟨lo, S.keep _ _ (hpre _ (.head _)), hc, n, hd⟩
  refine r_set C (C := fun (_ : Int) _ => True) (P := fun y => .int y) (fn := fun _ => []) (ev_ifx (TEv.neNil S (Pu.name C S rfl rfl rfl) (fun s' nx S => hl s' _ nx S) hi (by have := C.un; omega) rfl) (fun _ s' q _ S => ?_) (fun _ s' q _ S => (Pu.evT (Pu.int (i := 0)) S).re fun _ _ _ => ⟨0, trivial, rfl, rfl⟩)) rfl (fun _ => rfl) fun y _ s _ S _ => ?_
  · cases hi with
    | nil => simp at q
    | cons k t hi => exact ev_abs C S rfl (by k_is) (Pu.first (p := .int k) (Pu.name C S rfl rfl rfl) (hl _ _ _ S) rfl ⟨t, rfl⟩) rfl
  refine r_ret (ev_dictP (l := srcL (if 10 ^ 18 ≤ y then y else 0) (y.fmod 1000003 + 13)) C S (fun s' S => .cons (Pu.ifx (Te.ge (Pu.name C S rfl rfl rfl) (Pu.pow Pu.int Pu.int (by decide) (by decide) (by decide)) rfl) (fun h => ?_) (fun h => ?_)) (.cons (Pu.add (Pu.mod (Pu.name C S rfl rfl rfl) Pu.int (by decide)) Pu.int) .nil)) (by simp only [List.map_cons, List.map_nil]; decide) rfl rfl (fun h => nomatch h) (by decide)) fun z v s' hv hc S => hQ _ _ ⟨z, _, ⟨_, _, hc.1⟩, hv, S⟩
  · rw [if_pos (show (10 : Int) ^ 18 ≤ y from of_decide_eq_true h)]; exact (Pu.name C S rfl rfl rfl)
  · rw [if_neg (show ¬ (10 : Int) ^ 18 ≤ y from of_decide_eq_false h)]; exact Pu.int

theorem readsAll_of_strs {h : Heap} : ∀ {vs : List Value} {ys : List Str}, StrsAre vs ys → ReadsAll h vs (ys.map PyData.str) []
  | _, _, .nil => .nil
  | _, _, .cons k t r => by
    have := ReadsAll.cons (Reads.str (h := h) k t) (readsAll_of_strs (h := h) r)
    simpa using this
theorem reads_of_strs {h : Heap} {a : Addr} {vs : List Value} {ys : List Str} (hl : h.IsList a vs.toArray) (hi : StrsAre vs ys) : Reads h (.ref a) (.list (ys.map PyData.str)) [a] := by
  obtain ⟨o, ho, hc, n, hd⟩ := hl
  exact Reads.list ho hc hd (by simpa using readsAll_of_strs hi)
theorem strs_of_pvs : ∀ {ys : List Str} {us : List Value}, PvsAre (ys.map PV.str) us → StrsAre us ys
  | [], _, h => by cases h; exact .nil
  | y :: r, _, h => by obtain ⟨v, t, rfl, ⟨tk, rfl⟩, h⟩ := h; exact .cons _ _ (strs_of_pvs h)
section
variable {w : World} {d : Nat} {f : Addr} {α : Type} {C : α → Prop} {fr : α → PV} {fn : α → Led} {name qual : Str} {params : Arguments} {body : List Stmt} {scope : Scope} {dV kV doc pm cdv ct oc : Value} {an od : Option Addr} {osl : Array (Option Value)}
/-- a def without parameters, one of whose names is a cell -/
theorem specV_of0 (cx : Str) (ho : (Mine.pre.heap_1 w.params).lookup f = some ⟨oc, od, .func (fnOf name qual params body scope dV kV doc pm an cdv ct), osl⟩) (hcd : codeIn (Mine.pre.heap_1 w.params) cdv qual = true)
    (hbind : ∀ s : Shared, BindsTo s (fnOf name qual params body scope dV kV doc pm an cdv ct) ⟨[], []⟩ []) (hcells : ∀ n, cellsFrom n scope.names [] = [(cx, n)])
    (hco : scope.isCoroutine = false) (hgen : scope.isGenerator = false) (hk : scope.kind = .function)
    (hb : ∀ A env g s Q E c o, PassesOwn (model PR w) A env E → (∀ fl s', RetV g env s C fr fn fl s' → Q fl s') → Cx w A env g d scope → (∃ cn L a ccd, env = envX cn scope L a ccd [(cx, c)]) → o.data = .cell none → S1 g env s s [] [(c, o)] → wpAny (model PR w) A (execs body env) Q E s) :
    SpecV w (d + 1) f [] [] [] C fr fn := by
  intro A env g₀ sc lm s₀ s vs R Cc S hvs hpre hQ
  cases hvs
  obtain ⟨⟨m, F, hm⟩, N, same⟩ := S
  obtain ⟨p, loose, mean, mg, mb, outer, A₀, base, T, B, hA⟩ := Cc.ctx
  have hroom := room_0 Cc.dep
  obtain ⟨cn, L, a, ccd, cl, rfl⟩ := Cc.eX
  refine enterXC B F Cc.X N T hA rfl Cc.kind ho hcd hroom (hbind s) rfl ?_ (fun g L' h₁ tk cells hg FG F' N' Y B' X' T' lt => ?_) hco hgen hk
  · rw [hcells]; simp
  · rw [hcells] at Y
    obtain ⟨o, rfl, hd⟩ := Y.one
    refine wpAny_mono (hb _ _ g { s with heap := h₁, toks := tk } (RetV g _ _ C fr fn) _ (L' + 1) o (by passes_own) (fun _ _ h => h) ⟨⟨_, L', f, cdv, _, rfl⟩, hk, Cc.hand, X', ⟨p, loose, mean, mg, mb, _, A, base, T', B', by simp only [Around.frames_deeper hA]⟩, ?_, ?_⟩ ⟨_, L', f, cdv, by rw [← hcells]; rfl⟩ hd
      ⟨⟨_, F', fun x q hq => nomatch hq⟩, N', rfl, rfl, rfl⟩) (fun fl s' hr => ?_) fun _ _ x => x
    · show A.depth + 1 + d < _
      have := Cc.dep; omega
    · show A.units + 3 + 8 * d < _
      have := Cc.un; omega
    · obtain ⟨x, lm', c, hv, ⟨m', F₁, _⟩, N₁, same'⟩ := hr
      exact ⟨L', m', fn x, F₁, N₁, fun F₂ N₂ K₂ D₂ => hQ x _ s' c hv ⟨⟨m, F₂, hm⟩, N₂, ⟨same'.1.trans same.1, same'.2.1.trans same.2.1, same'.2.2.trans same.2.2⟩⟩ K₂ D₂⟩
end
section
variable {w : World} {A : Around} {env en : Env} {g : Heap} {d d' : Nat} {sc : Scope} {s₀ s : Shared} {lm l : Lm} {all pre news : Led} {x n : Str} {xpos apos pos lp pos' : Pos} {ps : List PV} {a b c e : PySem.Expr} {es : List PySem.Expr} {K f : Addr} {ar : Addr} {o : Obj} {α β : Type} {Cc : α → Prop} {fr : α → PV} {fn : α → Led} {k : Nat} {i j : Int} {z y : Bool} {Q : Flow → Shared → Prop} {E : Value → Shared → Prop} {rest : List Stmt}
theorem wp_meth (Sp : SpecV w d' f (.ref ar :: ps) pre news Cc fr fn) (C : Cx w A env g d sc) (hdd : d' ≤ d) (S : S1 g env s₀ s lm all) (hc : Pu w A en s c (.ref ar)) (I : Inst s.heap ar K o) (hD : Dct w o l) (hl : l.lookup n = none) (ok : MethOk w K n f) (hargs : PuL w A en s (e :: es) ps)
    (hplain : ∀ en, (backTo pos (starEach es en)).any (·.1) = false) (hm : MethShape c n apos (e :: es) pos) (rest : Led) (sub : ∀ p ∈ news, p ∈ all) (hr : ∀ p ∈ rest, p ∈ all) (off : ∀ p ∈ rest, p.1 ∉ news.map (·.1)) (hpre : ∀ p ∈ pre, s.heap.get? p.1 = some p.2 ∧ p.1 ∉ news.map (·.1)) {Q E : Value → Shared → Prop}
    (k : ∀ y v s', (fr y).is v → Bk news s Cc fn y s' → S1 g env s₀ s' lm (fn y ++ rest) → Q v s') : wpAny (model PR w) A (eval (.Call (.Attribute c n apos) (e :: es) [] pos) en) Q E s := by
  obtain ⟨pl, hm⟩ := hm en
  refine MethodCall_ (pl := pl) (hc _ _ s.toks fun u tk hu => ?_) hm
  cases hu
  obtain ⟨⟨m, F, hm⟩, N, same⟩ := id S
  obtain ⟨kvs, hD, hl'⟩ := hD
  obtain ⟨dx, I⟩ := I.at
  refine method_fld (s := { s with toks := tk }) F C.X I hD ok.g ok.f ok.i (DL.miss hl' hl) ?_
  refine callWith_K C.X ok.k (hargs.go fun vs tk' hvs => ⟨C.X.keeps F.keep, ?_⟩) hargs.choose_spec.choose_spec.2.2.1 (hplain en)
  exact useV Sp C hdd rest sub hr off hpre (S.tok tk') rfl ⟨.ref ar, vs, rfl, rfl, hvs⟩ fun y v s'' hv hb S'' => k y v s'' hv hb S''
/-- a cell's name is bound -/
theorem r_setC {C : α → Shared → Prop} {P : α → PV} {fn : α → Led} {gg : α → Obj → Led} {cc : Addr} {v₀ : Option Value} (Cx : Cx w A env g d sc) (he : ∃ cn L a ccd, env = envX cn sc L a ccd [(x, cc)]) (hE : Ev w A env g s₀ s lm e C P fn) (U : ∀ y s', C y s' → S1 g env s₀ s' lm (fn y) → UpdF cc o (fn y) (gg y)) (hd : o.data = .cell v₀) (hx : sc.names.lookup x = some .cell) (hs : ∀ en, swapsWith e (some (.Name x pos')) pos.line en = pure false)
    (k : ∀ y v s' s'' o', C y s' → (P y).is v → o'.data = .cell (some v) → S1 g env s₀ s'' lm (gg y o') → wpAny (model PR w) A (execs rest env) Q E s'') : wpAny (model PR w) A (execs (.Assign [.Name x pos'] e pos :: rest) env) Q E s := by
  obtain ⟨cn, L, a, ccd, rfl⟩ := he
  refine wpAny_execs_cons (wpAny_Assign_Name (hE _ _ fun y v s' hv hc S => ?_) (hs _))
  have U2 := U y s' hc S
  obtain ⟨⟨m, F, hm⟩, N, same⟩ := S
  exact storeX_C F N (by simp) U2 hd (fun h' o' F' N' hd' => k y v s' _ o' hc hv hd' ⟨⟨m, F', hm⟩, N', same⟩) Cx.kind hx
theorem Pu.eqS {x y : Str} (ha : Pu w A env s a (.str x)) (hb : Pu w A env s b (.str y)) (hm : behindInMarks .Eq b = false) : Pu w A env s (.Compare a [.Eq] [b] pos) (.bool (x == y)) := fun _ _ tk h =>
  wpAny_Compare1 (ha _ _ tk fun v tk1 hv => hb _ _ tk1 fun u tk2 hu => by obtain ⟨t, rfl⟩ := hv; obtain ⟨t', rfl⟩ := hu; exact PyProof.Rows.eq_str (h _ _ rfl)) hm
theorem TEv.neB {C : α → Shared → Prop} {fn : α → Led} (h1 : Ev w A env g s₀ s lm a C (fun _ => .bool z) fn) (hb : ∀ y s', C y s' → S1 g env s₀ s' lm (fn y) → Pu w A env s' b (.bool z)) (hu : A.units + 64 < cLine) (hm : behindInMarks .NotEq b = false) :
    TEv w A env g s₀ s lm (.Compare a [.NotEq] [b] pos) (Was C) (fun _ => false) fn := fun Q E k =>
  wpAny_isTrue_Compare1 (h1 _ _ fun y v s1 hv hc S => hb y s1 hc S _ _ s1.toks fun u tk hu2 => by
    cases hv; cases hu2
    exact ne_dataH_same (da := .bool z) (db := .bool z) (.bool _) (.bool _) rfl rfl hu (by cases z <;> rfl) (wpAny_truthy_bool (by
      have := k y _ ⟨_, hc⟩ (S.tok tk)
      cases z <;> exact this))) hm
/-- two lists of texts that are the same -/
theorem TEv.neL {ys : List Str} {la : Addr} {vs : List Value} {es : List PySem.Expr} (S : S1 g env s₀ s lm news) (ha : Pu w A env s a (.ref la)) (hla : (la, LCg.lst vs) ∈ news) (hvs : StrsAre vs ys) (hps : PuL w A env s es (ys.map .str)) (hz : ys.length ≤ 100) (hu : A.units + 64 < cLine) (hsh : PySem.SeqAt.shaped (.list (ys.map PyData.str)) = true) (hmx : PySem.SeqAt.noMix (.list (ys.map PyData.str)) (.list (ys.map PyData.str)) = true) (hsm : PySem.Spec.same (.list (ys.map PyData.str)) (.list (ys.map PyData.str)) = true) (hm : behindInMarks .NotEq (.List es lp) = false) :
    TEv w A env g s₀ s lm (.Compare a [.NotEq] [.List es lp] pos) (fun (_ : Unit) _ => True) (fun _ => false) (fun _ => news) := fun Q E k =>
  wpAny_isTrue_Compare1 (ha _ _ s.toks fun v tk hv => ev_list (S.tok tk) (hps.tok tk) (by rw [List.length_map]; exact hz) _ _ fun y u s' hu2 hc S' => by
    obtain ⟨l2, us⟩ := y
    cases hv; cases hu2
    have hus : StrsAre us ys := strs_of_pvs hc.1
    exact ne_dataH_same (reads_of_strs ⟨_, S'.mem (.tail _ hla), rfl, _, rfl⟩ hvs) (reads_of_strs ⟨_, S'.mem (.head _), rfl, _, rfl⟩ hus) hsh hsh hu hmx (by rw [hsm]; exact wpAny_truthy_bool (k () _ trivial (S'.led fun _ h => .tail _ h)))) hm
end

noncomputable def runA (rec : Int) (k : Key) (n : Int) : Rho → Sig → List Int → Rho × Sig × List Str
  | ρ, σ, [] => (ρ, σ, [])
  | ρ, σ, t :: ts => ((runA rec k n (askA ρ σ rec k n t).1 (askA ρ σ rec k n t).2.1 ts).1, (runA rec k n (askA ρ σ rec k n t).1 (askA ρ σ rec k n t).2.1 ts).2.1, (askA ρ σ rec k n t).2.2 :: (runA rec k n (askA ρ σ rec k n t).1 (askA ρ σ rec k n t).2.1 ts).2.2)
theorem ints_item : ∀ {vs : List Value} {ns : List Int}, IntsAre vs ns → ∀ (i : Nat) (v : Value), vs[i]? = some v → ∃ n t, v = .int n t ∧ ns[i]? = some n
  | _, _, .nil, _, _, h => by cases h
  | _, _, .cons k t _, 0, v, h => by cases h; exact ⟨k, t, rfl, rfl⟩
  | _, _, .cons _ _ r, i + 1, v, h => ints_item r i v h
noncomputable def Up : Int → List Int → Prop
  | _, [] => True
  | a, t :: ts => a ≤ t ∧ Up t ts
noncomputable abbrev grp : Key := (1, Str.ofString "group")
noncomputable abbrev askE (k1 k2 k3 : Nat) (p1 p2 p3 p4 p5 p6 p7 : Pos) : PySem.Expr := .Call (.Attribute (.Name (Str.ofString "control") p1) (Str.ofString "asked") p2) [.Constant (.int 1) k1 p3, .Constant (.str (Str.ofString "group")) k2 p4, .Constant (.int 64) k3 p5, .Name (Str.ofString "time") p6] [] p7
theorem rest_ask {w : World} {A : Around} {env : Env} {g : Heap} {d : Nat} {sc sc2 : Scope} {s₀ s₂ : Shared} {lm : Lm} {cl : List (Str × Addr)} {m : Str → Option Value} {c cx sdc Dc cd al : Addr} {oc occ : Obj} {cv : Value} {rec : Int} {xc : TXs} {RO R : Led} {its : List Value} {tsA : List Int} {Fin : List Value → Led → Prop} {k1 k2 k3 : Nat} {p1 p2 p3 p4 p5 p6 p7 : Pos} (C : Cx w A env g d sc) (hd : 5 ≤ d) (hR : CtlRO w RO cx Dc sdc rec xc cd occ) (hRm : ∀ p ∈ RO, p ∈ R) (hcm : (c, oc) ∈ R) (hoc : oc.data = .cell (some cv)) (hcv : (PV.ref cx).is cv) (hlm : ∀ x p, lm.lookup x = some p → ∃ v, m x = some v ∧ p.is v) (same : s₂.gens = s₀.gens ∧ s₂.drawn = s₀.drawn ∧ s₂.os = s₀.os) (hit : IntsAre its tsA)
    (q1 : ∀ Ca, (compEnvC sc2 cl Ca env).scope.kind = .function) (q2 : ∀ Ca, (compEnvC sc2 cl Ca env).kindOf (Str.ofString "control") = some .cell) (q3 : ∀ Ca, (compEnvC sc2 cl Ca env).cells.lookup (Str.ofString "control") = some c) (q4 : ∀ Ca, (compEnvC sc2 cl Ca env).kindOf (Str.ofString "time") = some .local) (q5 : ∀ Ca, (compEnvC sc2 cl Ca env).locals = Ca) (hms : MethShape (.Name (Str.ofString "control") p1) (Str.ofString "asked") p2 [.Constant (.int 1) k1 p3, .Constant (.str (Str.ofString "group")) k2 p4, .Constant (.int 64) k3 p5, .Name (Str.ofString "time") p6] p7) :
    ∀ (ts : List Int) (i : Nat) (ys : List Value) (zs : List Str) (ρ : Rho) (σ : Sig) (y : CSt) (now : Int) (n : Nat), ts = tsA.drop i → n + ts.length ≤ 50 → Good n now ρ → σ.length ≤ n → Up now ts → St w (okC w) xc sdc ρ σ y → ND ((al, listOf its.toArray 0) :: (ctlLed sdc y ++ R)) → StrsAre ys zs →
      (∀ ys' y', StrsAre ys' (zs ++ (runA rec grp 64 ρ σ ts).2.2) → St w (okC w) xc sdc (runA rec grp 64 ρ σ ts).1 (runA rec grp 64 ρ σ ts).2.1 y' → ND ((al, listOf its.toArray 0) :: (ctlLed sdc y' ++ R)) → Fin ys' ((al, listOf its.toArray 0) :: (ctlLed sdc y' ++ R))) →
      LCg.CompRest PR w A g env.locals m env (askE k1 k2 k3 p1 p2 p3 p4 p5 p6 p7) (Str.ofString "time") sc2 cl s₂ (LCg.SrcAt g al its.toArray) (fun i v => its.toArray[i]? = some v) Fin ts.length i ys ((al, listOf its.toArray 0) :: (ctlLed sdc y ++ R)) := by
  intro ts
  induction ts with
  | nil =>
    intro i ys zs ρ σ y now n _ _ _ _ _ st nd hys hf
    exact hf ys y (by simpa [runA] using hys) st nd
  | cons t ts ih =>
    intro i ys zs ρ σ y now n hts hn hg hz hup st nd hys hf
    rw [List.length_cons] at hn
    refine LCg.CompRest.succ fun v I oI Ca oC D m₂ h tk E' hP hC hx F N off ne => ?_
    obtain ⟨tv, rfl⟩ : ∃ tv, v = .int t tv := by
      have h1 : tsA[i]? = some t := by
        have := congrArg List.head? hts
        rw [List.head?_cons, List.head?_drop] at this; exact this.symm
      have h2 : its[i]? = some v := by simpa using hP
      obtain ⟨n, tv, h3, h4⟩ := ints_item hit i v h2
      rw [h1] at h4; cases h4
      exact ⟨tv, h3⟩
    have S : S1 g env s₀ { s₂ with heap := h, toks := tk } lm ((I, oI) :: (Ca, oC) :: (D, LCg.lst ys) :: (al, listOf its.toArray 0) :: (ctlLed sdc y ++ R)) := ⟨⟨m, F, hlm⟩, N, same⟩
    have o3 := off.mem
    have nd1 : ND ((I, oI) :: (Ca, oC) :: (D, LCg.lst ys) :: (al, listOf its.toArray 0) :: (ctlLed sdc y ++ R)) :=
      ND.cons (ND.cons (ND.cons nd fun p hp => (o3 p hp).2.2.symm) (List.forall_mem_cons.mpr ⟨ne.2.2, fun p hp => (o3 p hp).2.1.symm⟩)) (List.forall_mem_cons.mpr ⟨ne.1, List.forall_mem_cons.mpr ⟨ne.2.1, fun p hp => (o3 p hp).1.symm⟩⟩)
    have cut : ∀ X : Led, ((I, oI) :: (Ca, oC) :: (D, LCg.lst ys) :: (al, listOf its.toArray 0) :: (X ++ R)).Perm (X ++ ((I, oI) :: (Ca, oC) :: (D, LCg.lst ys) :: (al, listOf its.toArray 0) :: R)) := fun X => by
      classical
      refine List.perm_iff_count.mpr fun x => ?_
      simp only [List.count_append, List.count_cons]
      omega
    have inR : ∀ p ∈ RO, p ∈ (I, oI) :: (Ca, oC) :: (D, LCg.lst ys) :: (al, listOf its.toArray 0) :: R := fun p hp => .tail _ (.tail _ (.tail _ (.tail _ (hRm p hp))))
    have hcm2 : (c, oc) ∈ (I, oI) :: (Ca, oC) :: (D, LCg.lst ys) :: (al, listOf its.toArray 0) :: (ctlLed sdc y ++ R) := .tail _ (.tail _ (.tail _ (.tail _ (List.mem_append_right _ hcm))))
    have hg1 := hg.later (Nat.le_refl n) hup.1
    obtain ⟨hg2, hz2⟩ := hg1.ask (σ := σ) (rec := rec) (k := grp) (size := 64) (by decide) (Prod.ext rfl rfl : askA ρ σ rec grp 64 t = ((askA ρ σ rec grp 64 t).1, (askA ρ σ rec grp 64 t).2.1, (askA ρ σ rec grp 64 t).2.2))
    have hcx : Pu w A (compEnvC sc2 cl Ca env) { s₂ with heap := h, toks := tk } (.Name (Str.ofString "control") p1) (.ref cx) := Pu.cell S (q1 Ca) (q2 Ca) (q3 Ca) hcm2 hoc hcv
    have htm : Pu w A (compEnvC sc2 cl Ca env) { s₂ with heap := h, toks := tk } (.Name (Str.ofString "time") p6) (.int t) := Pu.nsObj S (q1 Ca) (q4 Ca) (by rw [q5]; exact .tail _ (.head _)) hC hx ⟨tv, rfl⟩
    refine wp_meth (asked_v hR ρ σ y st (by omega) grp 64 t (hg1.later (by omega) (Int.le_refl _)) (Prod.ext rfl rfl : askA ρ σ rec grp 64 t = ((askA ρ σ rec grp 64 t).1, (askA ρ σ rec grp 64 t).2.1, (askA ρ σ rec grp 64 t).2.2))) C hd S hcx (hR.ins fun p hp => S.mem (Perm.subR (cut _) p (inR p hp))) hR.d rfl (me212_asked w) (by exact ⟨_, _, rfl, Pu.int, rfl, _, _, rfl, Pu.str, rfl, _, _, rfl, Pu.int, rfl, _, _, rfl, htm, rfl, rfl⟩) (fun _ => rfl) hms _ (Perm.subL (cut _)) (Perm.subR (cut _)) (nd1.perm (cut _)).off (Perm.pre (cut _) nd1 S inR) fun y2 v2 s2 hv2 B S2 => ?_
    have nd2 := ((nd1.perm (cut _)).step B.c.nd (fun p hp => ⟨_, S.mem (Perm.subR (cut _) p hp)⟩) B.new).perm (cut _).symm
    have S3 := S2.led fun p hp => (cut _).mem_iff.mp hp
    have hF : Fr g env.locals s2.heap m := ⟨F.ns.at' fun o e => B.keep _ o e fun hm => ?_, S2.keep, F.above⟩
    · obtain ⟨h2, g2, d2, t2, o2⟩ := s2
      obtain ⟨a1, a2, a3⟩ := S3.same
      obtain ⟨b1, b2, b3⟩ := same
      dsimp only at a1 a2 a3 hF
      refine ⟨h2, t2, (al, listOf its.toArray 0) :: (ctlLed sdc y2 ++ R), by rw [a1, a2, a3, b1, b2, b3], hF, S3.N, LCg.Off3.of fun p hp => ⟨?_, ?_, ?_⟩, .inr ⟨_, .head _, rfl, _, rfl⟩, ?_⟩
      · exact ND.offI nd2 p (.tail _ (.tail _ hp))
      · exact ND.offI (List.nodup_cons.mp nd2).2 p (.tail _ hp)
      · exact ND.offI (List.nodup_cons.mp (List.nodup_cons.mp nd2).2).2 p hp
      · refine ih (i + 1) (ys ++ [v2]) (zs ++ [(askA ρ σ rec grp 64 t).2.2]) _ _ y2 t (n + 1) (by rw [← List.tail_drop, ← hts]; rfl) (by omega) hg2 (by omega) hup.2 B.c (List.nodup_cons.mp (List.nodup_cons.mp (List.nodup_cons.mp nd2).2).2).2 ?_ fun ys' y' e1 e2 e3 => hf ys' y' ?_ e2 e3
        · obtain ⟨t3, rfl⟩ := hv2
          exact hys.append' (.cons _ _ .nil)
        · rw [List.append_assoc] at e1; exact e1
    · obtain ⟨p, hp, e⟩ := List.mem_map.mp hm
      exact (N p (Perm.subL (cut _) p hp)).2.1 e

theorem off1_mem {D : Addr} : ∀ {l : Led}, LCg.Off1 D l → ∀ p ∈ l, @Ne Nat p.1 D
  | [], _, _, h => nomatch h
  | _ :: _, x, p, h => by
    rcases List.mem_cons.mp h with rfl | h
    · exact x.1
    · exact off1_mem x.2 p h
theorem ints_of_pvs : ∀ {ns : List Int} {us : List Value}, PvsAre (ns.map PV.int) us → IntsAre us ns
  | [], _, h => by cases h; exact .nil
  | n :: r, _, h => by obtain ⟨v, t, rfl, ⟨tk, rfl⟩, h⟩ := h; exact .cons _ _ (ints_of_pvs h)
theorem ev_asks {w : World} {A : Around} {env : Env} {g : Heap} {d : Nat} {sc sc2 : Scope} {s₀ s : Shared} {lm : Lm} {cl : List (Str × Addr)} {c cx sdc Dc cd : Addr} {oc occ : Obj} {cv : Value} {rec : Int} {xc : TXs} {RO R : Led} {ts : List Int} {es : List PySem.Expr} {k1 k2 k3 : Nat} {p1 p2 p3 p4 p5 p6 p7 px lp pos : Pos} {ρ : Rho} {σ : Sig} {y : CSt} {now : Int} {n : Nat} (C : Cx w A env g d sc) (hd : 5 ≤ d) (hR : CtlRO w RO cx Dc sdc rec xc cd occ) (hRm : ∀ p ∈ RO, p ∈ R) (hcm : (c, oc) ∈ R) (hoc : oc.data = .cell (some cv)) (hcv : (PV.ref cx).is cv)
    (q0 : closureFor sc2 env = pure cl) (q1 : ∀ Ca, (compEnvC sc2 cl Ca env).scope.kind = .function) (q2 : ∀ Ca, (compEnvC sc2 cl Ca env).kindOf (Str.ofString "control") = some .cell) (q3 : ∀ Ca, (compEnvC sc2 cl Ca env).cells.lookup (Str.ofString "control") = some c) (q4 : ∀ Ca, (compEnvC sc2 cl Ca env).kindOf (Str.ofString "time") = some .local) (q5 : ∀ Ca, (compEnvC sc2 cl Ca env).locals = Ca)
    (hms : MethShape (.Name (Str.ofString "control") p1) (Str.ofString "asked") p2 [.Constant (.int 1) k1 p3, .Constant (.str (Str.ofString "group")) k2 p4, .Constant (.int 64) k3 p5, .Name (Str.ofString "time") p6] p7)
    (hcell : ∀ y ∈ sc2.names, y.2 ≠ .cell) (hkind : sc2.kind = .function) (hnames : ∀ y ∈ sc2.names, y.2 = .local → sc2.names.lookup y.1 = some .local) (hx : sc2.names.lookup (Str.ofString "time") = some .local) (hs : ∀ y, foldedSetIterable (.List es lp) env y = pure y)
    (S : S1 g env s₀ s lm (ctlLed sdc y ++ R)) (nd : ND (ctlLed sdc y ++ R)) (hps : PuL w A env s es (ts.map .int)) (hn : n + ts.length ≤ 50) (hg : Good n now ρ) (hz : σ.length ≤ n) (hup : Up now ts) (st : St w (okC w) xc sdc ρ σ y) :
    Ev w A env g s₀ s lm (.ListComp (askE k1 k2 k3 p1 p2 p3 p4 p5 p6 p7) [⟨.Name (Str.ofString "time") px, .List es lp, [], 0⟩] sc2 pos) (fun (z : Addr × List Value × CSt) _ => StrsAre z.2.1 (runA rec grp 64 ρ σ ts).2.2 ∧ St w (okC w) xc sdc (runA rec grp 64 ρ σ ts).1 (runA rec grp 64 ρ σ ts).2.1 z.2.2 ∧ ND ((z.1, LCg.lst z.2.1) :: (ctlLed sdc z.2.2 ++ R))) (fun z => .ref z.1) (fun z => (z.1, LCg.lst z.2.1) :: (ctlLed sdc z.2.2 ++ R)) := fun Q E k => by
  obtain ⟨m, F, hlm⟩ := S.fr
  refine LCg.ListComp_U F q0 hcell hkind hnames hx (List_ (hps.go (tk := s.toks) fun vs tk hvs => ?_)) hs
  have hi := ints_of_pvs hvs
  have hlen : vs.length = ts.length := hi.length
  refine newList_N (s := { s with toks := tk }) F S.N (fun h' F' N' => LCg.CompSrc.ledger C.hand F' N' (.head _) (by rw [List.size_toArray, hlen, sizeLine_eq]; omega) fun g2 => ?_) (by rw [hlen, sizeLine_eq]; omega)
  have nda : ND ((s.heap.objs.size, listOf vs.toArray 0) :: (ctlLed sdc y ++ R)) := ND.cons nd fun p hp => S.ne (Heap.get?_none_of_le (Nat.le_refl _)) (o := p.2) hp
  have := rest_ask (s₂ := { s with heap := g2, toks := tk }) (its := vs) (tsA := ts) (Fin := LCg.FinE g env.locals m { s with heap := g2, toks := tk } Q) (k1 := k1) (k2 := k2) (k3 := k3) (p1 := p1) (p2 := p2) (p3 := p3) (p4 := p4) (p5 := p5) (p6 := p6) (p7 := p7) (al := s.heap.objs.size) C hd hR hRm hcm hoc hcv hlm S.same hi q1 q2 q3 q4 q5 hms ts 0 [] [] ρ σ y now n rfl hn hg hz hup st nda .nil fun ys y' e1 e2 e3 => fun D h tk3 F3 N3 off => k (D, ys, y') _ _ rfl ⟨by simpa using e1, e2, ND.cons (List.nodup_cons.mp e3).2 fun p hp => (off1_mem off p (.tail _ hp)).symm⟩ ⟨⟨m, F3, hlm⟩, cb_drop N3 (List.forall_mem_cons.mpr ⟨.head _, fun p hp => .tail _ (.tail _ hp)⟩), S.same⟩
  rw [show vs.toArray.size = ts.length by rw [List.size_toArray, hlen]]
  exact this

section
variable {w : World} {A : Around} {env : Env} {g : Heap} {d d' : Nat} {sc : Scope} {s₀ s : Shared} {lm : Lm} {all news kp : Led} {x : Str} {xpos x1 p1 lp pos : Pos} {ps : List PV} {e0 : PySem.Expr} {es : List PySem.Expr} {K fI : Addr} {β : Type} {Cc : Addr → Addr → β → Prop} {fn : Addr → Addr → β → Led} {vs : List Value} {Q E : Value → Shared → Prop}
theorem callMk (Sp : ∀ x dx, @LT.lt Nat _ dx x → (∀ p ∈ news, p.1 < dx) → SpecV w d' fI (.ref x :: ps) [] ((x, instObj K dx) :: (dx, dictOf [] 0) :: news) (Cc x dx) (fun _ => .none) (fn x dx)) (C : Cx w A env g d sc) (hdd : d' + 1 ≤ d) (S : S1 g env s₀ s lm all) (hm : makesIn (Mine.pre.heap_1 w.params) K = true) (hi : findIn (Mine.pre.heap_1 w.params) (.ref K) "__init__" = some (some (.ref fI))) (hf : isFn (Mine.pre.heap_1 w.params) (.ref fI) = true) (hvs : PvsAre ps vs)
    (rest : Led) (sub : ∀ p ∈ news, p ∈ all) (hr : ∀ p ∈ rest, p ∈ all) (off : ∀ p ∈ rest, p.1 ∉ news.map (·.1)) (k : ∀ y s'', Mk news all Cc fn y → S1 g env s₀ s'' lm (fn y.1 y.2.1 y.2.2 ++ rest) → Q (.ref y.1) s'') : wpAny (model PR w) A (call (.ref K) vs) Q E s := by
  obtain ⟨⟨m, F, hlm⟩, N, same⟩ := id S
  refine call_cls F C.X N hm hi hf fun x dx h' F' N' hlt hxd => ?_
  have S' : S1 g env s₀ { s with heap := h' } lm ((x, instObj K dx) :: (dx, dictOf [] 0) :: all) := ⟨⟨m, F', hlm⟩, N', same⟩
  have hxd' : ∀ p ∈ all, p.1 < x := fun p hp => Nat.lt_trans (hlt p hp) hxd
  refine Sp x dx hxd (fun p hp => hlt p (sub p hp)) _ env g sc lm s₀ _ _ _ (C.under hdd) (S'.led fun p hp => ?_) ⟨.ref x, vs, rfl, rfl, hvs⟩ (fun _ h => nomatch h) fun y v s'' hc hv S'' K' D' => ⟨hv, k (x, dx, y) s'' ⟨hc, hlt, hxd, fun p hp => ?_⟩ ⟨S''.fr, fun p hp => (List.mem_append.mp hp).elim (S''.N p) fun hp => ?_, S''.same⟩⟩
  · rcases List.mem_cons.mp hp with rfl | hp
    · exact .head _
    · rcases List.mem_cons.mp hp with rfl | hp
      · exact .tail _ (.head _)
      · exact .tail _ (.tail _ (sub p hp))
  · rcases D' p hp with h | h
    · rcases List.mem_cons.mp h with h | h
      · exact .inr fun q hq => h ▸ Nat.ne_of_lt (hxd' q hq)
      · rcases List.mem_cons.mp h with h | h
        · exact .inr fun q hq => h ▸ Nat.ne_of_lt (hlt q hq)
        · exact .inl h
    · exact .inr fun q hq z => by
        have := (N' q (.tail _ (.tail _ hq))).1
        rw [z] at this; exact absurd (h.symm.trans this) (fun e => nomatch e)
  · have z := N' p (.tail _ (.tail _ (hr p hp)))
    refine ⟨K' _ _ z.1 fun h => ?_, z.2⟩
    rcases List.mem_cons.mp h with h | h
    · exact Nat.ne_of_lt (hxd' p (hr p hp)) h
    · rcases List.mem_cons.mp h with h | h
      · exact Nat.ne_of_lt (hlt p (hr p hp)) h
      · exact off p hp h
noncomputable def fR : Rw := newR 0 1 true (some 1)
noncomputable def fRho : Rho := setR (fun _ => none) grp fR
noncomputable def cFn (y : CtlR) (e : En) : Led := y.2.2.2.2.2.1 ++ ctlLed y.2.1 (y.2.2.2.1, [(grp, e)])
/-- `StormControl([StormRow(..)])` -/
theorem ev_mk (C : Cx w A env g d sc) (hd : 4 ≤ d) (S : S1 g env s₀ s lm kp) (nd : ND kp) (hk : sc.names.lookup (Str.ofString "StormControl") = some .globalImplicit) (hk2 : sc.names.lookup (Str.ofString "StormRow") = some .globalImplicit) (ha : ∀ s, PuL w A env s (e0 :: es) [.int 1, .str (Str.ofString "group"), .int 0, .int 1, .bool true, .int 1]) (hp : ∀ en pos, (backTo pos (starEach es en)).any (·.1) = false)
    (h1 : starEach [.Call (.Name (Str.ofString "StormRow") x1) (e0 :: es) [] p1] env = (false, eval (.Call (.Name (Str.ofString "StormRow") x1) (e0 :: es) [] p1) env) :: starEach [] env) (h2 : starEach [.List [.Call (.Name (Str.ofString "StormRow") x1) (e0 :: es) [] p1] lp] env = (false, eval (.List [.Call (.Name (Str.ofString "StormRow") x1) (e0 :: es) [] p1] lp) env) :: starEach [] env) :
    Ev w A env g s₀ s lm (.Call (.Name (Str.ofString "StormControl") xpos) [.List [.Call (.Name (Str.ofString "StormRow") x1) (e0 :: es) [] p1] lp] [] pos) (fun (z : Addr × En × CtlR) _ => CtlOk w z.1 0 fRho [(grp, z.2.1)] z.2.2 ∧ ND (cFn z.2.2 z.2.1 ++ kp)) (fun z => .ref z.1) (fun z => cFn z.2.2 z.2.1 ++ kp) := fun Q E k => by
  refine Call_ (Pu.glob (p := .ref 212) C S (by k_is) rfl hk (by decide) _ _ s.toks fun u tk hu => ?_)
  cases hu
  have Sb := S.tok tk
  have row := ev_cls (xpos := x1) (pos := p1) (news := []) (fun x dx h _ => row_init w x dx h grp (by decide) 0 1 true (some 1) (by decide) (by decide) _ [] [] (.inl ⟨rfl, rfl, rfl⟩)) C hd Sb (by k_is) (by k_is) (by k_is) (by k_is) hk2 (by k_is) (ha _) (fun en => hp en _) kp (fun _ h => nomatch h) (fun _ h => h) (fun _ _ h => nomatch h)
  refine callWith_K C.X (by k_is) (args_cons (List_ (args_cons (row _ _ fun y1 v1 s1 hv1 hc1 Sx => args_nil ?_) h1)) h2) h2 rfl
  obtain ⟨x1, dx1, e1⟩ := y1
  obtain ⟨⟨c11, c12, c13⟩, _, _, c14⟩ := hc1
  dsimp only at c11 c12 c13 c14 Sx
  have hv1 : v1 = .ref e1.ad := hv1.trans (congrArg Value.ref c12.symm)
  subst hv1
  obtain ⟨⟨m, F, hm⟩, N, same⟩ := id Sx
  refine newList_N F N (fun h' F' N' => args_nil ⟨C.X.keeps F'.keep, ?_⟩) (by rw [sizeLine_eq]; exact Nat.le_of_ble_eq_true rfl)
  have hl : ∀ p ∈ e1.led ++ kp, @Ne Nat s1.heap.objs.size p.1 := fun p hp => Sx.ne (Heap.get?_none_of_le (Nat.le_refl _)) (o := p.2) hp
  have f1 : ∀ p ∈ e1.led, ∀ q ∈ kp, @Ne Nat q.1 p.1 := fun p hp => (c14 p hp).elim (fun h => nomatch h) id
  have hE : ledK [(s1.heap.objs.size, listOf (rowsOf [(grp, e1)]).toArray 0)] [(grp, e1)] = (s1.heap.objs.size, listOf #[.ref e1.ad] 0) :: e1.led := by
    simp [ledK, rowsOf]
  have nda : ND (((s1.heap.objs.size, listOf #[.ref e1.ad] 0) :: e1.led) ++ kp) := by
    refine ND.cons (ND.step2 (a := []) nd c13 fun p hp => .inr (f1 p hp)) hl
  have S3 : S1 g env s₀ { s1 with heap := h' } lm (((s1.heap.objs.size, listOf #[.ref e1.ad] 0) :: e1.led) ++ kp) := ⟨⟨m, F', hm⟩, N', same⟩
  have hrel : Rel (okC w) fRho [(grp, e1)] := Rel.add (es := []) (ρ := fun _ => none) (fun _ => rfl) (by simp) c11
  refine callMk (fun x dx h hfar => ctl_init w x dx h s1.heap.objs.size 0 [(grp, e1)] fRho hrel (by simp) (by simp) (hE ▸ nda.l) hfar 0 [.ref x, .ref s1.heap.objs.size] [.int 0 424] [.int 0] (.inr ⟨rfl, rfl, rfl, rfl⟩)) C (by omega) S3 (by k_is) (by k_is) (by k_is) ⟨_, _, rfl, rfl, rfl⟩ kp (fun p hp => List.mem_append_left _ (hE ▸ hp)) (fun p hp => List.mem_append_right _ hp) (by rw [hE]; exact nda.off) fun y s'' hy S'' => ?_
  refine k (y.1, e1, y.2.2) _ s'' rfl ⟨hy.1, ?_⟩ S''
  rw [← hE] at nda
  exact nda.step2 hy.1.2.2 fun p hp => (hy.2.2.2 p hp).imp id fun h q hq => h q (List.mem_append_right _ hq)
end

theorem r_asks {w : World} {A : Around} {env : Env} {g : Heap} {d : Nat} {sc sc2 : Scope} {s₀ s : Shared} {lm : Lm} {cl : List (Str × Addr)} {c cx sdc Dc cd : Addr} {oc occ : Obj} {cv : Value} {rec : Int} {xc : TXs} {RO R : Led} {ts : List Int} {es : List PySem.Expr} {k1 k2 k3 : Nat} {p1 p2 p3 p4 p5 p6 p7 px lp pos : Pos} {ρ : Rho} {σ : Sig} {y : CSt} {now : Int} {n : Nat} {x : Str} {py spos : Pos} {rest : List Stmt} {Q : Flow → Shared → Prop} {E : Value → Shared → Prop} (C : Cx w A env g d sc) (hd : 5 ≤ d) (hR : CtlRO w RO cx Dc sdc rec xc cd occ) (hRm : ∀ p ∈ RO, p ∈ R) (hcm : (c, oc) ∈ R) (hoc : oc.data = .cell (some cv)) (hcv : (PV.ref cx).is cv)
    (q0 : closureFor sc2 env = pure cl) (q1 : ∀ Ca, (compEnvC sc2 cl Ca env).scope.kind = .function) (q2 : ∀ Ca, (compEnvC sc2 cl Ca env).kindOf (Str.ofString "control") = some .cell) (q3 : ∀ Ca, (compEnvC sc2 cl Ca env).cells.lookup (Str.ofString "control") = some c) (q4 : ∀ Ca, (compEnvC sc2 cl Ca env).kindOf (Str.ofString "time") = some .local) (q5 : ∀ Ca, (compEnvC sc2 cl Ca env).locals = Ca)
    (hms : MethShape (.Name (Str.ofString "control") p1) (Str.ofString "asked") p2 [.Constant (.int 1) k1 p3, .Constant (.str (Str.ofString "group")) k2 p4, .Constant (.int 64) k3 p5, .Name (Str.ofString "time") p6] p7)
    (hcell : ∀ y ∈ sc2.names, y.2 ≠ .cell) (hkind : sc2.kind = .function) (hnames : ∀ y ∈ sc2.names, y.2 = .local → sc2.names.lookup y.1 = some .local) (hx : sc2.names.lookup (Str.ofString "time") = some .local) (hs : ∀ y, foldedSetIterable (.List es lp) env y = pure y)
    (S : S1 g env s₀ s lm (ctlLed sdc y ++ R)) (nd : ND (ctlLed sdc y ++ R)) (hps : PuL w A env s es (ts.map .int)) (hn : n + ts.length ≤ 50) (hg : Good n now ρ) (hz : σ.length ≤ n) (hup : Up now ts) (st : St w (okC w) xc sdc ρ σ y)
    (hx1 : sc.names.lookup x = some .local) (hsw : swapsWith (.ListComp (askE k1 k2 k3 p1 p2 p3 p4 p5 p6 p7) [⟨.Name (Str.ofString "time") px, .List es lp, [], 0⟩] sc2 pos) (some (.Name x py)) spos.line env = pure true)
    (k : ∀ (z : Addr × List Value × CSt) s', (StrsAre z.2.1 (runA rec grp 64 ρ σ ts).2.2 ∧ St w (okC w) xc sdc (runA rec grp 64 ρ σ ts).1 (runA rec grp 64 ρ σ ts).2.1 z.2.2 ∧ ND ((z.1, LCg.lst z.2.1) :: (ctlLed sdc z.2.2 ++ R))) → S1 g env s₀ s' ((x, .ref z.1) :: lm) ((z.1, LCg.lst z.2.1) :: (ctlLed sdc z.2.2 ++ R)) → wpAny (model PR w) A (execs rest env) Q E s') :
    wpAny (model PR w) A (execs (.Assign [.Name x py] (.ListComp (askE k1 k2 k3 p1 p2 p3 p4 p5 p6 p7) [⟨.Name (Str.ofString "time") px, .List es lp, [], 0⟩] sc2 pos) spos :: rest) env) Q E s := by
  obtain ⟨m, F, hlm⟩ := S.fr
  refine wpAny_execs_cons (LCg.Assign_ListComp_U F rfl hsw q0 hcell hkind hnames hx (by obtain ⟨cn, L, a, ccd, cl, rfl⟩ := C.eX; exact hx1) (by obtain ⟨cn, L, a, ccd, cl, rfl⟩ := C.eX; show (sc.kind == .class || (sc.kind == .module && L != mainGlobals)) = false; rw [C.kind]; rfl) (List_ (hps.go (tk := s.toks) fun vs tk hvs => ?_)) hs)
  have hi := ints_of_pvs hvs
  have hlen : vs.length = ts.length := hi.length
  refine newList_N (s := { s with toks := tk }) F S.N (fun h' F' N' => LCg.CompSrc.ledger C.hand F' N' (.head _) (by rw [List.size_toArray, hlen, sizeLine_eq]; omega) fun g2 => ?_) (by rw [hlen, sizeLine_eq]; omega)
  have nda : ND ((s.heap.objs.size, listOf vs.toArray 0) :: (ctlLed sdc y ++ R)) := ND.cons nd fun p hp => S.ne (Heap.get?_none_of_le (Nat.le_refl _)) (o := p.2) hp
  have := rest_ask (s₂ := { s with heap := g2, toks := tk }) (its := vs) (tsA := ts) (Fin := LCg.FinA g env.locals m { s with heap := g2, toks := tk } x (fun f s' => match f with | .next => wpAny (model PR w) A (execs rest env) Q E s' | f => Q f s')) (k1 := k1) (k2 := k2) (k3 := k3) (p1 := p1) (p2 := p2) (p3 := p3) (p4 := p4) (p5 := p5) (p6 := p6) (p7 := p7) (al := s.heap.objs.size) C hd hR hRm hcm hoc hcv hlm S.same hi q1 q2 q3 q4 q5 hms ts 0 [] [] ρ σ y now n rfl hn hg hz hup st nda .nil fun ys y' e1 e2 e3 => fun D h tk3 F3 N3 off => k (D, ys, y') _ ⟨by simpa using e1, e2, ND.cons (List.nodup_cons.mp e3).2 fun p hp => (off1_mem off p (.tail _ hp)).symm⟩ (S1.put (s := { s with heap := h, toks := tk3 }) hlm rfl F3 (cb_drop N3 (List.forall_mem_cons.mpr ⟨.head _, fun p hp => .tail _ (.tail _ hp)⟩)) S.same)
  rw [show vs.toArray.size = ts.length by rw [List.size_toArray, hlen]]
  exact this
theorem TEv.wk {w : World} {A : Around} {env : Env} {g : Heap} {s₀ s : Shared} {lm : Lm} {e : PySem.Expr} {α : Type} {C C' : α → Shared → Prop} {t : α → Bool} {fn : α → Led} (h : TEv w A env g s₀ s lm e C t fn) (hc : ∀ y s', C y s' → C' y s') : TEv w A env g s₀ s lm e C' t fn := fun Q E k => h Q E fun y s' c S => k y s' (hc y s' c) S
structure Fx (stp : Int) (due : Str) : Prop where
  f1 : (runA 0 grp 64 fRho [] [0, 5, 5 + stp]).2.2 = [Str.ofString "let", Str.ofString "drop", due]
  f2 : ((expS (runA 0 grp 64 fRho [] [0, 5, 5 + stp]).2.1 0 1 400).lookup 1).isSome = (due == Str.ofString "shut")
  f3 : PySem.SeqAt.shaped (.list ([Str.ofString "let", Str.ofString "drop", due].map PyData.str)) = true
  f4 : PySem.SeqAt.noMix (.list ([Str.ofString "let", Str.ofString "drop", due].map PyData.str)) (.list ([Str.ofString "let", Str.ofString "drop", due].map PyData.str)) = true
  f5 : PySem.Spec.same (.list ([Str.ofString "let", Str.ofString "drop", due].map PyData.str)) (.list ([Str.ofString "let", Str.ofString "drop", due].map PyData.str)) = true
  f6 : (runA 0 grp 64 fRho [] [0, 5, 5 + stp]).2.1.length ≤ 100
  f7 : 0 ≤ stp
theorem fx1 : Fx 100 (Str.ofString "drop") := ⟨rfl, rfl, by kernel_rfl, by kernel_rfl, by kernel_rfl, by decide, by decide⟩
theorem fx2 : Fx 99 (Str.ofString "shut") := ⟨rfl, rfl, by kernel_rfl, by kernel_rfl, by kernel_rfl, by decide, by decide⟩
theorem fgood : Good 0 0 fRho := Good.set (fun _ _ h => nomatch h) ⟨by decide, by decide, by decide, by decide, fun _ _ _ => rfl, Nat.le_refl _, Nat.le_refl _⟩
theorem fixed_v (w : World) : SpecV w 9 269 [] [] [] (fun (_ : Unit) => True) (fun _ => .bool true) (fun _ => []) := by
  refine specV_of0 (Str.ofString "control") rfl (by k_is) (fun s => BindsTo.of_eq rfl) (fun _ => rfl) rfl rfl rfl fun A env g s Q E c o pE hQ C he ho S => ?_
  have hu : A.units + 64 < cLine := by have := C.un; omega
  have S0 := S
  obtain ⟨m, F, hlm⟩ := S.fr
  refine wpAny_execs_cons (wpAny_mono (For_turns (Q := Then w A env _ Q E) F ?_ (fun _ => rfl) pE) (fun f s' h => by cases f <;> exact h) fun _ _ h => h)
  refine List_ (args_cons (ev_tup S (ps := [.int 100, .str (Str.ofString "drop")]) (by exact ⟨_, _, rfl, Pu.int, rfl, _, _, rfl, Pu.str, rfl, rfl⟩) (Nat.le_of_ble_eq_true rfl) _ _ fun y1 v1 s1 hv1 hc1 Sa => args_cons (ev_tup Sa (ps := [.int 99, .str (Str.ofString "shut")]) (by exact ⟨_, _, rfl, Pu.int, rfl, _, _, rfl, Pu.str, rfl, rfl⟩) (Nat.le_of_ble_eq_true rfl) _ _ fun y2 v2 s2 hv2 hc2 Sb => args_nil ?_) rfl) rfl)
  obtain ⟨T1, us1⟩ := y1
  obtain ⟨T2, us2⟩ := y2
  obtain ⟨hu1, n1⟩ := hc1
  obtain ⟨hu2, n2⟩ := hc2
  have hv1 : v1 = .ref T1 := hv1
  have hv2 : v2 = .ref T2 := hv2
  subst hv1; subst hv2
  dsimp only at Sa Sb hu1 hu2
  have a1 := S0.ne n1 (.head _)
  have a2 := Sa.ne n2 (.head _)
  have a3 := Sa.ne n2 (.tail _ (.head _))
  obtain ⟨m2, F2, _⟩ := Sb.fr
  have N2 := Sb.N
  have same := Sb.same
  refine newList_N F2 N2 (fun h' F3 N3 => ?_) (by rw [sizeLine_eq]; exact Nat.le_of_ble_eq_true rfl)
  have hl : ∀ p ∈ [(T2, ({ cls := .type "tuple", data := .seq us2.toArray } : Obj)), (T1, { cls := .type "tuple", data := .seq us1.toArray }), (c, o)], @Ne Nat s2.heap.objs.size p.1 := fun p hp => Sb.ne (Heap.get?_none_of_le (Nat.le_refl _)) (o := p.2) hp
  have gl : g.get? s2.heap.objs.size = none := (N3 _ (.head _)).2.2
  have ll : @Ne Nat s2.heap.objs.size env.locals := (N3 _ (.head _)).2.1
  have hls : ({ s2 with heap := h' } : Shared).heap.IsList s2.heap.objs.size #[.ref T1, .ref T2] := ⟨_, (N3 _ (.head _)).1, rfl, _, rfl⟩
  generalize s2.heap.objs.size = l at hls hl gl ll N3
  have hlt : @LT.lt Nat _ l h'.objs.size := Heap.lt_size (N3 _ (.head _)).1
  refine wpAny_pyIter_list hls ?_
  have hI : ∀ b o, h'.get? b = some o → @Ne Nat b h'.objs.size := fun b o e => Nat.ne_of_lt (Heap.lt_size e)
  have gI := next_is_new F3
  have W := Walks.list (prog := PR) (w := w) C.hand h'.objs.size l (Nat.ne_of_lt hlt) #[.ref T1, .ref T2]
  refine ⟨h'.objs.size, _, _, 2, _, _, _, m2, [(T2, { cls := .type "tuple", data := .seq us2.toArray }), (T1, { cls := .type "tuple", data := .seq us1.toArray }), (c, o)], fun _ _ nx => ∃ o' v₀, nx = [(T2, { cls := .type "tuple", data := .seq us2.toArray }), (T1, { cls := .type "tuple", data := .seq us1.toArray }), (c, o')] ∧ o'.data = .cell v₀, rfl, KTurns.ofWalks W (fun i v s Q E st q => ?_), fun hm => ?_, fun b hb => ?_, fun p hp hm => ?_, ⟨⟨_, Heap.get?_push_size _ rfl, rfl, rfl⟩, hls.at fun o e => Heap.get?_push_of_some _ e⟩, F3.push _, fun p hp => ⟨Heap.get?_push_of_some _ (N3 p (.tail _ hp)).1, (N3 p (.tail _ hp)).2⟩, ⟨o, none, rfl, ho⟩, ?_, ?_⟩
  · cases v with
    | ref T => exact wpAny_letOwnedTupleGo_listiter st.1 q
    | _ => unfold letOwnedTupleGo; exact wpAny_pure q
  · rcases List.mem_cons.mp hm with e | hm
    · exact absurd F3.ns.lt (e ▸ Nat.lt_irrefl _)
    · exact ll (List.mem_singleton.mp hm).symm
  · rw [List.mem_singleton.mp hb]; exact gI
  · exact hI _ _ (N3 p (.tail _ hp)).1 (List.mem_singleton.mp hm)
  rotate_left
  · rintro h2 tk2 m' nx F4 N4 _ ⟨o', v₀, rfl, _⟩
    have S5 : S1 g env s { s2 with heap := h2, toks := tk2 } [] [(T2, { cls := .type "tuple", data := .seq us2.toArray }), (T1, { cls := .type "tuple", data := .seq us1.toArray }), (c, o')] := ⟨⟨m', F4, fun _ _ h => by cases h⟩, N4, same⟩
    exact r_ret (Pu.bool.ev S5) fun _ v s' hv _ S => hQ _ _ ⟨(), _, trivial, hv, S.led fun _ h => nomatch h⟩
  rintro i v m₁ nx h₁ tk₁ own hi hP ⟨o', v₀, rfl, ho'⟩ hnw hown hget hall hst F₁ N₁
  obtain ⟨⟨oI, hoI, _⟩, ⟨oL, hoL, _⟩⟩ := id hst
  have iI := hall _ (.head _) gI _ hoI
  have iL := hall _ (.tail _ (.head _)) gl _ hoL
  have hkp : ∀ p ∈ own, p = (h'.objs.size, oI) ∨ p = (l, oL) := fun p hp => by
    have e := hget p hp
    rcases List.mem_cons.mp (hown p hp) with z | z
    · rw [z] at e; exact .inl (Prod.ext z (Option.some.inj (e.symm.trans hoI)))
    · have z := List.mem_singleton.mp z
      rw [z] at e; exact .inr (Prod.ext z (Option.some.inj (e.symm.trans hoL)))
  have ndk : ∀ o', ND [(h'.objs.size, oI), (l, oL), (T2, { cls := .type "tuple", data := .seq us2.toArray }), (T1, { cls := .type "tuple", data := .seq us1.toArray }), (c, o')] := fun o' =>
    nodup5 (Nat.ne_of_lt hlt).symm (hI _ _ (N3 _ (.tail _ (.head _))).1).symm (hI _ _ (N3 _ (.tail _ (.tail _ (.head _)))).1).symm (hI _ _ (N3 _ (.tail _ (.tail _ (.tail _ (.head _))))).1).symm (hl _ (.head _)) (hl _ (.tail _ (.head _))) (hl (c, o) (.tail _ (.tail _ (.head _)))) a2 a3 a1
  obtain ⟨stp, due, T, us, hv, hT, hus, fx⟩ : ∃ stp due T us, v = .ref T ∧ (T, ({ cls := .type "tuple", data := .seq us.toArray } : Obj)) ∈ [(T2, ({ cls := .type "tuple", data := .seq us2.toArray } : Obj)), (T1, { cls := .type "tuple", data := .seq us1.toArray }), (c, o')] ∧ PvsAre [.int stp, .str due] us ∧ Fx stp due := by
    have hP : (#[Value.ref T1, .ref T2] : Array Value)[i]? = some v := hP
    rcases i with _ | _ | i
    · cases hP; exact ⟨_, _, T1, us1, rfl, .tail _ (.head _), hu1, fx1⟩
    · cases hP; exact ⟨_, _, T2, us2, rfl, .head _, hu2, fx2⟩
    · omega
  subst hv
  obtain ⟨u1, _, rfl, hw1, u2, _, rfl, hw2, rfl⟩ := hus
  have N1' : News g env.locals h₁ [(h'.objs.size, oI), (l, oL), (T2, { cls := .type "tuple", data := .seq us2.toArray }), (T1, { cls := .type "tuple", data := .seq us1.toArray }), (c, o')] := fun p hp => by
    rcases List.mem_cons.mp hp with rfl | hp
    · exact N₁ _ (List.mem_append_left _ iI)
    · rcases List.mem_cons.mp hp with rfl | hp
      · exact N₁ _ (List.mem_append_left _ iL)
      · exact N₁ _ (List.mem_append_right _ hp)
  have fin : ∀ (s' : Shared) lm o2 v2, S1 g env s s' lm [(h'.objs.size, oI), (l, oL), (T2, { cls := .type "tuple", data := .seq us2.toArray }), (T1, { cls := .type "tuple", data := .seq us1.toArray }), (c, o2)] → o2.data = .cell v2 →
      LoopStepU g env.locals [h'.objs.size] own (fun _ nx => ∃ o' v₀, nx = [(T2, { cls := .type "tuple", data := .seq us2.toArray }), (T1, { cls := .type "tuple", data := .seq us1.toArray }), (c, o')] ∧ o'.data = .cell v₀) { s2 with heap := h₁, toks := tk₁ } .next s' := fun s' lm o2 v2 S5 hd => by
    obtain ⟨⟨m5, F5, _⟩, N5, a1, a2, a3⟩ := S5
    obtain ⟨b1, b2, b3⟩ := same
    obtain ⟨h5, g5, d5, t5, o5⟩ := s'
    dsimp only at a1 a2 a3
    refine ⟨rfl, h5, t5, m5, [(T2, { cls := .type "tuple", data := .seq us2.toArray }), (T1, { cls := .type "tuple", data := .seq us1.toArray }), (c, o2)], by rw [a1, a2, a3, b1, b2, b3], F5, fun p hp => ?_, fun p hp hm => ?_, o2, v2, rfl, hd⟩
    · rcases List.mem_append.mp hp with hp | hp
      · rcases hkp p hp with rfl | rfl
        · exact N5 _ (.head _)
        · exact N5 _ (.tail _ (.head _))
      · exact N5 _ (.tail _ (.tail _ hp))
    · exact ND.offI (ndk o2) p (.tail _ hp) (List.mem_singleton.mp hm)
  have hT2 : IsTup h₁ T #[u1, u2] := ⟨_, (N₁ _ (List.mem_append_right _ hT)).1, rfl, _, rfl⟩
  clear hT hall hget hown hkp iI iL hst hP hls W
  generalize hkk : (h'.objs.size, oI) = eI at *
  generalize (l, oL) = eL at *
  generalize (T2, ({ cls := .type "tuple", data := .seq us2.toArray } : Obj)) = e2 at *
  generalize (T1, ({ cls := .type "tuple", data := .seq us1.toArray } : Obj)) = e1 at *
  refine unpackN_ (s := { s2 with heap := h₁, toks := tk₁ }) F₁ N1' hT2 C.hand rfl rfl fun h6 F6 N6 => ?_
  have S6 : S1 g env s { s2 with heap := h6, toks := tk₁ } [] [eI, eL, e2, e1, (c, o')] := ⟨⟨m₁, F6, fun _ _ h => by cases h⟩, N6, same⟩
  refine assignInOrder_cons (assign_Name (a_name (p := .int stp) C S6 hw1 rfl fun s7 S7 => assignInOrder_cons (assign_Name (a_name (p := .str due) C S7 hw2 rfl fun s8 S8 => assignInOrder_nil ?_))))
  clear S6 S7 hw1 hw2 hT2 N6 F6 N1'
  obtain ⟨cn, L, aa, ccd, rfl⟩ := he
  refine r_setC (cc := c) (o := o') (gg := fun z o2 => cFn z.2.2 z.2.1 ++ [eI, eL, e2, e1, (c, o2)]) C ⟨_, _, _, _, rfl⟩ (ev_mk C (by decide) S8 (ndk o') rfl rfl (fun s => by exact ⟨_, _, rfl, Pu.int, rfl, _, _, rfl, Pu.str, rfl, _, _, rfl, Pu.int, rfl, _, _, rfl, Pu.int, rfl, _, _, rfl, Pu.bool, rfl, _, _, rfl, Pu.int, rfl, rfl⟩) (fun _ _ => rfl) rfl rfl) (fun z s' hc _ => ?_) ho' rfl (fun _ => rfl) fun z v s' s'' o2 hc hv hd S9 => ?_
  · have := UpdF.mid (pre := cFn z.2.2 z.2.1 ++ [eI, eL, e2, e1]) (post := []) (dx := c) (o := o') (by simpa [List.append_assoc] using hc.2)
    simpa [List.append_assoc] using this
  clear S8
  obtain ⟨cx, e, Dc, sdc, occ, soc, xc, RO, cd⟩ := z
  obtain ⟨⟨hR, hst, hnd⟩, ndw⟩ := hc
  have hv : (PV.ref cx).is v := hv
  have P : (cFn (Dc, sdc, occ, soc, xc, RO, cd) e ++ [eI, eL, e2, e1, (c, o2)]).Perm (ctlLed sdc (soc, [(grp, e)]) ++ (RO ++ [eI, eL, e2, e1, (c, o2)])) := by
    unfold cFn
    rw [List.append_assoc]
    exact List.perm_append_comm_assoc ..
  have ndw : ND (cFn (Dc, sdc, occ, soc, xc, RO, cd) e ++ [eI, eL, e2, e1, (c, o2)]) := ND.same (a := cFn (Dc, sdc, occ, soc, xc, RO, cd) e ++ [eI, eL, e2, e1, (c, o')]) ndw (by simp only [List.map_append, List.map_cons])
  have nd2 := ndw.perm P
  have S9 := S9.led fun p hp => P.mem_iff.mpr hp
  have kin : ∀ p ∈ [eI, eL, e2, e1, (c, o2)], p ∈ RO ++ [eI, eL, e2, e1, (c, o2)] := fun p hp => List.mem_append_right _ hp
  refine r_asks (c := c) (oc := o2) (cv := v) (ts := [0, 5, 5 + stp]) (ρ := fRho) (σ := []) (y := (soc, [(grp, e)])) (now := 0) (n := 0) (cl := [(Str.ofString "control", c)]) C (by decide) hR (fun p hp => List.mem_append_left _ hp) (kin _ (.tail _ (.tail _ (.tail _ (.tail _ (.head _)))))) hd hv (by with_unfolding_all rfl) (fun _ => rfl) (fun _ => rfl) (fun _ => rfl) (fun _ => rfl) (fun _ => rfl) (fun _ => ⟨_, rfl⟩) (by decide) rfl (by decide) rfl (fun _ => rfl) S9 nd2 (by exact ⟨_, _, rfl, Pu.int, rfl, _, _, rfl, Pu.int, rfl, _, _, rfl, Pu.add Pu.int (Pu.name C S9 rfl rfl rfl), rfl, rfl⟩) (Nat.le_of_ble_eq_true rfl) fgood (Nat.zero_le _) ⟨by decide, by decide, by have := fx.f7; omega, trivial⟩ hst rfl (by with_unfolding_all rfl) fun z s hz S => ?_
  clear S9 nd2 hst ndw P hnd
  obtain ⟨sl, ys, y3⟩ := z
  obtain ⟨hys, st3, nd3⟩ := hz
  dsimp only at hys st3 nd3 S
  rw [fx.f1] at hys
  have sh := is_shut_v hR _ _ y3 st3 fx.f6 1 400
  rw [fx.f2] at sh
  have cut : ((sl, LCg.lst ys) :: (ctlLed sdc y3 ++ (RO ++ [eI, eL, e2, e1, (c, o2)]))).Perm (ctlLed sdc y3 ++ ((sl, LCg.lst ys) :: (RO ++ [eI, eL, e2, e1, (c, o2)]))) := List.perm_middle.symm
  have hcm : ∀ {X : Led}, (c, o2) ∈ (sl, LCg.lst ys) :: (X ++ (RO ++ [eI, eL, e2, e1, (c, o2)])) := .tail _ (List.mem_append_right _ (kin _ (.tail _ (.tail _ (.tail _ (.tail _ (.head _)))))))
  have inR : ∀ p ∈ RO, p ∈ (sl, LCg.lst ys) :: (RO ++ [eI, eL, e2, e1, (c, o2)]) := fun p hp => .tail _ (List.mem_append_left _ hp)
  refine r_ifE (TEv.orE (f2 := fun (_ : Unit) (y : CSt) => ctlLed sdc y ++ ((sl, LCg.lst ys) :: (RO ++ [eI, eL, e2, e1, (c, o2)]))) (C2 := fun _ _ _ => True) (TEv.neL (ys := [Str.ofString "let", Str.ofString "drop", due]) S (Pu.name C S rfl rfl rfl) (.head _) hys (by exact ⟨_, _, rfl, Pu.str, rfl, _, _, rfl, Pu.str, rfl, _, _, rfl, (Pu.name C S rfl rfl rfl), rfl, rfl⟩) (Nat.le_of_ble_eq_true rfl) hu fx.f3 fx.f4 fx.f5 rfl) fun _ s' _ S => TEv.wk (TEv.neB (z := (due == Str.ofString "shut")) (ev_meth sh C (Nat.le_of_ble_eq_true rfl) S (Pu.cell S rfl rfl rfl hcm hd hv) (hR.ins fun q hq => S.mem (Perm.subR cut q (inR q hq))) hR.d rfl (me212_is_shut w) (by exact ⟨_, _, rfl, Pu.int, rfl, _, _, rfl, Pu.int, rfl, rfl⟩) (fun _ => rfl) (fun _ => ⟨_, rfl⟩) _ (Perm.subL cut) (Perm.subR cut) (nd3.perm cut).off (Perm.pre cut nd3 S inR)) (fun _ _ _ S => Pu.eqS (Pu.name C S rfl rfl rfl) Pu.str rfl) hu rfl) fun _ _ _ => trivial) (fun _ _ q => nomatch q) fun z s' _ _ S => r_end (r_end (LoopStepV.next (fin s' _ o2 _ (S.led fun p hp => List.mem_append_right _ (.tail _ (List.mem_append_right _ hp))) hd)))

section
variable {w : World} {A : Around} {env : Env} {g : Heap} {d d' : Nat} {sc : Scope} {s₀ s : Shared} {lm : Lm} {all : Led} {x : Str} {xpos pos : Pos} {f : Addr} {α : Type} {Cc : α → Prop} {fr : α → PV} {fn : α → Led}
theorem ev_fun0 (Sp : SpecV w d' f [] [] [] Cc fr fn) (C : Cx w A env g d sc) (hdd : d' ≤ d) (S : S1 g env s₀ s lm all) (hg : nsIn (Mine.pre.heap_1 w.params) mainGlobals x = some (some (.ref f))) (hk : sc.names.lookup x = some .globalImplicit) (hkeep : keepIn (Mine.pre.heap_1 w.params) (.ref f) = true) (hdb : (x == ("__debug__" : Str)) = false := by decide) :
    Ev w A env g s₀ s lm (.Call (.Name x xpos) [] [] pos) (Bk [] s Cc fn) fr (fun y => fn y ++ all) := fun Q E k => by
  refine Call_ (Pu.glob (p := .ref f) C S hg rfl hk hdb _ _ s.toks fun u tk hu => ?_)
  cases hu
  obtain ⟨⟨m, F, hm⟩, N, same⟩ := id S
  exact callWith_K0 (C.X.keeps F.keep) hkeep (useV (s := s) Sp C hdd all (fun _ h => nomatch h) (fun _ h => h) (fun _ _ h => nomatch h) (fun _ h => nomatch h) (S.tok tk) rfl rfl fun y v s'' hv hb S'' => k y v s'' hv hb S'')
end
theorem law_src (w : World) {A : Around} {env : Env} {g : Heap} {s₀ s : Shared} {lm : Lm} {Q : Flow → Shared → Prop} {E : Value → Shared → Prop} (C : Cx w A env g 9 (lawScope w.params)) {sl : Addr} {lo : Obj} {vs : List Value} {ns : List Int} {n : Nat} {ps : Array Value} (hc : lo.cls = .type "list") (hd : lo.data = .seq vs.toArray n) (hi : IntsAre vs ns) (hsl : g.get? sl = some lo) (hl : lm.lookup (Str.ofString "script") = some (.ref sl)) (S : S1 g env s₀ s lm [(271, tabObj ps)])
    (k : ∀ s' sa o lm', SrcO w o → @Ne Nat sa 271 → lm'.lookup (Str.ofString "source") = some (.ref sa) → S1 g env s₀ s' lm' [(sa, o), (271, tabObj ps)] → wpAny (model PR w) A (execs ((lawBody w.params).drop 1) env) Q E s') : wpAny (model PR w) A (execs (lawBody w.params) env) Q E s := by
  have S0 := S
  refine r_set C (ev_fun (source_v w sl lo vs ns n hc hd hi) C (by decide) S (by k_is) rfl (by k_is) (by exact ⟨_, _, rfl, Pu.name C S hl rfl rfl, rfl, rfl⟩) (fun _ => rfl) [(271, tabObj ps)] (fun _ h => nomatch h) (fun _ h => h) (fun _ _ h => nomatch h) (List.forall_mem_cons.mpr ⟨⟨S.keep _ _ hsl, fun h => nomatch h⟩, fun _ h => nomatch h⟩)) rfl (fun _ => rfl) fun y _ s hy S _ => k s y.1 y.2 _ hy.c ?_ rfl S
  rcases hy.new _ (.head _) with h | h
  · nomatch h
  · exact (S0.ne h (.head _))
theorem law_end (w : World) {A : Around} {env : Env} {g : Heap} {s₀ s : Shared} {lm : Lm} {Q : Flow → Shared → Prop} {E : Value → Shared → Prop} {c : Addr} (C : Cx w A env g 9 (lawScope w.params)) (hB : ∃ A₀, Below A₀ g [] g) (hA : A.frames = some [env]) (hcode : CodeHd g c 271) (henv : ∃ cn L a, env = envX cn (lawScope w.params) L a (.ref c) []) (S : S1 g env s₀ s lm [(271, tabObj #[])])
    (k : ∀ v s' ps, (PV.bool true).is v → S1 g env s₀ s' lm [(271, tabObj ps)] → Q (.ret v) s') : wpAny (model PR w) A (execs ((lawBody w.params).drop 6) env) Q E s := by
  refine r_ifE (TEv.orE (C2 := fun _ _ _ => True) (TEv.not (TEv.call (t := fun _ => true) (ev_refused C (by decide) S hB hA hcode henv trivial rfl rfl (lam1 rfl (fun _ _ _ => by exact ⟨_, _, rfl, Pu.int, rfl, _, _, rfl, Pu.str, rfl, _, _, rfl, Pu.int, rfl, _, _, rfl, Pu.int, rfl, rfl⟩) (fun _ => rfl)) (fun _ _ _ _ _ => rfl) (fun _ => rfl) (fun _ => rfl) rfl rfl rfl (by decide)))) fun y s' _ S => TEv.wk (TEv.not (TEv.call (t := fun _ => true) (ev_fun0 (fixed_v w) C (by decide) S (by k_is) rfl (by k_is)))) fun _ _ _ => trivial) (fun _ _ q => nomatch q) fun z s' _ _ S => r_end ?_
  refine r_ret (ev_refused C (by decide) S hB hA hcode henv (by exact trivial) (by rfl) rfl (lam2 (k := grp) (i := 1) (j := 2) (by decide) (by decide) (by decide) rfl rfl (fun _ _ _ => by exact ⟨_, _, rfl, Pu.int, rfl, _, _, rfl, Pu.str, rfl, _, _, rfl, Pu.int, rfl, _, _, rfl, Pu.int, rfl, rfl⟩) (fun _ _ _ => by exact ⟨_, _, rfl, Pu.int, rfl, _, _, rfl, Pu.str, rfl, _, _, rfl, Pu.int, rfl, _, _, rfl, Pu.int, rfl, rfl⟩) (fun _ _ => rfl) (fun _ _ => rfl)) (fun _ _ _ _ _ => rfl) (fun _ => rfl) (fun _ => rfl) rfl rfl rfl (by decide)) fun y v s' hv _ S => k v s' _ hv S
theorem law_all (w : World) {A : Around} {env : Env} {g : Heap} {s₀ s : Shared} {lm : Lm} {Q : Flow → Shared → Prop} {E : Value → Shared → Prop} (pE : PassesOwn (model PR w) A env E) (C : Cx w A env g 9 (lawScope w.params)) {sl c : Addr} {lo : Obj} {vs : List Value} {ns : List Int} {n : Nat} (hc : lo.cls = .type "list") (hd : lo.data = .seq vs.toArray n) (hi : IntsAre vs ns) (hsl : g.get? sl = some lo) (hl : lm.lookup (Str.ofString "script") = some (.ref sl)) (hB : ∃ A₀, Below A₀ g [] g) (hA : A.frames = some [env]) (hcode : CodeHd g c 271) (henv : ∃ cn L a, env = envX cn (lawScope w.params) L a (.ref c) []) (S : S1 g env s₀ s lm [(271, tabObj #[])])
    (k : ∀ v s' ps lm', (PV.bool true).is v → S1 g env s₀ s' lm' [(271, tabObj ps)] → Q (.ret v) s') : wpAny (model PR w) A (execs (lawBody w.params) env) Q E s :=
  law_src w C hc hd hi hsl hl S fun s1 sa o l1 ho hsa hl1 S => law_build w pE C ho hsa hl1 S fun s2 rl D sd so l2 nx hb nd hso los lo S => law_ctl w C hb nd hso lo S fun s3 cx sc rec xc xo RO RO' Dc cd oc l3 nx hR hO hJ S =>
    law_main w pE C hR hO los (fun p hp => List.mem_append_left _ hp) (fun p hp => List.mem_append_right _ (List.mem_append_left _ hp)) (List.mem_append_right _ (List.mem_append_right _ (.head _))) hJ S fun s4 l4 S => law_end w C hB hA hcode henv S fun v s' ps hv S => k v s' ps l4 hv S

/-- names that are taken: these big trees are laid plain -/
noncomputable def fin.tw18088906125072851268 : Nat := 0
noncomputable def fin.tw12507174853811176531 : Nat := 0
noncomputable def fin.tw16231027417747320569 : Nat := 0
noncomputable def fin.tw14830759852652495907 : Nat := 0
noncomputable def fin.tw4561644853628799399 : Nat := 0

set_option Elab.async true in
theorem fin : PySem.Challenge.rw_pc0371_01.Holds := by
  w_on
  o_law
  o_head (kHook pre.heap_1 [2, 3, 15, 17, 18, 20, 21, 22, 29, 31, 32, 34, 35, 36, 37, 38, 39, 42, 49, 50, 52, 53, 55, 56, 57, 58, 59, 69, 71, 72, 74, 75, 76, 78, 79, 81, 82, 83, 85, 86, 88, 89, 90, 92, 93, 95, 96, 97, 99, 100, 102, 103, 104, 106, 107, 109, 110, 111, 113, 114, 116, 117, 118, 120, 121, 123, 124, 125, 126, 127, 128, 129, 132, 140, 141, 143, 144, 146, 147, 148, 150, 151, 153, 154, 155, 158, 159, 160, 161, 162, 163, 164, 174, 175, 177, 178, 180, 181, 182, 184, 185, 187, 188, 189, 191, 192, 194, 195, 196, 198, 199, 201, 202, 203, 205, 206, 208, 209, 210, 211, 212, 213, 214, 217, 219, 220, 222, 223, 224, 226, 227, 229, 230, 231, 233, 234, 236, 237, 238, 239, 241, 242, 244, 245, 246, 249, 250, 251, 253, 254, 256, 257, 258, 260, 261, 263, 264, 265, 268, 269, 270, 272, 273, 275, 276] (fun _ => by kernel_rfl))
  case hw => w_witness2
  k_go0
  (all_goals try k_fold)
  rename World => ww
  rename Shared => s1
  rename (pre.heap_1 _).In _ => hX
  rename Top topProg _ _ _ _ _ => hT
  rename Below callerA _ _ _ => hK
  rename Fr _ _ _ _ => hF
  rename News _ _ _ _ => hN
  rename IntsAre _ _ => hI
  rename s1.gens = #[] => hg0
  obtain ⟨lo, hsl, hlc, ln, hld⟩ := lifted
  refine law_all ww (s₀ := { heap := s1.heap, gens := s1.gens, drawn := s1.drawn, toks := s1.toks, os := s1.os }) (lm := [(Str.ofString "script", .ref _)]) (c := 275) (by passes_own) ⟨⟨_, _, _, _, [], rfl⟩, rfl, rfl, hX, ⟨_, _, _, _, _, [], _, _, hT, hK, rfl⟩, Nat.le_of_ble_eq_true rfl, Nat.le_of_ble_eq_true rfl⟩ hlc hld hI hsl rfl ⟨_, hK⟩ rfl codeHd ⟨_, _, _, rfl⟩ ⟨⟨_, hF, ?h1⟩, hN, rfl, rfl, rfl⟩ ?h2
  case h1 =>
    intro x p h
    rw [List.lookup_cons] at h
    by_cases e : x = Str.ofString "script"
    · subst e
      cases h
      exact ⟨_, rfl, rfl⟩
    · rw [beq_eq_false_iff_ne.mpr e] at h
      nomatch h
  case h2 =>
    rintro v s' ps lm' hv ⟨⟨m', hF', -⟩, hN', a1, a2, a3⟩
    have hg1 := a1.trans hg0
    cases hv
    refine ⟨?_, GrownAt.of hN' (.head _), trivial⟩
    refine goodW_bool hF' hg1 (raisesW_false ?_) ?_ a3
    · wrow_none_raised
    · kc_post

end Mine

theorem PySem.Challenge.cw_pc0371_01_holds : PySem.Challenge.rw_pc0371_01.Holds := by
  exact Mine.fin
