import PyProof.Rows.All
import Wide.All
import OpenK.AllK
import Wide.FinOn
import PySem.Challenge.RW_xm0709_01
set_option Elab.async false
namespace Mine
open PySem PySem.W PyProof.Rows
set_option maxRecDepth 100000 in
set_option maxHeartbeats 8000000 in
open_top hd for PySem.Challenge.rw_xm0709_01
end Mine
section
open PySem PySem.W PyProof.Rows
namespace Mine

def Spec (w : World) (f : Addr) (args : List Value) (Pre : Heap → Prop) (S : List Addr) (Post : Value → Heap → Heap → Prop) : Prop :=
  ∀ (loose : List Str) (mean : ExcName → Option Value) (mg mb : Str → Option Value) (dp un : Nat) (gd : Option (List Code)) (cn : Str) (cs : Scope) (a : Addr) (ccd : Value) (cl : List (Str × Addr)) (outer : List Env)
    (A₀ : Around) (base h₀ : Heap) (L : Addr) (m : Str → Option Value) (s : Shared) (Q E : Value → Shared → Prop),
    Below A₀ base outer h₀ → Fr h₀ L s.heap m → (hd.heap_39 w.params).In h₀ → Top hd.view_39 loose mean mg mb h₀ → cs.kind = .function → dp < 400 → un < 2000 →
    (∀ b ∈ S, h₀.get? b = none ∧ b ≠ L) → Pre s.heap →
    (∀ r h' tk', (∀ b o, b ∉ S → s.heap.get? b = some o → h'.get? b = some o) → Post r s.heap h' → Q r { s with heap := h', toks := tk' }) →
    wpAny (model PySem.Challenge.rw_xm0709_01.row.prog w) (ktrTop dp un gd cn cs L a ccd cl outer) (call (.ref f) args) Q E s

def SpecO (w : World) (f : Addr) (args : List Value) (Pre : Heap → Prop) (S : List Addr) (Post : Value → Heap → Heap → Prop) : Prop :=
  ∀ (loose : List Str) (mean : ExcName → Option Value) (mg mb : Str → Option Value) (dp un : Nat) (gd : Option (List Code)) (cn : Str) (cs : Scope) (a : Addr) (ccd : Value) (cl : List (Str × Addr)) (outer : List Env)
    (A₀ : Around) (base h₀ : Heap) (L : Addr) (m : Str → Option Value) (s : Shared) (Q E : Value → Shared → Prop),
    Below A₀ base outer h₀ → Fr h₀ L s.heap m → (hd.heap_39 w.params).In h₀ → Top hd.view_39 loose mean mg mb h₀ → cs.kind = .function → dp < 390 → un < 1900 →
    (∀ b ∈ S, h₀.get? b = none ∧ b ≠ L) → Pre s.heap →
    (∀ r h' tk', (∀ b o, b ∉ S → s.heap.get? b = some o → h'.get? b = some o) → Post r s.heap h' → Q r { s with heap := h', toks := tk' }) →
    wpAny (model PySem.Challenge.rw_xm0709_01.row.prog w) (ktrTop dp un gd cn cs L a ccd cl outer) (call (.ref f) args) Q E s

theorem spec_use {w : World} {f : Addr} {args : List Value} {Pre : Heap → Prop} {Post : Value → Heap → Heap → Prop} (C : Spec w f args Pre [] Post)
    {loose : List Str} {mean : ExcName → Option Value} {mg mb : Str → Option Value} {dp un : Nat} {gd : Option (List Code)} {cn : Str} {cs : Scope} {a : Addr} {ccd : Value} {cl : List (Str × Addr)} {outer : List Env}
    {A₀ : Around} {base h₀ : Heap} {L : Addr} {m : Str → Option Value} {s : Shared} {Q E : Value → Shared → Prop} {news : List (Addr × Obj)}
    (B : Below A₀ base outer h₀) (F : Fr h₀ L s.heap m) (X : (hd.heap_39 w.params).In h₀) (T : Top hd.view_39 loose mean mg mb h₀) (hk : cs.kind = .function) (hd' : dp < 400) (hu : un < 2000) (N : News h₀ L s.heap news) (hp : Pre s.heap)
    (ret : ∀ r h' tk', Fr h₀ L h' m → News h₀ L h' news → (∀ b o, s.heap.get? b = some o → h'.get? b = some o) → Post r s.heap h' → Q r { s with heap := h', toks := tk' }) :
    wpAny (model PySem.Challenge.rw_xm0709_01.row.prog w) (ktrTop dp un gd cn cs L a ccd cl outer) (call (.ref f) args) Q E s :=
  C loose mean mg mb dp un gd cn cs a ccd cl outer A₀ base h₀ L m s Q E B F X T hk hd' hu (fun _ h => nomatch h) hp fun r h' tk' keep post =>
    have keep' : ∀ b o, s.heap.get? b = some o → h'.get? b = some o := fun b o e => keep b o (fun h => nomatch h) e
    ret r h' tk' (F.keeps keep') (N.grown keep') keep' post

theorem keep_of {H g h' : Heap} {L' : Addr} {m' : Str → Option Value} {adr : List Addr} (G : GSub H g adr) (F' : Fr g L' h' m') :
    ∀ b o, b ∉ adr → H.get? b = some o → h'.get? b = some o := fun b o hb e => F'.keep b o (G b o e hb)

-- entering a def of the text, what stood before is told
local macro_rules | `(tactic| ktr_enter) => `(tactic| (refine' code_defG ?k1 ?k2 ?k3 ?k4 ?k5 ?kA ?kF ?kK ?k6 ?k7 ?k8 ?k9 ?kB ?_ ?c2 ?c3 ?c4 ?c5; (case kA => exact rfl); (case kF => exact rfl); (case kK => assumption); (case k1 => k_asm); (case k2 => k_asm); (case k3 => k_asm); (case k4 => k_asm); (case k5 => k_asm); (case k6 => k_is); (case k7 => k_is); (case k8 => ktr_room); (case k9 => exact BindsTo.of_eq rfl); (case c5 => decide); (case kB => exact locs rfl); (case c2 => exact rfl); (case c3 => exact rfl); (case c4 => exact rfl); k_whole; intro g' L' h' FG' F' N' B' X' T' kG'; (try dsimp only); (try k_fold)))

local macro_rules | `(tactic| walk_at "LeaveK") => `(tactic| ((with_reducible rename GSub _ _ _ => kG'); (with_reducible rename Fr _ _ _ _ => lF'); (have kept' := keep_of kG' lF'); (clear kG'); walk_at "LeaveK"))

theorem take_bits (b : Int) : Builtin.Int.intBits ((b * 39373 + 7).fmod 2147483647) ≤ 64 := by
  have h0 : 0 ≤ (b * 39373 + 7).fmod 2147483647 := Int.fmod_nonneg_of_pos _ (by omega)
  have h1 : (b * 39373 + 7).fmod 2147483647 < 2147483647 := Int.fmod_lt_of_pos _ (by omega)
  exact intBits_le_64 (by omega) (by omega)

set_option maxRecDepth 100000 in
set_option maxHeartbeats 4000000 in
theorem take_spec (w : World) (src : Addr) (a b top : Int) (ta tb tt : Tok) (n : Nat) (htop : 1 ≤ top) (htop2 : top ≤ 100) :
    Spec w 69 [.ref src, .int top tt] (fun h => h.get? src = some (listOf #[.int a ta, .int b tb] n)) [src]
      (fun r _ h' => ∃ k tk a' b' ta' tb' n', r = .int k tk ∧ 0 ≤ k ∧ k < top ∧ h'.get? src = some (listOf #[.int a' ta', .int b' tb'] n')) := by
  w_top off
  unfold Spec
  k_fill
  intro loose mean mg mb dp un gd cn cs adr ccd cl outer A₀ base h₀ L m s Q E B F X T hk hdp hun hS hpre hret
  have N : News h₀ L s.heap [(src, listOf #[.int a ta, .int b tb] n)] := by
    intro p hp
    rw [List.mem_singleton] at hp
    subst hp
    exact ⟨hpre, (hS src (.head _)).2, (hS src (.head _)).1⟩
  refine wpAny_call ?_
  k_dflt ktr_enter
  k_steps
  · (rename ∀ b o, b ∉ _ → s.heap.get? b = some o → _ => kept_)
    (rename News h₀ L _ _ => kN_)
    refine hret _ _ _ kept_ ⟨_, _, _, _, _, _, _, rfl, ?_, ?_, kN_.get (.head _)⟩
    · exact Int.fmod_nonneg_of_pos _ (by omega)
    · exact Int.fmod_lt_of_pos _ (by omega)
  · refine mul_int ?_ (IntMulOk.of_left (take_bits b))
    k_steps
    (rename ∀ b o, b ∉ _ → s.heap.get? b = some o → _ => kept_)
    (rename News h₀ L _ _ => kN_)
    refine hret _ _ _ kept_ ⟨_, _, _, _, _, _, _, rfl, ?_, ?_, kN_.get (.head _)⟩
    · exact Int.fmod_nonneg_of_pos _ (by omega)
    · exact Int.fmod_lt_of_pos _ (by omega)
end Mine
end
section
open PySem PySem.W PyProof.Rows PySem.Spec
namespace Mine

/-! what the law builds, as data -/
structure R where
  nm : Str
  id : Option Str
  par : Int

def IdOf (kvs : List (Str × Value)) (o : Option Str) : Prop :=
  match o with
  | none => valueAt kvs "id" = none
  | some x => ∃ t, valueAt kvs "id" = some (.str x t)

def WordsAt (w : World) (h : Heap) (d : Addr) (o : Option Str) : Prop :=
  (d == sysModules) = false ∧ ∃ kvs : List (Str × Value), h.DictOf (strKind PySem.Challenge.rw_xm0709_01.row.prog w) d kvs ∧ IdOf kvs o
theorem WordsAt.keeps {w : World} {h h' : Heap} {d : Addr} {o : Option Str} (x : WordsAt w h d o) (k : ∀ b o, h.get? b = some o → h'.get? b = some o) : WordsAt w h' d o :=
  let ⟨a, kvs, b, c⟩ := x; ⟨a, kvs, b.keep k, c⟩

def RowAt (w : World) (h : Heap) (v : Value) (r : R) : Prop :=
  ∃ t d tn tp, v = .ref t ∧ IsTup h t #[.str r.nm tn, .ref d, .int r.par tp] ∧ WordsAt w h d r.id
theorem RowAt.keeps {w : World} {h h' : Heap} {v : Value} {r : R} (x : RowAt w h v r) (k : ∀ b o, h.get? b = some o → h'.get? b = some o) : RowAt w h' v r :=
  let ⟨t, d, tn, tp, e, a, b⟩ := x; ⟨t, d, tn, tp, e, a.keeps k, b.keeps k⟩

def AllAt {α : Type} (F : Value → α → Prop) (vs : List Value) (rs : List α) : Prop :=
  vs.length = rs.length ∧ ∀ (i : Nat) (v : Value) (r : α), vs[i]? = some v → rs[i]? = some r → F v r

def RowsAt (w : World) (h : Heap) (A : Addr) (rs : List R) : Prop :=
  ∃ vs : List Value, h.IsList A vs.toArray ∧ AllAt (RowAt w h) vs rs
theorem RowsAt.keeps {w : World} {h h' : Heap} {A : Addr} {rs : List R} (x : RowsAt w h A rs) (k : ∀ b o, h.get? b = some o → h'.get? b = some o) : RowsAt w h' A rs :=
  let ⟨vs, a, b, c⟩ := x; ⟨vs, a.at fun o e => k _ _ e, b, fun i v r h1 h2 => (c i v r h1 h2).keeps k⟩

/-- the places' parents: one root, each later one within an open one, in the order of a text -/
structure Pre (rs : List R) : Prop where
  pos : 0 < rs.length
  few : rs.length ≤ 9
  root : ∀ r, rs[0]? = some r → r.par = -1
  par : ∀ (i : Nat) (r : R), 0 < i → rs[i]? = some r → 0 ≤ r.par ∧ r.par < (i : Int)
  nest : ∀ (i j k : Nat) (r q : R), i < j → j < k → rs[j]? = some r → rs[k]? = some q → r.par < (i : Int) → q.par ≠ (i : Int)

/-! loops over a range with any target -/
section
variable {prog : Program} {w : World} {A : Around} {E : Value → Shared → Prop} {s : Shared} {env : Env} {h₀ : Heap} {target : Expr} {body : List Stmt} {Q : Flow → Shared → Prop}

def TurnEndT (h₀ : Heap) (L : Addr) (J : (Str → Option Value) → List (Addr × Obj) → Prop) (own : List (Addr × Obj)) (s₁ : Shared) (f : Flow) (s₂ : Shared) : Prop :=
  f = .next ∧ InvEndG h₀ L J own s₁ s₂

theorem loopT_of {I : Addr} {fp wr : List Addr} {n : Nat} {P : Nat → Value → Prop} {St : Nat → Heap → Prop} {m₀ : Str → Option Value} {news : List (Addr × Obj)} (J : Nat → (Str → Option Value) → List (Addr × Obj) → Prop)
    (W : Walks prog w A I fp wr n P St) (hfp : ∀ a ∈ fp, a ∈ wr ∨ ∃ o, h₀.get? a = some o) (hob : ∀ i h, St i h → ∀ b ∈ wr, ∃ o, h.get? b = some o) (hLf : env.locals ∉ fp) (hwr : ∀ b ∈ wr, h₀.get? b = none) (hnw : ∀ p ∈ news, p.1 ∉ wr) (hst : St 0 s.heap)
    (F : Fr h₀ env.locals s.heap m₀) (N : News h₀ env.locals s.heap news)
    (hgo : ∀ i (s' : Shared) v (Q' : Unit → Shared → Prop), St i s'.heap → Q' () s' → wpAny (model prog w) A (letOwnedTupleGo target (.ref I) v) Q' E s')
    (hj : J 0 m₀ news)
    (turn : ∀ i v m₁ nx (s₁ : Shared) own, i < n → P i v → OwnOff own (nx.map (·.1)) → J i m₁ nx → Fr h₀ env.locals s₁.heap m₁ → News h₀ env.locals s₁.heap (nx ++ own) →
      wpAny (model prog w) A (assign target env v) (fun _ s₃ => wpAny (model prog w) A (execs body env) (TurnEndT h₀ env.locals (J (i + 1)) own s₁) E s₃) E s₁)
    (done : ∀ m₁ nx h tk, J n m₁ nx → Fr h₀ env.locals h m₁ → News h₀ env.locals h nx → Q .next { s with heap := h, toks := tk }) :
    LoopAtT prog w A h₀ env target body Q E (.ref I) s := by
  refine ⟨I, fp, wr, n, P, St, m₀, news, J, rfl, W, hLf, hwr, hnw, hst, F, N, hgo, hj, ?_, ?_⟩
  · intro i v m₁ news₁ s₁ own hin hP hJ hoff hown hget hmem hst' F₁ N₁
    have hsep : OwnOff own (news₁.map (·.1)) := by
      intro p hp b hb e
      obtain ⟨q, hq, rfl⟩ := List.mem_map.mp hb
      rcases hfp _ (hown p hp) with h1 | ⟨o, h1⟩
      · exact hoff q hq (e ▸ h1)
      · have h2 := (N₁ q (List.mem_append_right _ hq)).2.2
        rw [← e, h1] at h2; cases h2
    have N₂ : News h₀ env.locals s₁.heap (news₁ ++ own) := fun p hp => N₁ p ((List.mem_append.mp hp).elim (fun h => List.mem_append.mpr (.inr h)) fun h => List.mem_append.mpr (.inl h))
    refine wpAny_mono (turn i v m₁ news₁ s₁ own hin hP hsep hJ F₁ N₂) (fun _ s₃ p => wpAny_mono p (fun f s₂ q => ?_) fun _ _ e => e) fun _ _ e => e
    obtain ⟨rfl, h', tk, m', news', nx, rfl, F', N', hn, ho, ha, hm⟩ := q
    refine ⟨rfl, h', tk, m', nx, rfl, F', fun p hp => N' p ((List.mem_append.mp hp).elim (ho p) (hn p)), fun p hp hq => ?_, hm⟩
    obtain ⟨o, hbo⟩ := hob _ _ hst' _ hq
    exact ha _ (hmem _ (W.sub _ hq) (hwr _ hq) o hbo) p.1 (List.mem_map.mpr ⟨p, hp, rfl⟩) rfl
  · intro h' tk m' news' F' N' _ hJ
    exact done m' news' h' tk hJ F' N'

theorem letGo_rangeiter {I : Addr} {x left step : Int} {v : Value} {Q' : Unit → Shared → Prop} {s' : Shared} (hit : IsRangeIter s'.heap I x left step) (h : Q' () s') :
    wpAny (model prog w) A (letOwnedTupleGo target (.ref I) v) Q' E s' := by
  unfold letOwnedTupleGo
  split
  · cases v with
    | ref a => exact wpAny_bind (wpAny_load hit (wpAny_pure h))
    | _ => exact wpAny_pure h
  · cases v with
    | ref a => exact wpAny_bind (wpAny_load hit (wpAny_pure h))
    | _ => exact wpAny_pure h
  · exact wpAny_pure h

theorem iterT_range {r : Addr} {a₀ b₀ c : Int} {t₀ u₀ v₀ : Tok} {n : Nat} {m₀ : Str → Option Value} {news : List (Addr × Obj)} (J : Nat → (Str → Option Value) → List (Addr × Obj) → Prop)
    (hh : A.handled = none) (hr : IsRange s.heap r a₀ b₀ c t₀ u₀ v₀) (hsmall : Builtin.Range.small a₀ b₀ c = true) (hn : Builtin.Range.rangeSize a₀ b₀ c = (n : Int)) (F : Fr h₀ env.locals s.heap m₀) (N : News h₀ env.locals s.heap news)
    (hj : J 0 m₀ news)
    (turn : ∀ i t m₁ nx (s₁ : Shared) own, i < n → OwnOff own (nx.map (·.1)) → J i m₁ nx → Fr h₀ env.locals s₁.heap m₁ → News h₀ env.locals s₁.heap (nx ++ own) →
      wpAny (model prog w) A (assign target env (.int (a₀ + i * c) t)) (fun _ s₃ => wpAny (model prog w) A (execs body env) (TurnEndT h₀ env.locals (J (i + 1)) own s₁) E s₃) E s₁)
    (done : ∀ m₁ nx h tk, J n m₁ nx → Fr h₀ env.locals h m₁ → News h₀ env.locals h nx → Q .next { s with heap := h, toks := tk }) :
    wpAny (model prog w) A (pyIter (.ref r)) (fun it s₂ => LoopAtT prog w A h₀ env target body Q E it s₂) E s := by
  refine wpAny_pyIter_range hr hsmall ?_
  have W : Walks prog w A s.heap.objs.size [s.heap.objs.size] [s.heap.objs.size] n (fun i v => ∃ t, v = .int (a₀ + i * c) t)
      (fun i h => IsRangeIter h s.heap.objs.size (a₀ + (i : Nat) * c) ((n : Int) - (i : Nat)) c) := Walks.range hh _ a₀ c n
  refine loopT_of J W (fun _ h => .inl h) (fun i h hi b hb => ?_) ?_ ?_ ?_ (by show IsRangeIter _ _ _ _ _; rw [hn]; simpa using Heap.get?_push_size _ rfl) (F.push _) (fun p hp => ⟨Heap.get?_push_of_some _ (N p hp).1, (N p hp).2⟩) (fun i s' v Q' st hQ' => letGo_rangeiter st hQ') hj ?_ done
  · rw [List.mem_singleton.mp hb]
    exact ⟨_, hi⟩
  · intro hm
    exact absurd F.ns.lt ((List.mem_singleton.mp hm) ▸ Nat.lt_irrefl _)
  · intro b hb
    rw [List.mem_singleton.mp hb]
    exact next_is_new F
  · intro p hp hI
    exact absurd (Heap.lt_size (N p hp).1) ((List.mem_singleton.mp hI) ▸ Nat.lt_irrefl _)
  · rintro i v m₁ nx s₁ own hi ⟨t, rfl⟩ hoff hJ F₁ N₁
    exact turn i t m₁ nx s₁ own hi hoff hJ F₁ N₁
end
end Mine
end
section
open PySem PySem.W PySem.Calls PyProof.Rows PySem.Spec
namespace Mine

section
variable {prog : Program} {w : World} {A A₀ : Around} {s : Shared} {K : Frag} {L : Addr} {h₀ base : Heap} {m mg mb : Str → Option Value} {news : List (Addr × Obj)} {p : Program} {loose : List Str} {mean : ExcName → Option Value}

/-- entering a def of the text with captured names: what stood before is told -/
theorem code_cells {env : Env} {outer : List Env} {R : Result → Shared → Prop} {name qual : Str} {params : Arguments} {body : List Stmt} {scope : Scope} {dV kV doc pm cdv ct oc : Value} {an od : Option Addr} {osl : Array (Option Value)} {f : Addr} {args : Args} {binds : List (Str × Value)}
    (B : Below A₀ base outer h₀) (F : Fr h₀ L s.heap m) (X₀ : K.In h₀) (N : News h₀ L s.heap news) (T : Top p loose mean mg mb h₀) (hA : A.frames = some (env :: outer)) (hf : env.frame = some L) (hke : env.scope.kind = .function)
    (ho : K.lookup f = some ⟨oc, od, .func (fnOf name qual params body scope dV kV doc pm an cdv ct), osl⟩) (hcd : codeIn K cdv qual = true) (hroom : A.depth < recursionLimit)
    (hbind : BindsTo s (fnOf name qual params body scope dV kV doc pm an cdv ct) args binds) (hkind : (binds.all fun y => scope.names.lookup y.1 == some .local || scope.names.lookup y.1 == some .cell) = true)
    (hnd : ((cellsFrom 0 scope.names []).map (·.1)).Nodup)
    (h : ∀ g L' h₁ tk cells, Fr h₀ L g m → Fr g L' h₁ (bindL (envOfC qual scope L' f cdv).kindOf binds fun _ => none) → News g L' h₁ (cells ++ news) →
      CellsAre (bindC (envOfC qual scope L' f cdv).kindOf binds fun _ => none) (cellsFrom (L' + 1) scope.names []) cells → Below A base (env :: outer) g → K.In g → Top p loose mean mg mb g → (∀ p ∈ news, p.1 < L') → GSub s.heap g (news.map (·.1)) →
      wpAny (model prog w) (A.deeper (envOfC qual scope L' f cdv)) (execs body (envOfC qual scope L' f cdv))
        (fun fl s' => LeaveK h₀ L m g R (match fl with | .ret v => v | _ => .none) s')
        (fun e s' => wpAny (model prog w) (A.deeper (envOfC qual scope L' f cdv)) (leaving (envOfC qual scope L' f cdv) e) (fun _ s'' => R (.error e) s'') (fun e' s'' => R (.error e') s'') s')
        { s with heap := h₁, toks := tk })
    (hco : scope.isCoroutine = false) (hgen : scope.isGenerator = false) (hk : scope.kind = .function) : codeAny (model prog w) A (.call (.ref f) args) R s := by
  obtain ⟨FG, BG, st, lv⟩ := groundX (R := R) B F N hA hf hke
  refine codeAny_call_function hroom ((X₀.keeps F.keep) _ _ ho) rfl hco hgen rfl (codeRec_of (X₀.keeps F.keep) hcd) (hbind _ _ _ _ ?_)
  refine wpAny_newFunctionEnv_cells hk (kindsX hkind _) fun env' he s' x => ?_
  subst he
  refine ⟨(T.nolimit.keeps F.keep).keeps x.toInCall.keep, codeAny_func ?_⟩
  obtain ⟨h₁, tk, rfl, _⟩ := x.done
  have hk₁ := x.toInCall.keep
  obtain ⟨cells, NC, Y⟩ := Cl.news (h₀ := s.heap) (Nat.le_refl _) fun n c hm => ⟨x.cell n c (lookup_of_mem_nodup (cellsFrom_names scope.names 0 (s.heap.objs.size + 1) [] [] rfl ▸ hnd) hm), x.above n c hm⟩
  refine wpAny_mono (h _ s.heap.objs.size h₁ tk cells FG ⟨x.toInCall.ns, fun b o e => hk₁ b o (of_hideAll _ e), Nat.le_of_eq (hideAll_size _ _)⟩ (fun p hp => ?_) Y BG (X₀.keeps st) (T.keeps st) (fun p hp => Heap.lt_size (N p hp).1) (fun b o e n => hideAll_get _ e n)) (fun fl s' hl => lv _ _ hl) fun _ _ y => y
  rcases List.mem_append.mp hp with hp | hp
  · refine ⟨(NC p hp).1, (NC p hp).2.1, ?_⟩
    cases q : (hideAll s.heap (news.map (·.1))).get? p.1 with
    | none => rfl
    | some o => have := of_hideAll _ q; rw [(NC p hp).2.2] at this; cases this
  · exact ⟨hk₁ _ _ (N p hp).1, Nat.ne_of_lt (Heap.lt_size (N p hp).1), hideAll_none _ (List.mem_map_of_mem hp)⟩
end
end Mine
end
section
open PySem PySem.W PySem.Calls PyProof.Rows PySem.Spec
namespace Mine
/-- a place where the walk is to stand -/
def Halt (P : Prop) : Prop := P
theorem Halt.off {P : Prop} (h : Halt P) : P := h
section
variable {prog : Program} {w : World} {A : Around} {E : Value → Shared → Prop} {s : Shared} {h₀ : Heap} {L : Addr} {m : Str → Option Value}

theorem len_at {l : Addr} {vs : List Value} {n : Nat} {Q : Value → Shared → Prop} (hl : s.heap.IsList l vs.toArray) (hn : vs.length = n) (hf : n ≤ 1000)
    (h : Q (.int (n : Int) (s.toks + 1)) { s with toks := s.toks + 1 + 1 }) : wpAny (model prog w) A (call (.builtin "len") [.ref l]) Q E s := by
  subst hn
  exact call_len_list hl (by simp only [List.size_toArray]; omega) (by simpa using h)

theorem nones_at {l : Addr} {n k : Nat} {news : List (Addr × Obj)} {u : Tok} {Q : Value → Shared → Prop} (Fm : Fr h₀ L s.heap m) (N : News h₀ L s.heap news) (hl : (l, listOf #[Value.none] k) ∈ news) (hn : n ≤ 200)
    (h : ∀ D h', Fr h₀ L h' m → News h₀ L h' ((D, listOf (List.replicate n Value.none).toArray 0) :: news) → (∀ p ∈ news, p.1 < D) → Q (.ref D) { s with heap := h' }) :
    wpAny (model prog w) A (binaryOp .Mult (.ref l) (.int (n : Int) u)) Q E s := by
  refine KMa.mul (vs := [.none]) Fm N ⟨_, N.get hl, rfl, k, rfl⟩ (by omega) (by omega) (by simp; omega) ?_ h
  simp only [Int.toNat_natCast]
  induction n with
  | zero => rfl
  | succ n ih => simp [List.replicate_succ, List.flatten_cons]
end
end Mine
end
section
open PySem PySem.W PySem.Calls PyProof.Rows PySem.Spec
namespace Mine

theorem name_head {h₀ h : Heap} {L a : Addr} {o : Obj} {r : List (Addr × Obj)} (_ : News h₀ L h ((a, o) :: r)) : ∃ M, M = a := ⟨_, rfl⟩

/-- the places of those within place k, in order -/
def kidIdx (rs : List R) (k : Nat) : List Nat :=
  ((List.range (rs.length - (k + 1))).map (· + (k + 1))).filter fun j => decide ((rs[j]?.map (·.par)) = some (k : Int))
def kidsOf (rs : List R) (xs : List Value) (k : Nat) : List Value := (kidIdx rs k).map fun j => xs.getD j .none

structure Elem (w : World) (has : Addr → Obj → Prop) (g : Heap) (v : Value) (r : R) (kids : List Value) (x dx d c : Addr) : Prop where
  ref : v = .ref x
  inst : has x (instObj 44 dx)
  dict : ∃ t1 t2 t3 t4 tn tv n, has dx (dictOf [⟨PyData.keyHash w.params "name", .str "name" t1, .str r.nm tn⟩, ⟨PyData.keyHash w.params "attributes", .str "attributes" t2, .ref d⟩, ⟨PyData.keyHash w.params "children", .str "children" t3, .ref c⟩, ⟨PyData.keyHash w.params "text", .str "text" t4, tv⟩] n)
  list : ∃ e, has c (listOf kids.toArray e)
  words : WordsAt w g d r.id
def ElemIn (w : World) (led : List (Addr × Obj)) (g : Heap) (v : Value) (r : R) (kids : List Value) : Prop := ∃ x dx d c, Elem w (fun a o => (a, o) ∈ led) g v r kids x dx d c
def ElemAt (w : World) (h : Heap) (v : Value) (r : R) (kids : List Value) : Prop := ∃ x dx d c, Elem w (fun a o => h.get? a = some o) h v r kids x dx d c
theorem Elem.mono {w : World} {P P' : Addr → Obj → Prop} {g g' : Heap} {v : Value} {r : R} {kids : List Value} {x dx d c : Addr} (e : Elem w P g v r kids x dx d c) (hp : ∀ a o, P a o → P' a o) (hg : ∀ b o, g.get? b = some o → g'.get? b = some o) : Elem w P' g' v r kids x dx d c where
  ref := e.ref
  inst := hp _ _ e.inst
  dict := let ⟨t1, t2, t3, t4, tn, tv, n, h⟩ := e.dict; ⟨t1, t2, t3, t4, tn, tv, n, hp _ _ h⟩
  list := let ⟨n, h⟩ := e.list; ⟨n, hp _ _ h⟩
  words := e.words.keeps hg
theorem ElemIn.mono {w : World} {led led' : List (Addr × Obj)} {g : Heap} {v : Value} {r : R} {kids : List Value} (e : ElemIn w led g v r kids) (hp : ∀ p ∈ led, p ∈ led') : ElemIn w led' g v r kids :=
  let ⟨x, dx, d, c, h⟩ := e; ⟨x, dx, d, c, h.mono (fun a o => hp (a, o)) fun _ _ e => e⟩
theorem ElemIn.at {w : World} {led : List (Addr × Obj)} {g h₀ h : Heap} {L : Addr} {v : Value} {r : R} {kids : List Value} (e : ElemIn w led g v r kids) (N : News h₀ L h led) (hg : ∀ b o, g.get? b = some o → h.get? b = some o) : ElemAt w h v r kids :=
  let ⟨x, dx, d, c, q⟩ := e; ⟨x, dx, d, c, q.mono (fun _ _ => N.get) hg⟩
theorem ElemAt.keeps {w : World} {h h' : Heap} {v : Value} {r : R} {kids : List Value} (e : ElemAt w h v r kids) (hg : ∀ b o, h.get? b = some o → h'.get? b = some o) : ElemAt w h' v r kids :=
  let ⟨x, dx, d, c, q⟩ := e; ⟨x, dx, d, c, q.mono (fun _ _ => hg _ _) hg⟩

/-- the tree stands at v -/
def BuiltAt (w : World) (h : Heap) (v : Value) (rs : List R) : Prop :=
  ∃ xs : List Value, xs.length = rs.length ∧ xs[0]? = some v ∧ ∀ (k : Nat) (u : Value) (r : R), xs[k]? = some u → rs[k]? = some r → ElemAt w h u r (kidsOf rs xs k)
theorem BuiltAt.keeps {w : World} {h h' : Heap} {v : Value} {rs : List R} (e : BuiltAt w h v rs) (hg : ∀ b o, h.get? b = some o → h'.get? b = some o) : BuiltAt w h' v rs :=
  let ⟨xs, a, b, c⟩ := e; ⟨xs, a, b, fun k u r h1 h2 => (c k u r h1 h2).keeps hg⟩

section
variable {prog : Program} {w : World} {A : Around} {E : Value → Shared → Prop} {s : Shared} {h₀ : Heap} {L : Addr} {m : Str → Option Value}
theorem item_nat {value slice : PySem.Expr} {l : Addr} {vs : List Value} {k : Nat} {u : Tok} {v : Value} {Q : Value → Shared → Prop}
    (hl : s.heap.IsList l vs.toArray) (hx : vs[k]? = some v) (hk : k ≤ 1000) (h : Q v s)
    (hs : subscripted slice false (.ref l) (.int (k : Int) u) = operate [.ref l, .int (k : Int) u] (getItem (.ref l) (.int (k : Int) u)) := by with_unfolding_all rfl) :
    wpAny (model prog w) A (subscriptTail value slice (.ref l) (.int (k : Int) u)) Q E s :=
  tail_any hl.typeIs slot_list_getitem.lookup (wpAny_getItem_list hl (by omega) (by omega) (by simpa using hx) h) hs
end

/-- what stands between two turns of the building loop -/
def BJ (w : World) (rs : List R) (g : Heap) (Ra M c1 c2 c3 : Addr) (i : Nat) (nx : List (Addr × Obj)) : Prop :=
  ∃ (oP oM oR : Obj) (xs : List Value) (e : Nat) (v : Option Value) (rest : List (Addr × Obj)),
    nx = (c3, oP) :: (c2, oM) :: (c1, oR) :: (M, listOf xs.toArray e) :: rest ∧ oP.data = .cell v ∧ oM.data = .cell (some (.ref M)) ∧ oR.data = .cell (some (.ref Ra)) ∧
    OwnOff rest [c3, c2, c1, M] ∧ xs.length = rs.length ∧
    ∀ (k : Nat) (u : Value) (r : R), rs.length ≤ i + k → xs[k]? = some u → rs[k]? = some r → ElemIn w rest g u r (kidsOf rs xs k)
end Mine
end
section
open PySem PySem.W PySem.Calls PyProof.Rows PySem.Spec
namespace Mine
section
variable {prog : Program} {w : World} {A : Around} {h₀ : Heap} {L : Addr} {m : Str → Option Value} {env : Env} {ct elt : PySem.Expr} {x : Str} {scope : Scope} {cl : List (Str × Addr)} {s : Shared} {S : List (Addr × Obj) → Prop} {P : Nat → Value → Prop}
  {Fin : List Value → List (Addr × Obj) → Prop} {n : Nat} {news : List (Addr × Obj)}

theorem compEnd_mono {s₁ : Shared} {I : Addr} {oI : Obj} {C : Addr} {oC : Obj} {D : Addr} {oD : Obj} {R R' : Value → List (Addr × Obj) → Prop} {y : Value} {s₂ : Shared} (h : LCg.CompEnd h₀ L m s₁ I oI C oC D oD S R y s₂) (hr : ∀ nw, R y nw → R' y nw) :
    LCg.CompEnd h₀ L m s₁ I oI C oC D oD S R' y s₂ := let ⟨h', tk, nw, a, b, c, d, e, f⟩ := h; ⟨h', tk, nw, a, b, c, d, e, hr _ f⟩

theorem compT_of (J : Nat → List Value → List (Addr × Obj) → Prop)
    (turn : ∀ i ys nw, i < n → J i ys nw → ∀ v I oI C oC D m₂ h tk (E' : Value → Shared → Prop), P i v → LCg.NsObj oC m₂ → m₂ x = some v → Fr h₀ L h m → News h₀ L h ((I, oI) :: (C, oC) :: (D, LCg.lst ys) :: nw) → LCg.Off3 I C D nw → ((@Ne Nat I C) ∧ (@Ne Nat I D) ∧ (@Ne Nat C D)) →
      wpAny (model prog w) A (isTrue ct (compEnvC scope cl C env) (eval ct (compEnvC scope cl C env))) (fun ok s' => if ok = true then
        wpAny (model prog w) A (eval elt (compEnvC scope cl C env)) (LCg.CompEnd h₀ L m { s with heap := h, toks := tk } I oI C oC D (LCg.lst ys) S (fun y news' => J (i + 1) (ys ++ [y]) news')) E' s'
        else LCg.CompEnd h₀ L m { s with heap := h, toks := tk } I oI C oC D (LCg.lst ys) S (fun _ news' => J (i + 1) ys news') Value.none s') E' { s with heap := h, toks := tk })
    (hj : J 0 [] news) (fin : ∀ ys nw, J n ys nw → Fin ys nw) : LCt.CompRestT prog w A h₀ L m env ct elt x scope cl s S P Fin n 0 [] news := by
  have all : ∀ j i ys nw, i + j = n → J i ys nw → LCt.CompRestT prog w A h₀ L m env ct elt x scope cl s S P Fin j i ys nw := by
    intro j
    induction j with
    | zero => intro i ys nw e hJ; exact LCt.CompRestT.zero (fin ys nw (by rw [← e]; exact hJ))
    | succ j ih =>
      intro i ys nw e hJ
      refine LCt.CompRestT.succ fun v I oI C oC D m₂ h tk E' hP hC hx F N off ne => ?_
      refine wpAny_mono (turn i ys nw (by omega) hJ v I oI C oC D m₂ h tk E' hP hC hx F N off ne) (fun ok s' q => ?_) fun _ _ x => x
      cases ok with
      | true =>
        simp only [if_true] at q ⊢
        exact wpAny_mono q (fun y s'' q' => compEnd_mono q' fun nw' hJ' => ih _ _ _ (by omega) hJ') fun _ _ x => x
      | false =>
        simp only [Bool.false_eq_true, if_false] at q ⊢
        exact compEnd_mono q fun nw' hJ' => ih _ _ _ (by omega) hJ'
  exact all n 0 [] news (by omega) hj

theorem comp_of (J : Nat → List Value → List (Addr × Obj) → Prop)
    (turn : ∀ i ys nw, i < n → J i ys nw → ∀ v I oI C oC D m₂ h tk (E' : Value → Shared → Prop), P i v → LCg.NsObj oC m₂ → m₂ x = some v → Fr h₀ L h m → News h₀ L h ((I, oI) :: (C, oC) :: (D, LCg.lst ys) :: nw) → LCg.Off3 I C D nw → ((@Ne Nat I C) ∧ (@Ne Nat I D) ∧ (@Ne Nat C D)) →
      wpAny (model prog w) A (eval elt (compEnvC scope cl C env)) (LCg.CompEnd h₀ L m { s with heap := h, toks := tk } I oI C oC D (LCg.lst ys) S (fun y news' => J (i + 1) (ys ++ [y]) news')) E' { s with heap := h, toks := tk })
    (hj : J 0 [] news) (fin : ∀ ys nw, J n ys nw → Fin ys nw) : LCg.CompRest prog w A h₀ L m env elt x scope cl s S P Fin n 0 [] news := by
  have all : ∀ j i ys nw, i + j = n → J i ys nw → LCg.CompRest prog w A h₀ L m env elt x scope cl s S P Fin j i ys nw := by
    intro j
    induction j with
    | zero => intro i ys nw e hJ; exact LCg.CompRest.zero (fin ys nw (by rw [← e]; exact hJ))
    | succ j ih =>
      intro i ys nw e hJ
      refine LCg.CompRest.succ fun v I oI C oC D m₂ h tk E' hP hC hx F N off ne => ?_
      exact wpAny_mono (turn i ys nw (by omega) hJ v I oI C oC D m₂ h tk E' hP hC hx F N off ne) (fun y s' q => compEnd_mono q fun nw' hJ' => ih _ _ _ (by omega) hJ') fun _ _ x => x
  exact all n 0 [] news (by omega) hj
end

/-- the comprehension's result so far -/
def kidsTo (rs : List R) (xs : List Value) (k i : Nat) : List Value :=
  (((List.range i).map (· + (k + 1))).filter fun j => decide ((rs[j]?.map (·.par)) = some (k : Int))).map fun j => xs.getD j .none
theorem kidsTo_zero (rs : List R) (xs : List Value) (k : Nat) : kidsTo rs xs k 0 = [] := rfl
theorem kidsTo_all (rs : List R) (xs : List Value) (k : Nat) : kidsTo rs xs k (rs.length - (k + 1)) = kidsOf rs xs k := rfl
theorem kidsTo_succ (rs : List R) (xs : List Value) (k i : Nat) : kidsTo rs xs k (i + 1) = kidsTo rs xs k i ++ (if (rs[i + (k + 1)]?.map (·.par)) = some (k : Int) then [xs.getD (i + (k + 1)) .none] else []) := by
  unfold kidsTo
  rw [List.range_succ, List.map_append, List.filter_append, List.map_append]
  congr 1
  simp only [List.map_cons, List.map_nil, List.filter_cons, List.filter_nil]
  split
  · rename_i h; rw [if_pos (of_decide_eq_true h)]; rfl
  · rename_i h; rw [if_neg (fun q => h (decide_eq_true q))]; rfl
end Mine
namespace Mine
section
variable {prog : Program} {w : World} {A : Around} {E : Value → Shared → Prop} {s : Shared} {h₀ : Heap} {L D : Addr} {m : Str → Option Value} {news news' : List (Addr × Obj)} {vs : List Value} {n : Nat} {k : Nat} {t : Tok} {v : Value}
theorem set_at {Q : Unit → Shared → Prop} (F : Fr h₀ L s.heap m) (N : News h₀ L s.heap news) (U : Upd D (listOf vs.toArray n) (listOf (vs.set k v).toArray n) news news') (h1 : k < vs.length) (hk : k ≤ 1000)
    (h : ∀ h', Fr h₀ L h' m → News h₀ L h' news' → Q () { s with heap := h' }) :
    wpAny (model prog w) A (setItem (.ref D) (.int (k : Int) t) v) Q E s := by
  obtain ⟨pre, post, rfl, rfl, a, b⟩ := U.split
  have z := N (D, listOf vs.toArray n) (List.mem_append.mpr (.inr (.head _)))
  refine ki_setAt z.1 (by omega) (by omega) (by rw [List.size_toArray]; omega) (h _ (F.change (Heap.SameBut.update ..) z.2.1 z.2.2) (ki_turn _ N a b ?_ ?_))
  · show vs.toArray.setIfInBounds (k : Int).toNat v = (vs.set k v).toArray
    apply Array.toList_inj.mp
    simp
  · simp
end
theorem kidIdx_gt {rs : List R} {k j : Nat} (h : j ∈ kidIdx rs k) : k < j ∧ j < rs.length := by
  obtain ⟨h1, _⟩ := List.mem_filter.mp h
  obtain ⟨i, hi, rfl⟩ := List.mem_map.mp h1
  have := List.mem_range.mp hi
  omega
theorem kidsOf_set {rs : List R} {xs : List Value} {k k' : Nat} {v : Value} (h : k ≤ k') : kidsOf rs (xs.set k v) k' = kidsOf rs xs k' := by
  unfold kidsOf
  refine List.map_congr_left fun j hj => ?_
  have := (kidIdx_gt hj).1
  rw [List.getD_eq_getElem?_getD, List.getD_eq_getElem?_getD, List.getElem?_set_ne (by omega)]
theorem name3 {h₀ h : Heap} {L a b c : Addr} {p : Addr × Obj} {o1 o2 o3 : Obj} {r : List (Addr × Obj)} (_ : News h₀ L h (p :: (a, o1) :: (b, o2) :: (c, o3) :: r)) : ∃ x y z, x = a ∧ y = b ∧ z = c := ⟨_, _, _, rfl, rfl, rfl⟩
theorem allLt_mem {d : Addr} {l : List (Addr × Obj)} (h : AllLt d l) : ∀ p ∈ l, p.1 < d := by
  induction l with
  | nil => exact fun _ hp => nomatch hp
  | cons q l ih =>
    intro p hp
    rcases List.mem_cons.mp hp with rfl | hp
    · exact h.1
    · exact ih h.2 p hp
theorem off1_mem {D : Addr} {l : List (Addr × Obj)} (h : LCg.Off1 D l) : ∀ p ∈ l, p.1 ≠ D := by
  induction l with
  | nil => exact fun _ hp => nomatch hp
  | cons q l ih =>
    intro p hp
    rcases List.mem_cons.mp hp with rfl | hp
    · exact h.1
    · exact ih h.2 p hp
end Mine
end
section
open PySem PySem.W PySem.Calls PyProof.Rows PySem.Spec
namespace Mine
theorem bj_step {w : World} {rs : List R} {g h : Heap} {L Ra M c1 c2 c3 x dx D d : Addr} {i k : Nat} {rest own : List (Addr × Obj)} {s₁ : Shared} {tk : Nat} {m' : Str → Option Value} {ol : Addr × Obj} {oP oM oR od oD : Obj} {v : Option Value} {xs : List Value} {e : Nat} {r₀ : R}
    (F : Fr g L h m') (N : News g L h (ol :: (x, instObj 44 dx) :: (dx, od) :: (D, oD) :: (c3, oP) :: (c2, oM) :: (c1, oR) :: (M, listOf (xs.set k (.ref x)).toArray e) :: (rest ++ own)))
    (hr₀ : rs[k]? = some r₀)
    (hod : ∃ t1 t2 t3 t4 tn tv n, od = dictOf [⟨PyData.keyHash w.params "name", .str "name" t1, .str r₀.nm tn⟩, ⟨PyData.keyHash w.params "attributes", .str "attributes" t2, .ref d⟩, ⟨PyData.keyHash w.params "children", .str "children" t3, .ref D⟩, ⟨PyData.keyHash w.params "text", .str "text" t4, tv⟩] n)
    (hoD : oD = LCg.lst (kidsTo rs xs k (rs.length - (k + 1))))
    (dP : oP.data = .cell v) (dM : oM.data = .cell (some (.ref M))) (dR : oR.data = .cell (some (.ref Ra)))
    (hw : WordsAt w g d r₀.id) (hkl : k < rs.length) (hki : rs.length - 1 - i = k) (hi : i < rs.length)
    (hxl : xs.length = rs.length) (hel : ∀ (k : Nat) (u : Value) (r : R), rs.length ≤ i + k → xs[k]? = some u → rs[k]? = some r → ElemIn w rest g u r (kidsOf rs xs k))
    (hoff : OwnOff own [c3, c2, c1, M]) (hoff1 : OwnOff own (rest.map (·.1))) (hrest : OwnOff rest [c3, c2, c1, M])
    (l1 : D < dx ∧ c3 < dx ∧ c2 < dx ∧ c1 < dx ∧ M < dx ∧ AllLt dx (rest ++ own)) (l2 : dx < x) (o1 : c3 ≠ D ∧ c2 ≠ D ∧ c1 ≠ D ∧ M ≠ D ∧ LCg.Off1 D (rest ++ own)) :
    TurnEndT g L (fun _ nx => BJ w rs g Ra M c1 c2 c3 (i + 1) nx) own s₁ .next { s₁ with heap := h, toks := tk } := by
  have ho1 : ∀ p ∈ own, p.1 < dx := fun p hp => allLt_mem l1.2.2.2.2.2 p (List.mem_append_right _ hp)
  have ho2 : ∀ p ∈ own, p.1 ≠ D := fun p hp => off1_mem o1.2.2.2.2 p (List.mem_append_right _ hp)
  refine ⟨rfl, h, tk, m', _, (c3, oP) :: (c2, oM) :: (c1, oR) :: (M, listOf (xs.set k (.ref x)).toArray e) :: ((x, instObj 44 dx) :: (dx, od) :: (D, oD) :: rest), rfl, F, N, ?_, ?_, ?_, oP, oM, oR, xs.set k (.ref x), e, v, _, rfl, dP, dM, dR, ?_, ?_, ?_⟩
  · intro p hp
    simp only [List.mem_cons, List.mem_append] at hp ⊢
    rcases hp with h | h | h | h | h | h | h | h <;> simp [h]
  · intro p hp
    simp only [List.mem_cons, List.mem_append]
    simp [hp]
  · intro p hp b hb
    have h1 := ho1 p hp
    have h2 := ho2 p hp
    simp only [List.map_cons, List.mem_cons] at hb
    rcases hb with rfl | rfl | rfl | rfl | rfl | rfl | rfl | hb
    · exact hoff p hp _ (by simp)
    · exact hoff p hp _ (by simp)
    · exact hoff p hp _ (by simp)
    · exact hoff p hp _ (by simp)
    · exact Nat.ne_of_lt (Nat.lt_trans h1 l2)
    · exact Nat.ne_of_lt h1
    · exact h2
    · exact hoff1 p hp b hb
  · intro p hp b hb
    obtain ⟨a1, a2, a3, a4, a5, _⟩ := l1
    obtain ⟨b1, b2, b3, b4, _⟩ := o1
    simp only [List.mem_cons] at hp
    rcases hp with rfl | rfl | rfl | hp
    · simp only [List.mem_cons, List.not_mem_nil, or_false] at hb
      rcases hb with rfl | rfl | rfl | rfl <;> exact Nat.ne_of_gt (Nat.lt_trans (by assumption) l2)
    · simp only [List.mem_cons, List.not_mem_nil, or_false] at hb
      rcases hb with rfl | rfl | rfl | rfl <;> exact Nat.ne_of_gt (by assumption)
    · simp only [List.mem_cons, List.not_mem_nil, or_false] at hb
      rcases hb with rfl | rfl | rfl | rfl <;> exact Ne.symm (by assumption)
    · exact hrest p hp b hb
  · simp [hxl]
  · intro k' u r hk' hu hr
    by_cases e1 : k' = k
    · subst e1
      rw [List.getElem?_set_self (by omega)] at hu
      cases hu
      rw [hr₀] at hr
      cases hr
      obtain ⟨t1, t2, t3, t4, tn, tv, n, hod⟩ := hod
      refine ⟨x, dx, d, D, rfl, ?_, ⟨t1, t2, t3, t4, tn, tv, n, ?_⟩, ⟨(kidsOf rs xs k').length, ?_⟩, hw⟩
      · simp
      · rw [← hod]; simp
      · rw [kidsOf_set (Nat.le_refl _)]
        show (D, LCg.lst (kidsTo rs xs k' (rs.length - (k' + 1)))) ∈ _
        rw [← hoD]
        simp
    · rw [List.getElem?_set_ne (fun q => e1 q.symm)] at hu
      rw [kidsOf_set (by omega)]
      exact (hel k' u r (by omega) hu hr).mono fun p hp => by simp [hp]

section
variable {prog : Program} {w : World} {A : Around} {E : Value → Shared → Prop} {s : Shared}
theorem item_zero {value slice : PySem.Expr} {l : Addr} {vs : List Value} {u : Tok} {v : Value} {Q : Value → Shared → Prop}
    (hl : s.heap.IsList l vs.toArray) (hx : vs[0]? = some v) (h : Q v s)
    (hs : subscripted slice false (.ref l) (.int 0 u) = operate [.ref l, .int 0 u] (getItem (.ref l) (.int 0 u)) := by with_unfolding_all rfl) :
    wpAny (model prog w) A (subscriptTail value slice (.ref l) (.int 0 u)) Q E s :=
  tail_any hl.typeIs slot_list_getitem.lookup (wpAny_getItem_list hl (by omega) (by omega) (by simpa using hx) h) hs
end
def LedAt (h0 h' : Heap) (led : List (Addr × Obj)) : Prop := ∀ p ∈ led, h'.get? p.1 = some p.2 ∧ h0.get? p.1 = none
theorem led_of {h0 g h : Heap} {L : Addr} {rest nx : List (Addr × Obj)} (N : News g L h nx) (hr : ∀ p ∈ rest, p ∈ nx) (hg : ∀ b o, h0.get? b = some o → g.get? b = some o) : LedAt h0 h rest := fun p hp => by
  refine ⟨(N p (hr p hp)).1, ?_⟩
  cases e : h0.get? p.1 with
  | none => rfl
  | some o => have := (N p (hr p hp)).2.2; rw [hg _ _ e] at this; cases this
theorem news_led {h₀ h0 h' : Heap} {L : Addr} {m : Str → Option Value} {news led : List (Addr × Obj)} (F : Fr h₀ L h0 m) (N : News h₀ L h' news) (hl : LedAt h0 h' led) : News h₀ L h' (news ++ led) := fun p hp => by
  rcases List.mem_append.mp hp with hp | hp
  · exact N p hp
  · refine ⟨(hl p hp).1, fun e => ?_, ?_⟩
    · obtain ⟨o, _, _, ho, _⟩ := F.ns
      have := (hl p hp).2
      rw [e, ho] at this; cases this
    · cases e : h₀.get? p.1 with
      | none => rfl
      | some o => have := (hl p hp).2; rw [F.keep _ _ e] at this; cases this
theorem led_off {h₀ h0 h' : Heap} {L : Addr} {news led : List (Addr × Obj)} (N : News h₀ L h0 news) (hl : LedAt h0 h' led) : OwnOff led (news.map (·.1)) := fun p hp b hb e => by
  obtain ⟨q, hq, rfl⟩ := List.mem_map.mp hb
  have := (hl p hp).2
  rw [e, (N q hq).1] at this; cases this

/-- the tree stands at v, by the ledger -/
def BuiltIn (w : World) (led : List (Addr × Obj)) (g : Heap) (v : Value) (rs : List R) (xs : List Value) : Prop :=
  xs.length = rs.length ∧ xs[0]? = some v ∧ ∀ (k : Nat) (u : Value) (r : R), xs[k]? = some u → rs[k]? = some r → ElemIn w led g u r (kidsOf rs xs k)
theorem bj_done {w : World} {rs : List R} {g h h0 : Heap} {L : Addr} {rest nx : List (Addr × Obj)} {xs : List Value} {v : Value} (N : News g L h nx) (hr : ∀ p ∈ rest, p ∈ nx) (hg : ∀ b o, h0.get? b = some o → g.get? b = some o)
    (hg' : ∀ b o, g.get? b = some o → h.get? b = some o) (hxl : xs.length = rs.length) (hv : xs[0]? = some v)
    (hel : ∀ (k : Nat) (u : Value) (r : R), rs.length ≤ rs.length + k → xs[k]? = some u → rs[k]? = some r → ElemIn w rest g u r (kidsOf rs xs k)) : ∃ led xs, LedAt h0 h led ∧ BuiltIn w led h v rs xs :=
  ⟨rest, xs, led_of N hr hg, hxl, hv, fun k u r h1 h2 => let ⟨x, dx, d, c, q⟩ := hel k u r (by omega) h1 h2; ⟨x, dx, d, c, q.mono (fun _ _ e => e) hg'⟩⟩
end Mine
end
section
open PySem PySem.W PySem.Calls PyProof.Rows PySem.Spec
namespace Mine

theorem at_lt {α : Type} {rs : List α} {k : Nat} (h : k < rs.length) : ∃ r, rs[k]? = some r := ⟨_, List.getElem?_eq_getElem h⟩

/-- the places around place k, the outermost one first -/
def anc (rs : List R) (k : Nat) : List Nat :=
  match rs[k]? with
  | none => []
  | some r => if h : 0 ≤ r.par ∧ r.par < (k : Int) then anc rs r.par.toNat ++ [r.par.toNat] else []
termination_by k
decreasing_by omega

/-- the ids of the first i places, each once, with the first place that has it -/
def firsts (rs : List R) : Nat → List (Str × Nat)
  | 0 => []
  | i + 1 => firsts rs i ++ (match rs[i]?.bind (·.id) with
    | some x => if x ∈ (firsts rs i).map (·.1) then [] else [(x, i)]
    | none => [])

/-- the places not yet met that stand in one that is met -/
def pend (rs : List R) (i : Nat) : List Nat :=
  (List.range rs.length).filter fun k => decide (i ≤ k) && (match rs[k]? with | some r => decide (r.par < (i : Int)) | none => false)

theorem filter_split (A B : Nat → Bool) : ∀ (l : List Nat), l.Pairwise (· < ·) → (∀ a ∈ l, ∀ b ∈ l, A a = true → B b = true → a < b) →
    (l.filter fun k => A k || B k) = l.filter A ++ l.filter B := by
  intro l
  induction l with
  | nil => intros; rfl
  | cons x l ih =>
    intro hs hab
    have ih' := ih (List.pairwise_cons.mp hs).2 fun a ha b hb => hab a (.tail _ ha) b (.tail _ hb)
    have hx := (List.pairwise_cons.mp hs).1
    cases hA : A x with
    | true =>
      have hBx : B x = false := by
        cases h : B x with
        | false => rfl
        | true => exact absurd (hab x (.head _) x (.head _) hA h) (Nat.lt_irrefl _)
      simp only [List.filter_cons, hA, hBx, Bool.true_or, if_true, Bool.false_eq_true, if_false, ih', List.cons_append]
    | false =>
      cases hB : B x with
      | false => simp only [List.filter_cons, hA, hB, Bool.or_false, Bool.false_eq_true, if_false, ih']
      | true =>
        have hnoA : l.filter A = [] := by
          rw [List.filter_eq_nil_iff]
          intro a ha h
          have h1 := hx a ha
          have h2 := hab a (.tail _ ha) x (.head _) h hB
          omega
        simp only [List.filter_cons, hA, hB, Bool.or_true, if_true, Bool.false_eq_true, if_false, ih', hnoA, List.nil_append]

theorem range_sorted (n : Nat) : (List.range n).Pairwise (· < ·) := List.pairwise_lt_range

theorem pend_zero {rs : List R} (hp : Pre rs) : pend rs 0 = [0] := by
  obtain ⟨r0, h0⟩ := at_lt hp.pos
  unfold pend
  obtain ⟨n, hn⟩ : ∃ n, rs.length = n + 1 := ⟨rs.length - 1, by have := hp.pos; omega⟩
  rw [hn, List.range_succ_eq_map, List.filter_cons]
  have e : (decide (0 ≤ 0) && (match rs[0]? with | some r => decide (r.par < ((0 : Nat) : Int)) | none => false)) = true := by
    rw [h0]; simp [hp.root _ h0]
  rw [if_pos e]
  congr 1
  rw [List.filter_eq_nil_iff]
  intro a ha
  obtain ⟨b, hb, rfl⟩ := List.mem_map.mp ha
  have hb' := List.mem_range.mp hb
  obtain ⟨rb, hbr⟩ := at_lt (rs := rs) (k := b + 1) (by omega)
  have := (hp.par (b + 1) _ (by omega) hbr).1
  simp only [Nat.succ_eq_add_one, hbr]
  simp
  omega

/-- what is left of the pending places when the least is taken -/
def later (rs : List R) (i : Nat) : List Nat :=
  (List.range rs.length).filter fun k => decide (i < k) && (match rs[k]? with | some r => decide (r.par < (i : Int)) | none => false)

theorem par_lt {rs : List R} (hp : Pre rs) {k : Nat} {r : R} (h : rs[k]? = some r) : r.par < (k : Int) := by
  cases k with
  | zero => rw [hp.root _ h]; omega
  | succ k => exact (hp.par _ _ (by omega) h).2

theorem pend_head {rs : List R} (hp : Pre rs) {i : Nat} (hi : i < rs.length) : pend rs i = i :: later rs i := by
  obtain ⟨ri, hir⟩ := at_lt hi
  have e : pend rs i = (List.range rs.length).filter fun k => (fun k => decide (k = i)) k || (fun k => decide (i < k) && (match rs[k]? with | some r => decide (r.par < (i : Int)) | none => false)) k := by
    unfold pend
    refine List.filter_congr fun k hk => ?_
    obtain ⟨rk, hkr⟩ := at_lt (List.mem_range.mp hk)
    simp only [hkr]
    by_cases e1 : k = i
    · subst e1
      have := par_lt hp hkr
      simp [this]
    · by_cases e2 : i < k
      · simp [e1, e2, Nat.le_of_lt e2]
      · have e3 : ¬ i ≤ k := by omega
        simp [e1, e2, e3]
  rw [e, filter_split _ _ _ (range_sorted _)]
  · unfold later
    have : ∀ n, i < n → (List.range n).filter (fun k => decide (k = i)) = [i] := by
      intro n
      induction n with
      | zero => omega
      | succ n ih =>
        intro hn
        rw [List.range_succ, List.filter_append]
        by_cases h : n = i
        · subst h
          have : (List.range n).filter (fun k => decide (k = n)) = [] := by
            rw [List.filter_eq_nil_iff]; intro a ha; have := List.mem_range.mp ha; simp; omega
          rw [this]; simp
        · rw [ih (by omega)]; simp [h]
    rw [this _ hi]; rfl
  · intro a _ b _ h1 h2
    simp only [decide_eq_true_eq, Bool.and_eq_true] at h1 h2
    omega

theorem kidIdx_eq {rs : List R} (hp : Pre rs) {i : Nat} (hi : i < rs.length) : kidIdx rs i = (List.range rs.length).filter fun k => decide ((rs[k]?.map (·.par)) = some (i : Int)) := by
  unfold kidIdx
  have e : List.range rs.length = List.range (i + 1) ++ (List.range (rs.length - (i + 1))).map (· + (i + 1)) := by
    have := List.range_add (n := i + 1) (m := rs.length - (i + 1))
    rw [show (i + 1) + (rs.length - (i + 1)) = rs.length by omega] at this
    rw [this]
    congr 1
    refine List.map_congr_left fun a _ => by omega
  rw [e, List.filter_append]
  have : (List.range (i + 1)).filter (fun k => decide ((rs[k]?.map (·.par)) = some (i : Int))) = [] := by
    rw [List.filter_eq_nil_iff]
    intro a ha
    have ha' := List.mem_range.mp ha
    obtain ⟨ra, har⟩ := at_lt (rs := rs) (k := a) (by omega)
    have := par_lt hp har
    simp only [har, Option.map_some, decide_eq_true_eq, Option.some.injEq]
    omega
  rw [this]
  rfl

theorem pend_succ {rs : List R} (hp : Pre rs) {i : Nat} (hi : i < rs.length) : pend rs (i + 1) = kidIdx rs i ++ later rs i := by
  have e : pend rs (i + 1) = (List.range rs.length).filter fun k => (fun k => decide ((rs[k]?.map (·.par)) = some (i : Int))) k || (fun k => decide (i < k) && (match rs[k]? with | some r => decide (r.par < (i : Int)) | none => false)) k := by
    unfold pend
    refine List.filter_congr fun k hk => ?_
    obtain ⟨rk, hkr⟩ := at_lt (List.mem_range.mp hk)
    have hlt := par_lt hp hkr
    simp only [hkr, Option.map_some, Option.some.injEq]
    by_cases e1 : i < k
    · simp only [Nat.succ_le_of_lt e1, e1, decide_true, Bool.true_and]
      rw [← Bool.decide_or]
      exact decide_eq_decide.mpr (by omega)
    · have e2 : ¬ i + 1 ≤ k := by omega
      simp only [e1, e2, decide_false, Bool.false_and, Bool.or_false]
      exact (decide_eq_false (by omega)).symm
  rw [e, filter_split _ _ _ (range_sorted _), kidIdx_eq hp hi]
  · rfl
  · intro a ha b hb h1 h2
    obtain ⟨ra, har⟩ := at_lt (List.mem_range.mp ha)
    obtain ⟨rb, hbr⟩ := at_lt (List.mem_range.mp hb)
    simp only [har, hbr, Option.map_some, Option.some.injEq, decide_eq_true_eq, Bool.and_eq_true] at h1 h2
    have hlt := par_lt hp har
    rcases Nat.lt_trichotomy a b with h | h | h
    · exact h
    · subst h; rw [har] at hbr; cases hbr; omega
    · exact absurd h1 (hp.nest i b a _ _ h2.1 h hbr har h2.2)

theorem pend_end (rs : List R) : pend rs rs.length = [] := by
  unfold pend
  rw [List.filter_eq_nil_iff]
  intro a ha
  have := List.mem_range.mp ha
  simp
  omega

theorem anc_root {rs : List R} (hp : Pre rs) : anc rs 0 = [] := by
  obtain ⟨r0, h0⟩ := at_lt hp.pos
  rw [anc, h0]
  simp [hp.root _ h0]
theorem anc_kid {rs : List R} {i k : Nat} {r : R} (hk : rs[k]? = some r) (hr : r.par = (i : Int)) (hik : i < k) : anc rs k = anc rs i ++ [i] := by
  rw [anc, hk]
  simp only
  rw [dif_pos (by omega), hr]
  rfl
theorem mem_kidIdx {rs : List R} {i k : Nat} (h : k ∈ kidIdx rs i) : ∃ r, rs[k]? = some r ∧ r.par = (i : Int) ∧ i < k := by
  have h1 := kidIdx_gt h
  have h2 := (List.mem_filter.mp h).2
  obtain ⟨rk, hkr⟩ := at_lt h1.2
  rw [hkr] at h2
  exact ⟨_, hkr, by simpa using h2, h1.1⟩
theorem anc_lt {rs : List R} : ∀ (k : Nat), ∀ j ∈ anc rs k, j < k := by
  intro k
  induction k using Nat.strongRecOn with
  | ind k ih =>
    intro j hj
    rw [anc] at hj
    split at hj
    · cases hj
    · split at hj
      · rename_i r hr h
        rcases List.mem_append.mp hj with h1 | h1
        · have := ih _ (by omega) j h1; omega
        · have := List.mem_singleton.mp h1; omega
      · cases hj
theorem anc_length {rs : List R} : ∀ (k : Nat), (anc rs k).length ≤ k := by
  intro k
  induction k using Nat.strongRecOn with
  | ind k ih =>
    rw [anc]
    split
    · simp
    · split
      · rename_i r hr h
        have := ih r.par.toNat (by omega)
        rw [List.length_append, List.length_singleton]
        omega
      · simp
end Mine
end
section
open PySem PySem.W PySem.Calls PyProof.Rows PySem.Spec
namespace Mine
abbrev tupOf (vs : List Value) : Obj := { cls := .type "tuple", data := .seq vs.toArray }

section
variable {prog : Program} {w : World} {A : Around} {E : Value → Shared → Prop} {s : Shared} {h₀ : Heap} {L : Addr} {m : Str → Option Value} {news news' : List (Addr × Obj)}

theorem ne_nil_at {l b : Addr} {vs : List Value} {Q : Value → Shared → Prop} (hl : s.heap.IsList l vs.toArray) (hb : s.heap.IsList b #[]) (hu : A.units < cLine) (h : Q (.bool (decide (vs ≠ []))) s) :
    wpAny (model prog w) A (compareOp .NotEq (.ref l) (.ref b)) Q E s := by
  refine cmp_ofNotEq ?_
  by_cases hv : vs = []
  · subst hv
    refine SeqAt.RcNeAt.lists hl hb rfl hu (e := fun _ => true) (fun j h1 _ => absurd h1 (by simp)) prog w E Q ?_
    simpa using h
  · refine SeqAt.RcNeAt.lists_lengths hl hb ?_ hu prog w E Q ?_
    · cases vs with
      | nil => exact absurd rfl hv
      | cons x r => simp
    · simpa [hv] using h

theorem pop_at {D : Addr} {p : List Value} {y : Value} {n : Nat} {Q : Value → Shared → Prop} (F : Fr h₀ L s.heap m) (N : News h₀ L s.heap news) (U : Upd D (listOf (p ++ [y]).toArray n) (listOf p.toArray (n + 1)) news news') (hz : p.length ≤ 100)
    (h : ∀ h', Fr h₀ L h' m → News h₀ L h' news' → Q y { s with heap := h' }) : wpAny (model prog w) A (call (.builtin "list.pop") [.ref D]) Q E s :=
  kl_pop F N (by simpa using kpa_last y p) U (by simp; rw [sizeLine_eq]; omega) h

theorem upd_mid {d : Addr} {o o' : Obj} {pre post : List (Addr × Obj)} (a : ∀ p ∈ pre, p.1 ≠ d) (c : ∀ p ∈ post, p.1 ≠ d) : Upd d o o' (pre ++ (d, o) :: post) (pre ++ (d, o') :: post) := by
  induction pre with
  | nil => exact .head c
  | cons q pre ih => exact .tail (a q (.head _)) (ih fun p hp => a p (.tail _ hp))

theorem ext_at {D b : Addr} {xs ys : List Value} {n n2 : Nat} {g : Obj → List (Addr × Obj)} {Q : Value → Shared → Prop} (F : Fr h₀ L s.heap m) (N : News h₀ L s.heap news) (hb : (b, listOf ys.toArray n2) ∈ news) (U : UpdF D (listOf xs.toArray n) news g)
    (hz : xs.length + ys.length ≤ 200) (h : ∀ h' k, Fr h₀ L h' m → News h₀ L h' (g (listOf (xs ++ ys).toArray k)) → Q .none { s with heap := h' }) : wpAny (model prog w) A (call (.builtin "list.extend") [.ref D, .ref b]) Q E s := by
  obtain ⟨pre, post, rfl, hg, a, c⟩ := U.split
  have U' : ∀ o', Upd D (listOf xs.toArray n) o' (pre ++ (D, listOf xs.toArray n) :: post) (g o') := fun o' => by
    rw [hg o']; exact upd_mid a c
  have hsz : ¬(!xs.toArray.isEmpty && Builtin.List.listTooLong (xs.toArray.size + ys.toArray.size)) = true := by
    have : Builtin.List.listTooLong (xs.toArray.size + ys.toArray.size) = false := by
      simp only [Builtin.List.listTooLong, List.size_toArray, sizeLine_eq, decide_eq_false_iff_not]; omega
    rw [this]; simp
  by_cases hy : ys = []
  · subst hy
    refine kxn_extend F N hb rfl (U' (listOf xs.toArray n)) hsz (by simp; rw [sizeLine_eq]; simp at hz; omega) (by simp [sizeLine_eq]; simp at hz; omega) fun h' F' N' => h h' n F' (by rw [List.append_nil]; exact N')
  · refine kl_extend F N hb (l := xs ++ ys) (by simp) (by simpa using hy) (U' _) hsz (by simp; rw [sizeLine_eq]; omega) (by simp [sizeLine_eq]; omega) fun h' F' N' => h h' _ F' N'

theorem tup_snoc {t b : Addr} {vs : List Value} {e : Value} {Q : Value → Shared → Prop} (F : Fr h₀ L s.heap m) (N : News h₀ L s.heap news) (ht : IsTup s.heap t vs.toArray) (hb : (b, tupOf [e]) ∈ news) (hz : vs.length ≤ 100)
    (h : ∀ D h', Fr h₀ L h' m → News h₀ L h' ((D, tupOf (vs ++ [e])) :: news) → b ≤ D → Q (.ref D) { s with heap := h' }) : wpAny (model prog w) A (binaryOp .Add (.ref t) (.ref b)) Q E s := by
  refine add_tuples F N ht (ws := [e]) ⟨_, N.get hb, rfl, _, rfl⟩ (fun q => ?_) (fun _ q => absurd q (by simp)) (fun _ _ h' F' N' => h _ h' F' N' (Nat.le_of_lt (Heap.lt_size (N.get hb)))) (by simp; rw [sizeLine_eq]; omega)
  subst q
  refine h b s.heap F (fun p hp => ?_) (Nat.le_refl _)
  rcases List.mem_cons.mp hp with rfl | hp
  · exact N _ hb
  · exact N p hp

theorem notin_at {d : Addr} {o : Obj} {kvs : List (Str × Value)} {x : Str} {t : Tok} {Q : Value → Shared → Prop} (N : News h₀ L s.heap news) (hm : (d, o) ∈ news) (hd : o.IsDictOf (strKind prog w) kvs) (lo : (d == sysModules) = false)
    (h : Q (.bool (!(valueAt kvs x).isSome)) { s with toks := s.toks + 1 }) : wpAny (model prog w) A (compareOp .NotIn (.str x t) (.ref d)) Q E s :=
  wpAny_notIn_of (strKind_is prog w x t) lo (Heap.dictOf_iff.mpr ⟨o, N.get hm, hd⟩).mapOf h

theorem put_at {d : Addr} {o : Obj} {kvs : List (Str × Value)} {x : Str} {t : Tok} {v : Value} {g : Obj → List (Addr × Obj)} {Q : Unit → Shared → Prop} (F : Fr h₀ L s.heap m) (N : News h₀ L s.heap news) (U : UpdF d o news g) (hd : o.IsDictOf (strKind prog w) kvs) (hz : kvs.length ≤ 100)
    (h : ∀ h' o', Fr h₀ L h' m → News h₀ L h' (g o') → o'.IsDictOf (strKind prog w) (stored kvs x v) → Q () { s with heap := h', toks := s.toks + 1 }) : wpAny (model prog w) A (setItem (.ref d) (.str x t) v) Q E s := by
  obtain ⟨own, rest, rfl, hg, h1, h2⟩ := U.split
  have hm := N (d, o) (List.mem_append_right _ (.head _))
  refine wpAny_setItem_pairs (hsz := by rw [sizeLine_eq]; omega) (strKind_is prog w x t) (Heap.dictOf_iff.mpr ⟨o, hm.1, hd⟩) fun h' hmm hs => ?_
  obtain ⟨o', ho', hd'⟩ := Heap.dictOf_iff.mp hmm
  exact h h' o' (F.change hs hm.2.1 hm.2.2) (hg o' ▸ N.setIn h1 h2 hs ho') hd'
end

section
variable {w : World} {A : Around} {E : Value → Shared → Prop} {s : Shared}
theorem getMethod_words {d : Addr} {o : Option Str} {pl : Sem Bool} {Q : Value × List Value → Shared → Prop} (hw : WordsAt w s.heap d o) (h : Q (.builtin "dict.get", [.ref d]) s) :
    wpAny (model PySem.Challenge.rw_xm0709_01.row.prog w) A (getMethod (.ref d) "get" pl) Q E s := by
  obtain ⟨_, kvs, hd, _⟩ := hw
  exact getMethod_builtin hd.typeIs PySem.F.plainAttrs_dict PySem.F.slot_dict_get PySem.F.type_dict_get hd.mapOf.noDict h
theorem get_none {d : Addr} {t : Tok} {Q : Value → Shared → Prop} (hw : WordsAt w s.heap d none) (h : Q .none { s with toks := s.toks + 1 }) :
    wpAny (model PySem.Challenge.rw_xm0709_01.row.prog w) A (call (.builtin "dict.get") [.ref d, .str "id" t]) Q E s := by
  obtain ⟨lo, kvs, hd, hi⟩ := hw
  have e : valueAt kvs "id" = none := hi
  exact call_meetsIn PySem.F.slot_dict_get hd.typeIs PySem.F.entry_dict_get (PySem.F.args_dict_get_2 _ _) (meets_dict_get (strKind _ w) d (strKind_is _ w "id" t) lo) ⟨_, hd.mapOf, by rw [e]; exact h⟩
theorem get_some {d : Addr} {t : Tok} {x : Str} {Q : Value → Shared → Prop} (hw : WordsAt w s.heap d (some x)) (h : ∀ t', Q (.str x t') { s with toks := s.toks + 1 }) :
    wpAny (model PySem.Challenge.rw_xm0709_01.row.prog w) A (call (.builtin "dict.get") [.ref d, .str "id" t]) Q E s := by
  obtain ⟨lo, kvs, hd, t', e⟩ := hw
  exact call_meetsIn PySem.F.slot_dict_get hd.typeIs PySem.F.entry_dict_get (PySem.F.args_dict_get_2 _ _) (meets_dict_get (strKind _ w) d (strKind_is _ w "id" t) lo) ⟨_, hd.mapOf, by rw [e]; exact h t'⟩
end
end Mine
end
section
open PySem PySem.W PySem.Calls PyProof.Rows PySem.Spec
namespace Mine
theorem AllAt.nil {α : Type} {F : Value → α → Prop} : AllAt F [] [] := ⟨rfl, fun i v r h => by simp at h⟩
theorem AllAt.snoc {α : Type} {F : Value → α → Prop} {vs : List Value} {ks : List α} {v : Value} {k : α} (h : AllAt F vs ks) (hv : F v k) : AllAt F (vs ++ [v]) (ks ++ [k]) := by
  refine ⟨by simp [h.1], fun i u r h1 h2 => ?_⟩
  rcases Nat.lt_trichotomy i vs.length with hi | hi | hi
  · rw [List.getElem?_append_left hi] at h1
    rw [List.getElem?_append_left (h.1 ▸ hi)] at h2
    exact h.2 i u r h1 h2
  · subst hi
    rw [List.getElem?_append_right (Nat.le_refl _), Nat.sub_self] at h1
    rw [h.1, List.getElem?_append_right (Nat.le_refl _), Nat.sub_self] at h2
    cases h1; cases h2; exact hv
  · have : (vs ++ [v])[i]? = none := List.getElem?_eq_none (by simp; omega)
    rw [this] at h1; cases h1
theorem AllAt.unsnoc {α : Type} {F : Value → α → Prop} {vs : List Value} {ks : List α} {k : α} (h : AllAt F vs (ks ++ [k])) : ∃ p v, vs = p ++ [v] ∧ AllAt F p ks ∧ F v k := by
  have hl := h.1
  simp only [List.length_append, List.length_singleton] at hl
  have hne : vs ≠ [] := fun e => by rw [e] at hl; simp at hl
  refine ⟨vs.dropLast, vs.getLast hne, (List.dropLast_concat_getLast hne).symm, ⟨by rw [List.length_dropLast]; omega, fun i u r h1 h2 => ?_⟩, ?_⟩
  · have hi : i < ks.length := (List.getElem?_eq_some_iff.mp h2).1
    refine h.2 i u r ?_ (by rw [List.getElem?_append_left hi]; exact h2)
    rw [List.getElem?_dropLast] at h1
    split at h1
    · exact h1
    · cases h1
  · refine h.2 ks.length _ _ ?_ (by rw [List.getElem?_append_right (Nat.le_refl _), Nat.sub_self]; rfl)
    rw [List.getLast_eq_getElem, List.getElem?_eq_getElem (by omega)]
    congr 2
    omega
theorem AllAt.append {α : Type} {F : Value → α → Prop} {vs ws : List Value} {ks js : List α} (h : AllAt F vs ks) (h' : AllAt F ws js) : AllAt F (vs ++ ws) (ks ++ js) := by
  refine ⟨by simp [h.1, h'.1], fun i u r h1 h2 => ?_⟩
  by_cases hi : i < vs.length
  · rw [List.getElem?_append_left hi] at h1
    rw [List.getElem?_append_left (h.1 ▸ hi)] at h2
    exact h.2 i u r h1 h2
  · rw [List.getElem?_append_right (by omega)] at h1
    rw [List.getElem?_append_right (by have := h.1; omega), ← h.1] at h2
    exact h'.2 _ u r h1 h2
theorem AllAt.mono {α : Type} {F F' : Value → α → Prop} {vs : List Value} {ks : List α} (h : AllAt F vs ks) (hf : ∀ v k, F v k → F' v k) : AllAt F' vs ks := ⟨h.1, fun i u r h1 h2 => hf _ _ (h.2 i u r h1 h2)⟩
theorem AllAt.empty {α : Type} {F : Value → α → Prop} {vs : List Value} (h : AllAt F vs []) : vs = [] := List.eq_nil_of_length_eq_zero h.1

def wayVals (rs : List R) (xs : List Value) (k : Nat) : List Value := (anc rs k).map fun j => xs.getD j .none
def WayIn (led : List (Addr × Obj)) (rs : List R) (xs : List Value) (v : Value) (k : Nat) : Prop := ∃ ta, v = .ref ta ∧ (ta, tupOf (wayVals rs xs k)) ∈ led
def StkIn (led : List (Addr × Obj)) (rs : List R) (xs : List Value) (v : Value) (k : Nat) : Prop :=
  ∃ t ta u, v = .ref t ∧ xs[k]? = some u ∧ (t, tupOf [u, .ref ta]) ∈ led ∧ (ta, tupOf (wayVals rs xs k)) ∈ led
theorem WayIn.mono {led led' : List (Addr × Obj)} {rs : List R} {xs : List Value} {v : Value} {k : Nat} (h : WayIn led rs xs v k) (hs : ∀ p ∈ led, p ∈ led') : WayIn led' rs xs v k := let ⟨a, b, c⟩ := h; ⟨a, b, hs _ c⟩
theorem StkIn.mono {led led' : List (Addr × Obj)} {rs : List R} {xs : List Value} {v : Value} {k : Nat} (h : StkIn led rs xs v k) (hs : ∀ p ∈ led, p ∈ led') : StkIn led' rs xs v k := let ⟨a, b, c, d, e, f, g⟩ := h; ⟨a, b, c, d, e, hs _ f, hs _ g⟩
def KvsIn (led : List (Addr × Obj)) (rs : List R) (xs : List Value) (kvs : List (Str × Value)) (fs : List (Str × Nat)) : Prop :=
  kvs.length = fs.length ∧ ∀ (j : Nat) (p : Str × Value) (q : Str × Nat), kvs[j]? = some p → fs[j]? = some q → p.1 = q.1 ∧ WayIn led rs xs p.2 q.2
theorem KvsIn.mono {led led' : List (Addr × Obj)} {rs : List R} {xs : List Value} {kvs : List (Str × Value)} {fs : List (Str × Nat)} (h : KvsIn led rs xs kvs fs) (hs : ∀ p ∈ led, p ∈ led') : KvsIn led' rs xs kvs fs :=
  ⟨h.1, fun j p q h1 h2 => let ⟨a, b⟩ := h.2 j p q h1 h2; ⟨a, b.mono hs⟩⟩
theorem KvsIn.keys {led : List (Addr × Obj)} {rs : List R} {xs : List Value} {kvs : List (Str × Value)} {fs : List (Str × Nat)} (h : KvsIn led rs xs kvs fs) : kvs.map (·.1) = fs.map (·.1) := by
  apply List.ext_getElem?
  intro j
  rw [List.getElem?_map, List.getElem?_map]
  by_cases hj : j < kvs.length
  · obtain ⟨p, hp⟩ := at_lt hj
    obtain ⟨q, hq⟩ := at_lt (rs := fs) (k := j) (h.1 ▸ hj)
    rw [hp, hq]
    exact congrArg some (h.2 j p q hp hq).1
  · rw [List.getElem?_eq_none (by omega), List.getElem?_eq_none (by have := h.1; omega)]; rfl
theorem KvsIn.snoc {led : List (Addr × Obj)} {rs : List R} {xs : List Value} {kvs : List (Str × Value)} {fs : List (Str × Nat)} {x : Str} {v : Value} {k : Nat} (h : KvsIn led rs xs kvs fs) (hv : WayIn led rs xs v k) : KvsIn led rs xs (kvs ++ [(x, v)]) (fs ++ [(x, k)]) := by
  refine ⟨by simp [h.1], fun j p q h1 h2 => ?_⟩
  rcases Nat.lt_trichotomy j kvs.length with hi | hi | hi
  · rw [List.getElem?_append_left hi] at h1
    rw [List.getElem?_append_left (h.1 ▸ hi)] at h2
    exact h.2 j p q h1 h2
  · subst hi
    rw [List.getElem?_append_right (Nat.le_refl _), Nat.sub_self] at h1
    rw [h.1, List.getElem?_append_right (Nat.le_refl _), Nat.sub_self] at h2
    cases h1; cases h2; exact ⟨rfl, hv⟩
  · have : (kvs ++ [(x, v)])[j]? = none := List.getElem?_eq_none (by simp; omega)
    rw [this] at h1; cases h1
theorem valueAt_isSome {kvs : List (Str × Value)} {x : Str} : (valueAt kvs x).isSome = decide (x ∈ kvs.map (·.1)) := by
  unfold valueAt
  induction kvs with
  | nil => rfl
  | cons kv kvs ih =>
    by_cases h : kv.1 = x
    · subst h; simp
    · have h' : ¬ x = kv.1 := fun e => h e.symm
      simp only [List.find?_cons, decide_eq_false h, List.map_cons, List.mem_cons]
      rw [ih]
      simp [h']
theorem valueAt_none {kvs : List (Str × Value)} {x : Str} (h : ¬ x ∈ kvs.map (·.1)) : valueAt kvs x = none := by
  have := valueAt_isSome (kvs := kvs) (x := x)
  rw [decide_eq_false h] at this
  exact Option.not_isSome_iff_eq_none.mp (by rw [this]; simp)
theorem firsts_length (rs : List R) : ∀ i, (firsts rs i).length ≤ i
  | 0 => Nat.le_refl _
  | i + 1 => by
    rw [firsts, List.length_append]
    have := firsts_length rs i
    split
    · split
      · simp; omega
      · simp; omega
    · simp; omega

/-- what stands between two turns of around_table's loop -/
def AJ (w : World) (rs : List R) (xs : List Value) (f left cA cE : Addr) (i : Nat) (nx : List (Addr × Obj)) : Prop :=
  ∃ (oA oE od : Obj) (kvs : List (Str × Value)) (stk : List Value) (e : Nat) (vA vE : Option Value) (rest : List (Addr × Obj)),
    nx = (cA, oA) :: (cE, oE) :: (f, od) :: (left, listOf stk.toArray e) :: rest ∧ oA.data = .cell vA ∧ oE.data = .cell vE ∧ od.IsDictOf (strKind PySem.Challenge.rw_xm0709_01.row.prog w) kvs ∧
    OwnOff rest [cA, cE, f, left] ∧ KvsIn rest rs xs kvs (firsts rs i) ∧ AllAt (StkIn rest rs xs) stk (pend rs i).reverse

section
variable {prog : Program} {w : World} {A : Around} {E : Value → Shared → Prop} {s : Shared}
theorem ne_nil_t {l b : Addr} {p : List Value} {y : Value} {Q : Value → Shared → Prop} (hl : s.heap.IsList l (p ++ [y]).toArray) (hb : s.heap.IsList b #[]) (hu : A.units < cLine) (h : Q (.bool true) s) :
    wpAny (model prog w) A (compareOp .NotEq (.ref l) (.ref b)) Q E s := ne_nil_at hl hb hu (by rw [decide_eq_true (by simp)]; exact h)
theorem ne_nil_f {l b : Addr} {Q : Value → Shared → Prop} (hl : s.heap.IsList l #[]) (hb : s.heap.IsList b #[]) (hu : A.units < cLine) (h : Q (.bool false) s) :
    wpAny (model prog w) A (compareOp .NotEq (.ref l) (.ref b)) Q E s := ne_nil_at (vs := []) hl hb hu (by rw [decide_eq_false (by simp)]; exact h)
end
theorem name4 {h₀ h : Heap} {L a b c d : Addr} {p : Addr × Obj} {o1 o2 o3 o4 : Obj} {r : List (Addr × Obj)} (_ : News h₀ L h (p :: (a, o1) :: (b, o2) :: (c, o3) :: (d, o4) :: r)) : ∃ x y z u, x = a ∧ y = b ∧ z = c ∧ u = d := ⟨_, _, _, _, rfl, rfl, rfl, rfl⟩
theorem fr_one {g h : Heap} {L : Addr} {m : Str → Option Value} {a : Str} {va : Value} (F : Fr g L h m) (ha : m a = some va) : Fr g L h (fun y => if y = a then some va else m y) := by
  have e : (fun y => if y = a then some va else m y) = m := by
    funext y
    by_cases h1 : y = a
    · subst h1; rw [if_pos rfl, ha]
    · rw [if_neg h1]
  rw [e]; exact F
theorem fr_two {g h : Heap} {L : Addr} {m : Str → Option Value} {a b : Str} {va vb : Value} (F : Fr g L h m) (ha : m a = some va) (hb : m b = some vb) (hab : a ≠ b) : Fr g L h (fun y => if y = a then some va else if y = b then some vb else m y) := by
  have := fr_one (fr_one F hb) (a := a) (va := va) (by rw [if_neg hab, ha])
  exact this
theorem inst_lift {h h' : Heap} {x C dx : Addr} {od : Obj} (I : InstAt h x (instObj C dx) C (some od)) (k : ∀ b o, h.get? b = some o → h'.get? b = some o) : InstAt h' x (instObj C dx) C (some od) :=
  ⟨k _ _ I.at_, I.cls, I.no, k _ _ I.dict⟩
theorem kidsOf_len (rs : List R) (xs : List Value) (k : Nat) : (kidsOf rs xs k).length ≤ rs.length := by
  unfold kidsOf kidIdx
  rw [List.length_map]
  refine Nat.le_trans (List.length_filter_le _ _) ?_
  rw [List.length_map, List.length_range]
  omega
theorem later_len (rs : List R) (i : Nat) : (later rs i).length ≤ rs.length := by
  unfold later
  refine Nat.le_trans (List.length_filter_le _ _) ?_
  rw [List.length_range]
  exact Nat.le_refl _
end Mine
end
section
open PySem PySem.W PySem.Calls PyProof.Rows PySem.Spec
namespace Mine
section
variable {prog : Program} {w : World} {A : Around} {E : Value → Shared → Prop} {s : Shared} {h₀ : Heap} {L l : Addr} {m : Str → Option Value} {news : List (Addr × Obj)} {value slice : PySem.Expr} {vs : List Value} {vk : Value} {ops : List Value} {Q : Value → Shared → Prop}
theorem rev_at (F : Fr h₀ L s.heap m) (N : News h₀ L s.heap news) (hl : s.heap.IsList l vs.toArray) (pk : IsPart vk (some (-1)))
    (h : ∀ D h', Fr h₀ L h' m → News h₀ L h' ((D, listOf vs.reverse.toArray 0) :: news) → (∀ p ∈ news, p.1 < D) → Q (.ref D) { s with heap := h' })
    (hs : subscripted slice false (.ref l) (.ref s.heap.objs.size) = operate ops (getItem (.ref l) (.ref s.heap.objs.size))) (ht : ∀ r, letTemporaryGo value (.ref l) r = pure ()) (hz : vs.length ≤ 200) :
    wpAny (model prog w) A (subscriptTail value slice (.ref l) (.ref s.heap.objs.size)) Q E { s with heap := s.heap.push { cls := .type "slice", data := .fields #[.none, .none, vk] } } :=
  krv_lit (its := vs.toArray) (zs := vs.reverse) F N hl pk rfl h hs ht (by rw [List.size_toArray, sizeLine_eq]; omega)
end

/-- between two turns of the comprehension over the children -/
def CJ (rs : List R) (xs : List Value) (Dr cA cE f lf : Addr) (oR oA oE od ol : Obj) (rest : List (Addr × Obj)) (i j : Nat) (ys : List Value) (nw : List (Addr × Obj)) : Prop :=
  ∃ tl, nw = (Dr, oR) :: (cA, oA) :: (cE, oE) :: (f, od) :: (lf, ol) :: tl ∧ (∀ q ∈ rest, q ∈ tl) ∧ OwnOff tl [Dr, cA, cE, f, lf] ∧ AllAt (StkIn tl rs xs) ys ((kidIdx rs i).reverse.take j)

theorem off3_mem {I C D : Addr} {l : List (Addr × Obj)} (h : LCg.Off3 I C D l) : ∀ p ∈ l, p.1 ≠ I ∧ p.1 ≠ C ∧ p.1 ≠ D := LCg.Off3.mem h
theorem off3_of {I C D : Addr} {l : List (Addr × Obj)} (h : ∀ p ∈ l, p.1 ≠ I ∧ p.1 ≠ C ∧ p.1 ≠ D) : LCg.Off3 I C D l := LCg.Off3.of h

theorem kids_at {rs : List R} {xs : List Value} {i j : Nat} {v : Value} (hxl : xs.length = rs.length) (h : (kidsOf rs xs i).reverse.toArray[j]? = some v) :
    ∃ k r, (kidIdx rs i).reverse[j]? = some k ∧ xs[k]? = some v ∧ rs[k]? = some r ∧ r.par = (i : Int) ∧ i < k := by
  have e : (kidsOf rs xs i).reverse = (kidIdx rs i).reverse.map fun j => xs.getD j .none := by
    unfold kidsOf; rw [List.map_reverse]
  rw [List.getElem?_toArray, e, List.getElem?_map] at h
  obtain ⟨k, hk, hv⟩ := Option.map_eq_some_iff.mp h
  have hm : k ∈ kidIdx rs i := List.mem_reverse.mp (List.mem_of_getElem? hk)
  obtain ⟨r, hr, hp, hik⟩ := mem_kidIdx hm
  have hkl := (kidIdx_gt hm).2
  obtain ⟨u, hu⟩ := at_lt (rs := xs) (k := k) (by omega)
  rw [List.getD_eq_getElem?_getD, hu] at hv
  exact ⟨k, r, hk, by rw [hu]; exact congrArg some hv, hr, hp, hik⟩

theorem cj_step {rs : List R} {xs : List Value} {g h : Heap} {L Dr cA cE f lf I C Da b D t xa : Addr} {oR oA oE od ol oI oC oY ot oD : Obj} {rest tl : List (Addr × Obj)} {i j k : Nat} {ys : List Value} {v : Value} {m : Str → Option Value} {s₁ : Shared} {tk : Nat} {S : List (Addr × Obj) → Prop} {r : R} {ob : Obj}
    (F : Fr g L h m) (N : News g L h ((t, ot) :: (D, oD) :: (b, ob) :: (I, oI) :: (C, oC) :: (Da, oY) :: (Dr, oR) :: (cA, oA) :: (cE, oE) :: (f, od) :: (lf, ol) :: tl))
    (hsub : ∀ q ∈ rest, q ∈ tl) (hoff : OwnOff tl [Dr, cA, cE, f, lf]) (hst : AllAt (StkIn tl rs xs) ys ((kidIdx rs i).reverse.take j))
    (off : LCg.Off3 I C Da ((Dr, oR) :: (cA, oA) :: (cE, oE) :: (f, od) :: (lf, ol) :: tl))
    (ht : ot = tupOf [v, .ref D]) (hD : oD = tupOf (wayVals rs xs i ++ [.ref xa]))
    (hk : (kidIdx rs i).reverse[j]? = some k) (hv : xs[k]? = some v) (hr : rs[k]? = some r) (hpar : r.par = (i : Int)) (hik : i < k) (hxi : xs[i]? = some (.ref xa))
    (b1 : @LT.lt Nat _ I b ∧ @LT.lt Nat _ C b ∧ @LT.lt Nat _ Da b ∧ @LT.lt Nat _ Dr b ∧ @LT.lt Nat _ cA b ∧ @LT.lt Nat _ cE b ∧ @LT.lt Nat _ f b ∧ @LT.lt Nat _ lf b) (b2 : @LE.le Nat _ b D) (b3 : @LT.lt Nat _ b t) (hS : ∀ nw, (Dr, oR) ∈ nw → S nw) :
    LCg.CompEnd g L m s₁ I oI C oC Da oY S (fun y nw => CJ rs xs Dr cA cE f lf oR oA oE od ol rest i (j + 1) (ys ++ [y]) nw) (.ref t) { s₁ with heap := h, toks := tk } := by
  obtain ⟨a1, a2, a3, a4, a5, a6, a7, a8⟩ := b1
  refine LCg.CompEnd.intro F N ((Dr, oR) :: (cA, oA) :: (cE, oE) :: (f, od) :: (lf, ol) :: ((t, ot) :: (D, oD) :: tl)) ?_ ?_ (hS _ (.head _)) ⟨(t, ot) :: (D, oD) :: tl, rfl, fun q hq => by simp [hsub q hq], ?_, ?_⟩
  · intro p hp
    simp only [List.mem_cons] at hp ⊢
    rcases hp with h | h | h | h | h | h | h | h | h | h | h <;> simp [h]
  · refine off3_of fun p hp => ?_
    have h3 := off3_mem off
    simp only [List.mem_cons] at hp
    rcases hp with rfl | rfl | rfl | rfl | rfl | rfl | rfl | hp
    · exact h3 _ (by simp)
    · exact h3 _ (by simp)
    · exact h3 _ (by simp)
    · exact h3 _ (by simp)
    · exact h3 _ (by simp)
    · exact ⟨neN (by dsimp only; omega), neN (by dsimp only; omega), neN (by dsimp only; omega)⟩
    · exact ⟨neN (by dsimp only; omega), neN (by dsimp only; omega), neN (by dsimp only; omega)⟩
    · exact h3 p (by simp [hp])
  · intro p hp q hq
    simp only [List.mem_cons] at hp
    rcases hp with rfl | rfl | hp
    · simp only [List.mem_cons, List.not_mem_nil, or_false] at hq
      rcases hq with rfl | rfl | rfl | rfl | rfl <;> exact neN (by dsimp only; omega)
    · simp only [List.mem_cons, List.not_mem_nil, or_false] at hq
      rcases hq with rfl | rfl | rfl | rfl | rfl <;> exact neN (by dsimp only; omega)
    · exact hoff p hp q hq
  · rw [List.take_add_one, hk]
    refine AllAt.snoc (hst.mono fun v k q => q.mono fun p hp => by simp [hp]) ⟨t, D, v, rfl, hv, by rw [ht]; simp, ?_⟩
    have e : wayVals rs xs k = wayVals rs xs i ++ [.ref xa] := by
      unfold wayVals
      rw [anc_kid hr hpar hik, List.map_append, List.map_singleton, List.getD_eq_getElem?_getD, hxi]
      rfl
    rw [e, hD]
    simp
theorem news_drop2 {h₀ h : Heap} {L : Addr} {p q : Addr × Obj} {r : List (Addr × Obj)} (N : News h₀ L h (p :: q :: r)) : News h₀ L h (p :: r) := fun x hx => by
  rcases List.mem_cons.mp hx with e | hx
  · exact N x (by simp [e])
  · exact N x (by simp [hx])
theorem lt_news {h₀ h : Heap} {L a : Addr} {o : Obj} {nw : List (Addr × Obj)} (N : News h₀ L h nw) (hm : (a, o) ∈ nw) : @LT.lt Nat _ a h.objs.size := Heap.lt_size (N.get hm)
theorem kids_take {rs : List R} {xs : List Value} {i : Nat} : (kidIdx rs i).reverse.take (kidsOf rs xs i).reverse.toArray.size = (kidIdx rs i).reverse := by
  refine List.take_of_length_le ?_
  unfold kidsOf
  simp
theorem kidIdx_len (rs : List R) (k : Nat) : (kidIdx rs k).length ≤ rs.length := by
  have := kidsOf_len rs [] k
  unfold kidsOf at this
  rwa [List.length_map] at this
theorem news_drop {h₀ h : Heap} {L : Addr} {p q r : Addr × Obj} {l : List (Addr × Obj)} (N : News h₀ L h (p :: q :: r :: l)) : News h₀ L h (q :: r :: l) := fun x hx => N x (List.mem_cons_of_mem _ hx)
theorem firsts_none {rs : List R} {i : Nat} {r : R} (hr : rs[i]? = some r) (h : r.id = none) : firsts rs (i + 1) = firsts rs i := by
  rw [firsts, hr, Option.bind_some, h]; simp
theorem firsts_old {rs : List R} {i : Nat} {r : R} {x : Str} (hr : rs[i]? = some r) (h : r.id = some x) (hx : x ∈ (firsts rs i).map (·.1)) : firsts rs (i + 1) = firsts rs i := by
  rw [firsts, hr, Option.bind_some, h]; simp only; rw [if_pos hx, List.append_nil]
theorem firsts_new {rs : List R} {i : Nat} {r : R} {x : Str} (hr : rs[i]? = some r) (h : r.id = some x) (hx : ¬ x ∈ (firsts rs i).map (·.1)) : firsts rs (i + 1) = firsts rs i ++ [(x, i)] := by
  rw [firsts, hr, Option.bind_some, h]; simp only; rw [if_neg hx]
theorem aj_end {w : World} {rs : List R} {xs : List Value} {f lf cA cE : Addr} {i : Nat} {oA oE od : Obj} {kvs : List (Str × Value)} {p ys : List Value} {e : Nat} {vA vE : Option Value} {tl : List (Addr × Obj)} (hp : Pre rs) (hi : i < rs.length)
    (dA : oA.data = .cell vA) (dE : oE.data = .cell vE) (hod : od.IsDictOf (strKind PySem.Challenge.rw_xm0709_01.row.prog w) kvs) (hkv : KvsIn tl rs xs kvs (firsts rs (i + 1)))
    (hoff : OwnOff tl [cA, cE, f, lf]) (hpA : AllAt (StkIn tl rs xs) p (later rs i).reverse) (hys : AllAt (StkIn tl rs xs) ys (kidIdx rs i).reverse) :
    AJ w rs xs f lf cA cE (i + 1) ((cA, oA) :: (cE, oE) :: (f, od) :: (lf, listOf (p ++ ys).toArray e) :: tl) := by
  refine ⟨oA, oE, od, kvs, p ++ ys, e, vA, vE, tl, rfl, dA, dE, hod, hoff, hkv, ?_⟩
  rw [pend_succ hp hi, List.reverse_append]
  exact hpA.append hys
theorem off_cons {Dr : Addr} {rest : List (Addr × Obj)} {adr : List Addr} (h : OwnOff rest adr) (l : AllLt Dr rest) : OwnOff rest (Dr :: adr) := fun p hp b hb => by
  rcases List.mem_cons.mp hb with rfl | hb
  · exact Nat.ne_of_lt (allLt_mem l p hp)
  · exact h p hp b hb
section
variable {prog : Program} {w : World} {A : Around} {E : Value → Shared → Prop} {s : Shared} {h₀ : Heap} {L : Addr} {news : List (Addr × Obj)}
theorem notin_t {d : Addr} {o : Obj} {kvs : List (Str × Value)} {x : Str} {t : Tok} {Q : Value → Shared → Prop} (N : News h₀ L s.heap news) (hm : (d, o) ∈ news) (hd : o.IsDictOf (strKind prog w) kvs) (lo : (d == sysModules) = false) (hv : valueAt kvs x = none)
    (h : Q (.bool true) { s with toks := s.toks + 1 }) : wpAny (model prog w) A (compareOp .NotIn (.str x t) (.ref d)) Q E s := notin_at N hm hd lo (by rw [hv]; exact h)
theorem notin_f {d : Addr} {o : Obj} {kvs : List (Str × Value)} {x : Str} {t : Tok} {Q : Value → Shared → Prop} (N : News h₀ L s.heap news) (hm : (d, o) ∈ news) (hd : o.IsDictOf (strKind prog w) kvs) (lo : (d == sysModules) = false) (hv : (valueAt kvs x).isSome = true)
    (h : Q (.bool false) { s with toks := s.toks + 1 }) : wpAny (model prog w) A (compareOp .NotIn (.str x t) (.ref d)) Q E s := notin_at N hm hd lo (by rw [hv]; exact h)
end
def BuiltX (w : World) (h : Heap) (v : Value) (rs : List R) (xs : List Value) : Prop :=
  xs.length = rs.length ∧ xs[0]? = some v ∧ ∀ (k : Nat) (u : Value) (r : R), xs[k]? = some u → rs[k]? = some r → ElemAt w h u r (kidsOf rs xs k)
theorem BuiltX.keeps {w : World} {h h' : Heap} {v : Value} {rs : List R} {xs : List Value} (e : BuiltX w h v rs xs) (hg : ∀ b o, h.get? b = some o → h'.get? b = some o) : BuiltX w h' v rs xs :=
  let ⟨a, b, c⟩ := e; ⟨a, b, fun k u r h1 h2 => (c k u r h1 h2).keeps hg⟩
theorem BuiltIn.at {w : World} {led : List (Addr × Obj)} {h : Heap} {v : Value} {rs : List R} {xs : List Value} (e : BuiltIn w led h v rs xs) (hl : ∀ p ∈ led, h.get? p.1 = some p.2) : BuiltX w h v rs xs :=
  ⟨e.1, e.2.1, fun k u r h1 h2 => let ⟨x, dx, d, c, q⟩ := e.2.2 k u r h1 h2; ⟨x, dx, d, c, q.mono (fun _ _ hm => hl _ hm) fun _ _ e => e⟩⟩
/-- the table of what stands around -/
def TableIn (w : World) (led : List (Addr × Obj)) (r : Value) (rs : List R) (xs : List Value) : Prop :=
  ∃ f od kvs, r = .ref f ∧ (f == sysModules) = false ∧ (f, od) ∈ led ∧ od.IsDictOf (strKind PySem.Challenge.rw_xm0709_01.row.prog w) kvs ∧ KvsIn led rs xs kvs (firsts rs rs.length)
theorem table_of {w : World} {g h h0 : Heap} {L f : Addr} {rs : List R} {xs : List Value} {kvs : List (Str × Value)} {od : Obj} {rest nx : List (Addr × Obj)} (N : News g L h nx) (hr : ∀ p ∈ rest, p ∈ nx) (hf : (f, od) ∈ nx) (hg : ∀ b o, h0.get? b = some o → g.get? b = some o) (lo : (f == sysModules) = false)
    (hod : od.IsDictOf (strKind PySem.Challenge.rw_xm0709_01.row.prog w) kvs) (hkv : KvsIn rest rs xs kvs (firsts rs rs.length)) : ∃ led, LedAt h0 h led ∧ TableIn w led (.ref f) rs xs :=
  ⟨(f, od) :: rest, led_of N (fun p hp => by rcases List.mem_cons.mp hp with rfl | hp; exact hf; exact hr p hp) hg, f, od, kvs, rfl, lo, .head _, hod, hkv.mono fun p hp => .tail _ hp⟩
end Mine
end
section
open PySem PySem.W PySem.Calls PyProof.Rows PySem.Spec
namespace Mine
local macro_rules | `(tactic| ktr_enter) => `(tactic| first
  | (refine' code_defG ?k1 ?k2 ?k3 ?k4 ?k5 ?kA ?kF ?kK ?k6 ?k7 ?k8 ?k9 ?kB ?_ ?c2 ?c3 ?c4 ?c5; (case kA => exact rfl); (case kF => exact rfl); (case kK => assumption); (case k1 => k_asm); (case k2 => k_asm); (case k3 => k_asm); (case k4 => k_asm); (case k5 => k_asm); (case k6 => k_is); (case k7 => k_is); (case k8 => ktr_room); (case k9 => exact BindsTo.of_eq rfl); (case c5 => decide); (case kB => exact locs rfl); (case c2 => exact rfl); (case c3 => exact rfl); (case c4 => exact rfl); k_whole)
  | (refine' code_cells ?k1 ?k2 ?k3 ?k4 ?k5 ?kA ?kF ?kK ?k6 ?k7 ?k8 ?k9 ?kB ?kD ?_ ?c2 ?c3 ?c4; (case kA => exact rfl); (case kF => exact rfl); (case kK => assumption); (case k1 => k_asm); (case k2 => k_asm); (case k3 => k_asm); (case k4 => k_asm); (case k5 => k_asm); (case k6 => k_is); (case k7 => k_is); (case k8 => ktr_room); (case k9 => exact BindsTo.of_eq rfl); (case kB => exact rfl); (case kD => decide +kernel); (case c2 => exact rfl); (case c3 => exact rfl); (case c4 => exact rfl); k_whole))
local macro_rules | `(tactic| walk_at "setItem ref int") => `(tactic| (k_here; (with_reducible show wpAny _ _ (setItem (Value.ref _) (Value.int ((_ : Nat) : Int) _) _) _ _ _); k_dflt (refine' set_at ?k1 ?k2 ?k3 ?k6 ?k7 ?_; (case k1 => k_asm); (case k2 => k_asm); (case k3 => k_upd); (case k6 => omega); (case k7 => omega); k_whole); intro h' F' N'))
local macro_rules | `(tactic| walk_at "subscriptTail") => `(tactic| (k_here; (with_reducible show wpAny _ _ (subscriptTail _ _ (Value.ref _) (Value.int 0 _)) _ _ _); k_dflt (refine item_zero (by is_list) (by assumption) ?_)))
local macro_rules | `(tactic| k_room) => `(tactic| ktr_room)
local macro_rules | `(tactic| walk_at "LeaveK") => `(tactic| ((with_reducible rename GSub _ _ _ => kG'); (with_reducible rename Fr _ _ _ _ => lF'); (have kept' := keep_of kG' lF'); (clear kG'); walk_at "LeaveK"))
local macro_rules | `(tactic| walk_at "call builtin:len") => `(tactic| (k_here; (with_reducible show wpAny _ _ (call (Value.builtin "len") [Value.ref _]) _ _ _); k_dflt (refine len_at (by is_list) (by with_reducible assumption) (by omega) ?_)))
local macro_rules | `(tactic| walk_at "binaryOp Mult ref int") => `(tactic| (k_here; (with_reducible show wpAny _ _ (binaryOp Operator.Mult (Value.ref _) (Value.int ((_ : Nat) : Int) _)) _ _ _); k_dflt (refine' nones_at ?F ?N ?l ?z ?_; (case F => k_asm); (case N => k_asm); (case l => k_mem); (case z => omega); k_whole); intro D' h' F' N' l1; (try k_lt l1)))

local macro_rules | `(tactic| walk_at "subscriptTail") => `(tactic| (k_here; (with_reducible show wpAny _ _ (subscriptTail _ _ (Value.ref _) (Value.int ((_ : Nat) : Int) _)) _ _ _); k_dflt (refine item_nat (by is_list) (by assumption) (by omega) ?_)))

local macro_rules | `(tactic| walk_at "exec Assign cons ListComp") => `(tactic| (k_here; refine Halt.off ?_))
local macro_rules | `(tactic| walk_at "CompSrcT") => `(tactic| (refine Halt.off ?_))
local macro_rules | `(tactic| walk_at "subscriptTail") => `(tactic| (k_here; (with_reducible show wpAny _ _ (subscriptTail _ _ (Value.ref _) (Value.int _ _)) _ _ _); k_dflt (refine' item_tupleT ?t ?a ?b ?c ?d ?_; (case t => exact Fr.tup (by assumption) (by assumption)); (case a => decide); (case b => decide); (case c => rfl); (case d => rfl); k_whole)))
set_option maxRecDepth 100000 in
set_option maxHeartbeats 4000000 in
theorem built_spec (w : World) (Ra : Addr) (rs : List R) (hp : Pre rs) :
    Spec w 81 [.ref Ra] (fun h => RowsAt w h Ra rs) [] (fun r h0 h' => ∃ led xs, LedAt h0 h' led ∧ BuiltIn w led h' r rs xs) := by
  w_top off
  unfold Spec
  k_fill
  intro loose mean mg mb dp un gd cn cs adr ccd cl outer A₀ base h₀ L m s Q E B F X T hk hdp hun hS hpre hret
  have N : News h₀ L s.heap [] := fun _ hp => nomatch hp
  refine wpAny_call ?_
  k_dflt ktr_enter
  intro g1 L1 h1 tk1 cells FG1 F1 N1 Y1 B1 X1 T1 l1 kG1
  k_cells Y1
  rename_i o1 o2 o3 d1 d2 d3
  replace d1 : o1.data = .cell none := by with_unfolding_all exact d1
  replace d2 : o2.data = .cell none := by with_unfolding_all exact d2
  replace d3 : o3.data = .cell (some (.ref Ra)) := by with_unfolding_all exact d3
  simp only [List.cons_append, List.nil_append] at N1
  dsimp only
  k_unmd
  k_fold
  have kG2 : ∀ b o, s.heap.get? b = some o → g1.get? b = some o := fun b o e => kG1 b o e (fun h => nomatch h)
  have hpre' : RowsAt w g1 Ra rs := hpre.keeps fun b o e => kG1 b o e (fun h => nomatch h)
  obtain ⟨vs, hvl, hlen, hrow⟩ := hpre'
  have hfew := hp.few
  k_steps
  refine For_invT g1 ?_ (by intro _; rfl)
  k_steps
  (rename News g1 L1 _ _ => N2)
  (rename Fr g1 L1 _ _ => F2)
  (rename IsRange _ _ _ _ _ _ _ _ => hR)
  obtain ⟨M, eM⟩ := name_head N2
  subst eM
  refine iterT_range (n := rs.length) (fun i _ nx => BJ w rs g1 Ra M (L1 + 1) (L1 + 1 + 1) (L1 + 1 + 1 + 1) i nx) rfl hR (small_down (by omega) (by omega) (by omega) (by omega)) (by rw [rangeSize_downNat]; omega) F2 (news := [(L1 + 1 + 1 + 1, _), (L1 + 1 + 1, _), (L1 + 1, _), (M, _)]) (fun p hp => N2 p ((show ∀ q ∈ _, q ∈ _ by k_allIn) p hp)) ?_ ?_ ?_
  · refine ⟨_, _, _, _, _, _, [], rfl, by k_asm, by k_asm, by k_asm, (fun _ hp => nomatch hp), by simp, fun k u r h1 h2 h3 => ?_⟩
    have := (List.getElem?_eq_some_iff.mp h3).1
    omega
  · intro i t m₁ nx s₁ own hi hoff hJ F3 N3
    obtain ⟨oP, oM, oR, xs, e, v, rest, rfl, dP, dM, dR, hrest, hxl, hel⟩ := hJ
    have ek : ((rs.length : Int) - 1 + (i : Int) * (-1)) = ((rs.length - 1 - i : Nat) : Int) := by omega
    rw [ek]
    generalize hk' : rs.length - 1 - i = k
    have hkl : k < rs.length := by omega
    have hvk : vs[k]? = some vs[k] := List.getElem?_eq_getElem (by omega)
    have hrk : rs[k]? = some rs[k] := List.getElem?_eq_getElem (by omega)
    obtain ⟨tu, d, tn, tp, etu, htup, hwords⟩ := hrow k _ _ hvk hrk
    rw [etu] at hvk
    simp only [List.cons_append] at N3
    have hoff2 : OwnOff (rest ++ own) [L1 + 1 + 1 + 1, L1 + 1 + 1, L1 + 1, M] := by
      intro p hp b hb
      rcases List.mem_append.mp hp with hp | hp
      · exact hrest p hp b hb
      · exact hoff p hp b (by simpa using Or.elim (by simpa using hb : b = L1 + 1 + 1 + 1 ∨ b = L1 + 1 + 1 ∨ b = L1 + 1 ∨ b = M) (fun h => .inl h) fun h => .inr (Or.elim h .inl fun h => .inr (Or.elim h .inl fun h => .inr (.inl h))))
    k_steps
    unfold Halt
    (k_dflt (refine LCt.Assign_ListComp_T (F₀ := by k_asm) (by rfl) (by with_unfolding_all rfl) (by with_unfolding_all rfl) (by decide) (by rfl) (by decide) (by rfl) (by rfl) (by rfl) ?_))
    k_steps
    unfold Halt
    (rename News g1 L1 _ _ => N4)
    (rename Fr g1 L1 _ _ => F4)
    (rename IsRange _ _ _ _ _ _ _ _ => hR2)
    refine LCt.CompSrcT.range (n := rs.length - (k + 1)) rfl F4 N4 hR2 (small_one (by omega) (by omega) (by omega) (by omega)) (by rw [rangeSize_nat]; omega) (by rw [sizeLine_eq]; omega) ?_
    intro g2
    refine compT_of (fun i ys nw => nw = _ ∧ ys = kidsTo rs xs k i) ?_ ⟨rfl, rfl⟩ ?_
    · intro i2 ys nw hi2 hJ2 u I oI C oC D m2 h tk E' hP hC hx F5 N5 off5 ne5
      obtain ⟨rfl, rfl⟩ := hJ2
      obtain ⟨tk2, rfl⟩ := hP
      have ek2 : ((k : Int) + 1 + (i2 : Int)) = ((i2 + (k + 1) : Nat) : Int) := by omega
      rw [ek2] at hx
      have hjl : i2 + (k + 1) < rs.length := by omega
      have hvj : vs[i2 + (k + 1)]? = some vs[i2 + (k + 1)] := List.getElem?_eq_getElem (by omega)
      have hrj : rs[i2 + (k + 1)]? = some rs[i2 + (k + 1)] := List.getElem?_eq_getElem (by omega)
      have hxj : xs[i2 + (k + 1)]? = some xs[i2 + (k + 1)] := List.getElem?_eq_getElem (by omega)
      obtain ⟨tu2, d2', tn2, tp2, etu2, htup2, hwords2⟩ := hrow _ _ _ hvj hrj
      rw [etu2] at hvj
      have off6 := off5
      simp only [LCg.Off3] at off5
      k_steps
      · refine LCg.CompEnd.intro F5 N5 _ (fun p hp => hp) off6 trivial ⟨rfl, ?_⟩
        rw [kidsTo_succ, if_pos, List.getD_eq_getElem?_getD, hxj]
        · rfl
        · rw [hrj]; simpa using (by assumption : rs[i2 + (k + 1)].par = (k : Int))
      · refine LCg.CompEnd.intro F5 N5 _ (fun p hp => hp) off6 trivial ⟨rfl, ?_⟩
        rw [kidsTo_succ, if_neg, List.append_nil]
        rw [hrj]; simpa using (by assumption : rs[i2 + (k + 1)].par ≠ (k : Int))
    · rintro ys nw ⟨rfl, rfl⟩
      k_steps
      (rename News g1 L1 _ _ => N6)
      (rename Fr g1 L1 _ _ => F6)
      refine bj_step F6 N6 hrk ⟨_, _, _, _, _, _, _, rfl⟩ rfl (by assumption) dM dR hwords hkl hk' hi hxl hel ?_ ?_ hrest (by assumption) (by assumption) (by assumption)
      · intro p hp b hb
        exact hoff p hp b (by simp only [List.map_cons, List.mem_cons, List.not_mem_nil, or_false] at hb ⊢; rcases hb with h | h | h | h <;> simp [h])
      · intro p hp b hb
        exact hoff p hp b (by simp only [List.map_cons, List.mem_cons]; simp only [hb, or_true])
  · intro m₁ nx h tk hJ F7 N7
    obtain ⟨oP, oM, oR, xs, e, v, rest, rfl, dP, dM, dR, hrest, hxl, hel⟩ := hJ
    have hpos := hp.pos
    have h0 : xs[0]? = some xs[0] := List.getElem?_eq_getElem (by omega)
    k_steps
    (rename ∀ b o, b ∉ _ → s.heap.get? b = some o → _ => kept_)
    (rename Fr g1 _ _ _ => F8)
    exact hret _ _ _ kept_ (bj_done N7 (fun p hp => by simp [hp]) kG2 F8.keep hxl h0 hel)
end Mine
end
section
open PySem PySem.W PySem.Calls PyProof.Rows PySem.Spec
namespace Mine
local macro_rules | `(tactic| ktr_enter) => `(tactic| first
  | (refine' code_cells ?k1 ?k2 ?k3 ?k4 ?k5 ?kA ?kF ?kK ?k6 ?k7 ?k8 ?k9 ?kB ?kD ?_ ?c2 ?c3 ?c4; (case kA => exact rfl); (case kF => exact rfl); (case kK => assumption); (case k1 => k_asm); (case k2 => k_asm); (case k3 => k_asm); (case k4 => k_asm); (case k5 => k_asm); (case k6 => k_is); (case k7 => k_is); (case k8 => ktr_room); (case k9 => exact BindsTo.of_eq rfl); (case kB => exact rfl); (case kD => decide +kernel); (case c2 => exact rfl); (case c3 => exact rfl); (case c4 => exact rfl); k_whole))
local macro_rules | `(tactic| k_room) => `(tactic| ktr_room)
local macro_rules | `(tactic| walk_at "LeaveK") => `(tactic| ((with_reducible rename GSub _ _ _ => kG'); (with_reducible rename Fr _ _ _ _ => lF'); (have kept' := keep_of kG' lF'); (clear kG'); walk_at "LeaveK"))
local macro_rules | `(tactic| walk_at "exec While Compare") => `(tactic| (k_here; refine Halt.off ?_))
local macro_rules | `(tactic| walk_at "exec While Compare cons nil") => `(tactic| (k_here; refine Halt.off ?_))
local macro_rules | `(tactic| walk_at "eval ListComp") => `(tactic| (k_here; refine Halt.off ?_))
local macro_rules | `(tactic| walk_at "CompSrc") => `(tactic| (refine Halt.off ?_))
local macro_rules | `(tactic| walk_at "compareOp NotEq ref ref") => `(tactic| (k_here; k_dflt (first
  | (refine ne_nil_t (News.isList (by k_asm) (by k_mem)) (News.isList (by k_asm) (by k_mem)) (by ktr_units) ?_; k_whole)
  | (refine ne_nil_f (News.isList (by k_asm) (by k_mem)) (News.isList (by k_asm) (by k_mem)) (by ktr_units) ?_; k_whole))))
local macro_rules | `(tactic| walk_at "assign Tuple") => `(tactic| (k_here; (with_reducible show wpAny _ _ (assign (PySem.Expr.Tuple _ _ _) _ (Value.ref _)) _ _ _); k_dflt (refine unpackN_ (by k_asm) (by k_asm) (News.isTup (by k_asm) (by k_mem)) (by rfl) (by rfl) (by rfl) ?_); intro _ _ _))
local macro_rules | `(tactic| walk_at "call builtin:list.extend") => `(tactic| (k_here; k_dflt (refine' ext_at ?F ?N ?b ?U ?z ?_; (case F => k_asm); (case N => k_asm); (case b => k_mem); (case U => k_updF); (case z => omega); k_whole); intro h' e' F' N'; (try dsimp only at N')))
local macro_rules | `(tactic| k_mem) => `(tactic| assumption)
local macro_rules | `(tactic| k_inst) => `(tactic| exact inst_lift (by assumption) (Fr.keep (by k_asm)))
local macro_rules | `(tactic| walk_at "getMethod ref") => `(tactic| (k_here; (with_reducible show wpAny _ _ (getMethod (Value.ref _) (PySem.Str.ofString "get") _) _ _ _); k_dflt (refine getMethod_words (WordsAt.keeps (by assumption) (Fr.keep (by k_asm))) ?_)))
local macro_rules | `(tactic| walk_at "call builtin:dict.get") => `(tactic| (k_here; k_dflt (first
  | refine get_none (WordsAt.keeps (by assumption) (Fr.keep (by k_asm))) ?_
  | (refine get_some (WordsAt.keeps (by assumption) (Fr.keep (by k_asm))) ?_; intro t'))))
local macro_rules | `(tactic| walk_at "compareOp NotIn str ref") => `(tactic| (k_here; k_dflt (first
  | (refine' notin_t ?N ?m ?d ?l ?v ?_; (case N => k_asm); (case m => k_mem); (case d => k_asm); (case l => k_asm); (case v => assumption); k_whole)
  | (refine' notin_f ?N ?m ?d ?l ?v ?_; (case N => k_asm); (case m => k_mem); (case d => k_asm); (case l => k_asm); (case v => assumption); k_whole))))
local macro_rules | `(tactic| walk_at "setItem ref str") => `(tactic| (k_here; k_dflt (refine' put_at ?F ?N ?U ?d ?z ?_; (case F => k_asm); (case N => k_asm); (case U => k_updF); (case d => k_asm); (case z => omega); k_whole); intro h' o' F' N' hd'; (try dsimp only at N')))
local macro_rules | `(tactic| walk_at "call builtin:list.pop") => `(tactic| (k_here; k_dflt (refine' pop_at ?F ?N ?U ?z ?_; (case F => k_asm); (case N => k_asm); (case U => k_upd); (case z => omega); k_whole); intro h' F' N'))
local macro_rules | `(tactic| walk_at "binaryOp Add ref ref") => `(tactic| (k_here; k_dflt (refine' tup_snoc ?F ?N ?t ?b ?z ?_; (case F => k_asm); (case N => k_asm); (case t => exact News.isTup (by k_asm) (by k_mem)); (case b => k_mem); (case z => omega); k_whole); intro D' h' F' N' l1))
local macro_rules | `(tactic| walk_at "subscriptTail Name Slice ref ref") => `(tactic| (k_here; (with_reducible show wpAny _ _ (subscriptTail _ (PySem.Expr.Slice none none (some _) _) (Value.ref _) (Value.ref _)) _ _ _); k_dflt (refine' rev_at ?F ?N ?l ?k ?_ ?s ?t ?z; (case F => k_asm); (case N => k_asm); (case l => exact Fr.lst (by k_asm) (by k_asm)); (case k => exact IsPart.int _ _); (case s => with_unfolding_all rfl); (case t => kmk_pure); (case z => omega)); intro D' h' F' N' l1; (try k_lt l1)))
set_option maxRecDepth 100000 in
set_option maxHeartbeats 4000000 in
theorem around_spec (w : World) (v : Value) (rs : List R) (xs : List Value) (hp : Pre rs) :
    Spec w 19 [v] (fun h => BuiltX w h v rs xs) [] (fun r h0 h' => ∃ led, LedAt h0 h' led ∧ TableIn w led r rs xs) := by
  w_top off
  unfold Spec
  k_fill
  intro loose mean mg mb dp un gd cn cs adr ccd cl outer A₀ base h₀ L m s Q E B F X T hk hdp hun hS hpre hret
  have N : News h₀ L s.heap [] := fun _ hp => nomatch hp
  refine wpAny_call ?_
  k_dflt ktr_enter
  intro g1 L1 h1 tk1 cells FG1 F1 N1 Y1 B1 X1 T1 l1 kG1
  k_cells Y1
  rename_i o1 o2 d1 d2
  replace d1 : o1.data = .cell none := by with_unfolding_all exact d1
  replace d2 : o2.data = .cell none := by with_unfolding_all exact d2
  simp only [List.cons_append, List.nil_append] at N1
  dsimp only
  k_unmd
  k_fold
  have kG2 : ∀ b o, s.heap.get? b = some o → g1.get? b = some o := fun b o e => kG1 b o e (fun h => nomatch h)
  have hpre' : BuiltX w g1 v rs xs := hpre.keeps fun b o e => kG1 b o e (fun h => nomatch h)
  obtain ⟨hxl, h0, hel⟩ := hpre'
  have hfew := hp.few
  k_steps
  unfold Halt
  (rename News g1 L1 _ _ => N2)
  (rename Fr g1 L1 _ _ => F2)
  obtain ⟨lf, t0, a0, f, e1, e2, e3, e4⟩ := name4 N2
  subst e1 e2 e3 e4
  refine While_inv (fun n m nx => ∃ i, n = rs.length - i ∧ i ≤ rs.length ∧ m "found" = some (.ref f) ∧ m "left" = some (.ref lf) ∧ AJ w rs xs f lf (L1 + 1 + 1) (L1 + 1) i nx) (n₀ := rs.length) F2
    (news := [(L1 + 1 + 1, _), (L1 + 1, _), (f, _), (lf, _), (t0, _), (a0, _)]) (fun p hp => N2 p ((show ∀ q ∈ _, q ∈ _ by k_allIn) p hp)) ?_ ?_
  · refine ⟨0, rfl, Nat.zero_le _, rfl, rfl, _, _, _, [], [.ref t0], _, _, _, [(t0, _), (a0, _)], rfl, d1, d2, by assumption, ?_, ⟨rfl, fun j p q h => by simp at h⟩, ?_⟩
    · intro p hp b hb
      simp only [List.mem_cons, List.not_mem_nil, or_false] at hp hb
      rcases hp with rfl | rfl <;> rcases hb with rfl | rfl | rfl | rfl <;> (refine neN ?_; dsimp only; omega)
    · rw [pend_zero hp]
      refine AllAt.snoc AllAt.nil ⟨t0, a0, v, rfl, h0, by simp, ?_⟩
      unfold wayVals
      rw [anc_root hp]
      simp
  · rintro n m₁ nx h₁ tk₁ F3 N3 ⟨i, rfl, hi, hmf, hml, oA, oE, od, kvs, stk, e, vA, vE, rest, rfl, dA, dE, hod, hrest, hkv, hstk⟩
    replace F3 := fr_two F3 hmf hml (by decide)
    rcases Nat.lt_or_eq_of_le hi with hi' | rfl
    · rw [pend_head hp hi', List.reverse_cons] at hstk
      obtain ⟨p, u, rfl, hpA, t, ta, x, rfl, hx, hm1, hm2⟩ := AllAt.unsnoc hstk
      obtain ⟨r, hr⟩ := at_lt hi'
      obtain ⟨xa, dx, d, c, ⟨rfl, hin, ⟨t1, t2, t3, t4, tn, tv, nn, hdi⟩, ⟨ee, hli⟩, hwd⟩⟩ := hel i x r hx hr
      have hinst : InstAt g1 xa (instObj 44 dx) 44 (some _) := ⟨hin, rfl, rfl, hdi⟩
      have hlist : g1.IsList c (kidsOf rs xs i).toArray := ⟨_, hli, rfl, _, rfl⟩
      have hz1 : p.length ≤ 9 := by
        have h1 := hpA.1
        have h2 := later_len rs i
        rw [List.length_reverse] at h1
        omega
      have hz2 : (kidsOf rs xs i).length ≤ 9 := Nat.le_trans (kidsOf_len rs xs i) hfew
      have hz3 : (wayVals rs xs i).length ≤ 9 := by
        have := anc_length (rs := rs) i
        unfold wayVals
        rw [List.length_map]
        omega
      have hz4 : kvs.length ≤ 9 := by
        have h1 := hkv.1
        have h2 := firsts_length rs i
        omega
      cases hid : r.id with
      | none =>
        rw [hid] at hwd
        k_steps
        unfold Halt
        (k_dflt (refine LCg.ListComp_U (F₀ := by k_asm) (by rfl) (by decide) (by rfl) (by decide) (by rfl) ?_))
        k_steps
        unfold Halt
        (rename News g1 L1 _ _ => N4)
        (rename Fr g1 L1 _ _ => F4)
        obtain ⟨Dr, eDr⟩ := name_head N4
        subst eDr
        refine LCg.CompSrc.ledger rfl F4 (news_drop2 N4) (its := (kidsOf rs xs i).reverse.toArray) (.head _) (by rw [List.size_toArray, List.length_reverse, sizeLine_eq]; omega) ?_
        intro g3
        refine comp_of (CJ rs xs Dr (L1 + 1 + 1) (L1 + 1) f lf _ _ _ _ _ rest i) ?_ ⟨rest, rfl, fun _ h => h, off_cons hrest (And.right (And.right (And.right (And.right (And.right (by assumption : _ ∧ _ ∧ _ ∧ _ ∧ _ ∧ AllLt Dr rest)))))), AllAt.nil⟩ ?_
        · intro j ys nw hj hJ2 v2 I oI C oC Da m2 h2 tk2 E2 hP hC hx2 F5 N5 off5 ne5
          obtain ⟨tl, rfl, hsub, hofft, hst2⟩ := hJ2
          obtain ⟨k, r2, hk2, hv2, hr2, hp2, hik2⟩ := kids_at hxl hP
          have off6 := off5
          have hm2' := hsub _ hm2
          simp only [LCg.Off3] at off5
          k_steps
          (rename News g1 L1 _ _ => N8)
          (rename Fr g1 L1 _ _ => F8)
          (rename @LE.le Nat _ _ _ => hle)
          (rename News g1 L1 h2 _ => N9)
          (rename News g1 L1 _ ((_, tupOf (wayVals rs xs i ++ _)) :: _) => N10)
          refine cj_step F8 N8 hsub hofft hst2 off6 rfl rfl hk2 hv2 hr2 hp2 hik2 hx ⟨lt_news N9 (by k_memK), lt_news N9 (by k_memK), lt_news N9 (by k_memK), lt_news N9 (by k_memK), lt_news N9 (by k_memK), lt_news N9 (by k_memK), lt_news N9 (by k_memK), lt_news N9 (by k_memK)⟩ hle ?_ ?_
          · exact lt_news N10 (by k_memK)
          · exact fun nw hnw => .inr ⟨_, hnw, rfl, _, rfl⟩
        · rintro ys nw ⟨tl, rfl, hsub, hofft, hst2⟩
          rw [kids_take] at hst2
          have hz5 : ys.length ≤ 9 := by
            have h1 := hst2.1
            have h2 := kidIdx_len rs i
            rw [List.length_reverse] at h1
            omega
          have hoff7 : OwnOff tl [L1 + 1 + 1, L1 + 1, f, lf] := fun p hp b hb => hofft p hp b (List.mem_cons_of_mem _ hb)
          k_steps
          (rename News g1 L1 _ _ => N11)
          (rename Fr g1 L1 _ _ => F11)
          exact WhileStep.intro F11 (news_drop (news_drop N11)) (by omega) ⟨i + 1, rfl, hi', rfl, rfl, aj_end hp hi' (by assumption) (by assumption) hod (by rw [firsts_none hr hid]; exact hkv.mono hsub) hoff7 (hpA.mono fun v k q => q.mono hsub) hst2⟩
      | some y =>
        rw [hid] at hwd
        by_cases hin : y ∈ (firsts rs i).map (·.1)
        · have hvs : (valueAt kvs y).isSome = true := by rw [valueAt_isSome, hkv.keys, decide_eq_true hin]
          k_steps
          unfold Halt
          (k_dflt (refine LCg.ListComp_U (F₀ := by k_asm) (by rfl) (by decide) (by rfl) (by decide) (by rfl) ?_))
          k_steps
          unfold Halt
          (rename News g1 L1 _ _ => N4)
          (rename Fr g1 L1 _ _ => F4)
          obtain ⟨Dr, eDr⟩ := name_head N4
          subst eDr
          refine LCg.CompSrc.ledger rfl F4 (news_drop2 N4) (its := (kidsOf rs xs i).reverse.toArray) (.head _) (by rw [List.size_toArray, List.length_reverse, sizeLine_eq]; omega) ?_
          intro g3
          refine comp_of (CJ rs xs Dr (L1 + 1 + 1) (L1 + 1) f lf _ _ _ _ _ rest i) ?_ ⟨rest, rfl, fun _ h => h, off_cons hrest (And.right (And.right (And.right (And.right (And.right (by assumption : _ ∧ _ ∧ _ ∧ _ ∧ _ ∧ AllLt Dr rest)))))), AllAt.nil⟩ ?_
          · intro j ys nw hj hJ2 v2 I oI C oC Da m2 h2 tk2 E2 hP hC hx2 F5 N5 off5 ne5
            obtain ⟨tl, rfl, hsub, hofft, hst2⟩ := hJ2
            obtain ⟨k, r2, hk2, hv2, hr2, hp2, hik2⟩ := kids_at hxl hP
            have off6 := off5
            have hm2' := hsub _ hm2
            simp only [LCg.Off3] at off5
            k_steps
            (rename News g1 L1 _ _ => N8)
            (rename Fr g1 L1 _ _ => F8)
            (rename @LE.le Nat _ _ _ => hle)
            (rename News g1 L1 h2 _ => N9)
            (rename News g1 L1 _ ((_, tupOf (wayVals rs xs i ++ _)) :: _) => N10)
            refine cj_step F8 N8 hsub hofft hst2 off6 rfl rfl hk2 hv2 hr2 hp2 hik2 hx ⟨lt_news N9 (by k_memK), lt_news N9 (by k_memK), lt_news N9 (by k_memK), lt_news N9 (by k_memK), lt_news N9 (by k_memK), lt_news N9 (by k_memK), lt_news N9 (by k_memK), lt_news N9 (by k_memK)⟩ hle ?_ ?_
            · exact lt_news N10 (by k_memK)
            · exact fun nw hnw => .inr ⟨_, hnw, rfl, _, rfl⟩
          · rintro ys nw ⟨tl, rfl, hsub, hofft, hst2⟩
            rw [kids_take] at hst2
            have hz5 : ys.length ≤ 9 := by
              have h1 := hst2.1
              have h2 := kidIdx_len rs i
              rw [List.length_reverse] at h1
              omega
            have hoff7 : OwnOff tl [L1 + 1 + 1, L1 + 1, f, lf] := fun p hp b hb => hofft p hp b (List.mem_cons_of_mem _ hb)
            k_steps
            (rename News g1 L1 _ _ => N11)
            (rename Fr g1 L1 _ _ => F11)
            exact WhileStep.intro F11 (news_drop (news_drop N11)) (by omega) ⟨i + 1, rfl, hi', rfl, rfl, aj_end hp hi' (by assumption) (by assumption) hod (by rw [firsts_old hr hid hin]; exact hkv.mono hsub) hoff7 (hpA.mono fun v k q => q.mono hsub) hst2⟩
        · have hvs : valueAt kvs y = none := valueAt_none (by rw [hkv.keys]; exact hin)
          k_steps
          unfold Halt
          (k_dflt (refine LCg.ListComp_U (F₀ := by k_asm) (by rfl) (by decide) (by rfl) (by decide) (by rfl) ?_))
          k_steps
          unfold Halt
          (rename News g1 L1 _ _ => N4)
          (rename Fr g1 L1 _ _ => F4)
          obtain ⟨Dr, eDr⟩ := name_head N4
          subst eDr
          refine LCg.CompSrc.ledger rfl F4 (news_drop2 N4) (its := (kidsOf rs xs i).reverse.toArray) (.head _) (by rw [List.size_toArray, List.length_reverse, sizeLine_eq]; omega) ?_
          intro g3
          refine comp_of (CJ rs xs Dr (L1 + 1 + 1) (L1 + 1) f lf _ _ _ _ _ rest i) ?_ ⟨rest, rfl, fun _ h => h, off_cons hrest (And.right (And.right (And.right (And.right (And.right (by assumption : _ ∧ _ ∧ _ ∧ _ ∧ _ ∧ AllLt Dr rest)))))), AllAt.nil⟩ ?_
          · intro j ys nw hj hJ2 v2 I oI C oC Da m2 h2 tk2 E2 hP hC hx2 F5 N5 off5 ne5
            obtain ⟨tl, rfl, hsub, hofft, hst2⟩ := hJ2
            obtain ⟨k, r2, hk2, hv2, hr2, hp2, hik2⟩ := kids_at hxl hP
            have off6 := off5
            have hm2' := hsub _ hm2
            simp only [LCg.Off3] at off5
            k_steps
            (rename News g1 L1 _ _ => N8)
            (rename Fr g1 L1 _ _ => F8)
            (rename @LE.le Nat _ _ _ => hle)
            (rename News g1 L1 h2 _ => N9)
            (rename News g1 L1 _ ((_, tupOf (wayVals rs xs i ++ _)) :: _) => N10)
            refine cj_step F8 N8 hsub hofft hst2 off6 rfl rfl hk2 hv2 hr2 hp2 hik2 hx ⟨lt_news N9 (by k_memK), lt_news N9 (by k_memK), lt_news N9 (by k_memK), lt_news N9 (by k_memK), lt_news N9 (by k_memK), lt_news N9 (by k_memK), lt_news N9 (by k_memK), lt_news N9 (by k_memK)⟩ hle ?_ ?_
            · exact lt_news N10 (by k_memK)
            · exact fun nw hnw => .inr ⟨_, hnw, rfl, _, rfl⟩
          · rintro ys nw ⟨tl, rfl, hsub, hofft, hst2⟩
            rw [kids_take] at hst2
            have hz5 : ys.length ≤ 9 := by
              have h1 := hst2.1
              have h2 := kidIdx_len rs i
              rw [List.length_reverse] at h1
              omega
            have hoff7 : OwnOff tl [L1 + 1 + 1, L1 + 1, f, lf] := fun p hp b hb => hofft p hp b (List.mem_cons_of_mem _ hb)
            k_steps
            (rename News g1 L1 _ _ => N11)
            (rename Fr g1 L1 _ _ => F11)
            exact WhileStep.intro F11 (news_drop (news_drop N11)) (by omega) ⟨i + 1, rfl, hi', rfl, rfl, aj_end hp hi' (by assumption) (by assumption) (by assumption) (by rw [firsts_new hr hid hin, stored_absent hvs]; exact (hkv.mono hsub).snoc ⟨ta, rfl, hsub _ hm2⟩) hoff7 (hpA.mono fun v k q => q.mono hsub) hst2⟩
    · rw [pend_end] at hstk
      obtain rfl := hstk.empty
      k_steps
      (rename ∀ b o, b ∉ _ → s.heap.get? b = some o → _ => kept_)
      (rename News g1 L1 _ _ => N12)
      exact hret _ _ _ kept_ (table_of N12 (fun p hp => by simp [hp]) (by k_memK) kG2 (by assumption) hod hkv)
end Mine
end
section
open PySem PySem.W PySem.Calls PyProof.Rows PySem.Spec
namespace Mine
/-! comprehensions over a dict and over a tuple -/
def SrcD (prog : Program) (w : World) (A : Around) (h₀ : Heap) (L : Addr) (m : Str → Option Value) (env : Env) (elt : PySem.Expr) (x : Str) (scope : Scope) (cl : List (Str × Addr)) (Fin : Shared → List Value → List (Addr × Obj) → Prop) (xv : Value) (s₁ : Shared) : Prop :=
  ∃ (o : Obj) (fp : List Addr) (n : Nat) (P : Nat → Value → Prop) (St : Nat → Heap → Prop) (S : List (Addr × Obj) → Prop) (news : List (Addr × Obj)),
    (∀ (E : Value → Shared → Prop) (Q : Value → Shared → Prop), Q (.ref s₁.heap.objs.size) { s₁ with heap := s₁.heap.push o } → wpAny (model prog w) A (pyIter xv) Q E s₁) ∧
    Walks prog w A s₁.heap.objs.size fp [s₁.heap.objs.size] n P St ∧ n ≤ sizeLine ∧ (∀ i h, St i h → ∃ o, h.get? s₁.heap.objs.size = some o) ∧
    (∀ i h h' o nw, St i h → h.get? s₁.heap.objs.size = some o → h'.get? s₁.heap.objs.size = some o → (∀ b o, h₀.get? b = some o → h'.get? b = some o) → News h₀ L h' nw → S nw → St i h') ∧
    St 0 (s₁.heap.push o) ∧ (∀ b ∈ fp, b < s₁.heap.objs.size + 1) ∧ Fr h₀ L s₁.heap m ∧ News h₀ L s₁.heap news ∧ S news ∧
    ∀ g, LCg.CompRest prog w A h₀ L m env elt x scope cl { s₁ with heap := g } S P (Fin { s₁ with heap := g }) n 0 [] news

section
variable {prog : Program} {w : World} {A : Around} {E : Value → Shared → Prop} {s : Shared} {h₀ : Heap} {L : Addr} {m : Str → Option Value} {env : Env}
theorem ListComp_D {elt iter : PySem.Expr} {x : Str} {px : Pos} {scope : Scope} {cl : List (Str × Addr)} {pos : Pos} {Q : Value → Shared → Prop} (F₀ : Fr h₀ L s.heap m)
    (hclos : closureFor scope env = pure cl) (hcell : ∀ y ∈ scope.names, y.2 ≠ .cell) (hkind : scope.kind = .function)
    (hnames : ∀ y ∈ scope.names, y.2 = .local → scope.names.lookup y.1 = some .local) (hx : scope.names.lookup x = some .local)
    (h : wpAny (model prog w) A (eval iter env) (SrcD prog w A h₀ L m env elt x scope cl (fun s₂ => LCg.FinE h₀ L m s₂ Q)) E s)
    (hs : ∀ x, foldedSetIterable iter env x = pure x := by intro _; rfl) :
    wpAny (model prog w) A (eval (.ListComp elt [⟨.Name x px, iter, [], 0⟩] scope pos) env) Q E s := by
  rw [eval_ListComp]
  refine wpAny_comprehension_free (use := none) rfl hs hclos hkind hnames (wpAny_mono h (fun xv s₁ h₁ => ?_) fun _ _ e => e)
  obtain ⟨o, fp, n, P, St, S, news, hit, W, hsz, hIo, hSt, hst, hfp, F, N, hS, R⟩ := h₁
  refine hit _ _ ?_
  have up : ∀ b o', s₁.heap.get? b = some o' → (s₁.heap.push o).get? b = some o' := fun b o' e => Heap.get?_push_of_some _ e
  refine LCg.block_U W hsz hIo hSt hcell hkind hx hst (fun b hb => ?_)
    (F.keeps up) (N.grown up) (Nat.ne_of_lt F.ns.lt) (next_is_new F) (fun p hp => Nat.ne_of_lt (Heap.lt_size (N p hp).1)) hS (R _) ?_
  · show b < (s₁.heap.push _).objs.size
    rw [Heap.size_push]
    exact hfp b hb
  · intro D C h tk m' ys news' F' N' o1 hn hC₀ hD₀ hCL hDL hCD offC fin
    refine ⟨m', hn, fun h'' hs'' => fin D h'' tk (F'.change hs'' hCL hC₀) (fun p hp => ?_) o1⟩
    refine ⟨hs''.extBut _ _ ?_ (N' p hp).1, (N' p hp).2⟩
    rcases List.mem_cons.mp hp with rfl | hp
    · exact Ne.symm hCD
    · exact offC p hp

theorem SrcD.dict {K : Type} [DecidableEq K] {knd : KeyKind prog w K} {elt : PySem.Expr} {x : Str} {scope : Scope} {cl : List (Str × Addr)} {Fin : Shared → List Value → List (Addr × Obj) → Prop} {d : Addr} {od : Obj} {kvs : List (K × Value)} {news : List (Addr × Obj)}
    (hh : A.handled = none) (F : Fr h₀ L s.heap m) (N : News h₀ L s.heap news) (hm : (d, od) ∈ news) (hd : od.IsDictOf knd kvs) (lo : (d == sysModules) = false) (hsz : kvs.length ≤ 100)
    (h : ∀ g, LCg.CompRest prog w A h₀ L m env elt x scope cl { s with heap := g } (fun nw => (d, od) ∈ nw) (fun i v => ∃ k y, kvs[i]? = some (k, y) ∧ knd.is k v = true) (Fin { s with heap := g }) kvs.length 0 [] news) :
    SrcD prog w A h₀ L m env elt x scope cl Fin (.ref d) s := by
  obtain ⟨ep, ha⟩ := KdkAt.of hd
  have hat := ha.dictAt (N _ hm).1
  have hlt : d < s.heap.objs.size := Heap.lt_size (N _ hm).1
  have hne : d ≠ s.heap.objs.size := Nat.ne_of_lt hlt
  refine ⟨_, _, _, _, _, _, _, fun E Q q => wpAny_pyIter_dict lo hat q, Walks.dictKeys hh s.heap.objs.size d hne kvs ep, by rw [sizeLine_eq]; omega, fun i h st => ?_, fun i h h' o nw st e e' k N' S => ?_, ⟨⟨_, Heap.get?_push_size _ rfl, rfl, rfl⟩, hat.push _⟩, fun b hb => ?_, F, N, hm, h⟩
  · obtain ⟨⟨o, e, _⟩, _⟩ := st
    exact ⟨o, e⟩
  · exact ⟨st.1.at fun o1 e1 => by rw [e] at e1; cases e1; exact e', ha.dictAt (N' _ S).1⟩
  · rcases List.mem_cons.mp hb with rfl | hb
    · exact Nat.lt_succ_self _
    · rw [List.mem_singleton.mp hb]; exact Nat.lt_succ_of_lt hlt

theorem SrcD.tuple {elt : PySem.Expr} {x : Str} {scope : Scope} {cl : List (Str × Addr)} {Fin : Shared → List Value → List (Addr × Obj) → Prop} {t : Addr} {vs : List Value} {news : List (Addr × Obj)}
    (hh : A.handled = none) (F : Fr h₀ L s.heap m) (N : News h₀ L s.heap news) (hm : (t, tupOf vs) ∈ news) (hsz : vs.length ≤ 100)
    (h : ∀ g, LCg.CompRest prog w A h₀ L m env elt x scope cl { s with heap := g } (fun nw => (t, tupOf vs) ∈ nw) (fun i v => vs.toArray[i]? = some v) (Fin { s with heap := g }) vs.toArray.size 0 [] news) :
    SrcD prog w A h₀ L m env elt x scope cl Fin (.ref t) s := by
  have tup : ∀ (h' : Heap) nw, News h₀ L h' nw → (t, tupOf vs) ∈ nw → h'.IsTuple t vs.toArray := fun h' nw N' S => ⟨_, (N' _ S).1, rfl, _, rfl⟩
  have hat := tup _ _ N hm
  have hlt : t < s.heap.objs.size := Heap.lt_size (N _ hm).1
  have hne : t ≠ s.heap.objs.size := Nat.ne_of_lt hlt
  refine ⟨_, _, _, _, _, _, _, fun E Q q => wpAny_pyIter_tuple hat q, Walks.tuple hh s.heap.objs.size t hne vs.toArray, by rw [sizeLine_eq, List.size_toArray]; omega, fun i h st => ?_, fun i h h' o nw st e e' k N' S => ?_, ⟨⟨_, Heap.get?_push_size _ rfl, rfl, rfl⟩, hat.push _⟩, fun b hb => ?_, F, N, hm, h⟩
  · obtain ⟨⟨o, e, _⟩, _⟩ := st
    exact ⟨o, e⟩
  · exact ⟨st.1.at fun o1 e1 => by rw [e] at e1; cases e1; exact e', tup _ _ N' S⟩
  · rcases List.mem_cons.mp hb with rfl | hb
    · exact Nat.lt_succ_self _
    · rw [List.mem_singleton.mp hb]; exact Nat.lt_succ_of_lt hlt
end
end Mine
end
section
open PySem PySem.W PySem.Calls PyProof.Rows PySem.Spec
namespace Mine
def nameAt (rs : List R) (j : Nat) : Str := (rs[j]?.map (·.nm)).getD ""
def ancDat (rs : List R) (k : Nat) : Dat := .list ((anc rs k).map fun j => .str (nameAt rs j))
def dueList (rs : List R) (fs : List (Str × Nat)) : List Dat := fs.map fun q => .tuple [.str q.1, ancDat rs q.2]
def DueIn (led : List (Addr × Obj)) (r : Value) (ds : List Dat) : Prop := ∃ D vs k, r = .ref D ∧ (D, listOf vs.toArray k) ∈ led ∧ DatAll led vs ds

theorem BuiltIn.mono {w : World} {led led' : List (Addr × Obj)} {g g' : Heap} {v : Value} {rs : List R} {xs : List Value} (e : BuiltIn w led g v rs xs) (hs : ∀ p ∈ led, p ∈ led') (hg : ∀ b o, g.get? b = some o → g'.get? b = some o) : BuiltIn w led' g' v rs xs :=
  ⟨e.1, e.2.1, fun k u r h1 h2 => let ⟨x, dx, d, c, q⟩ := e.2.2 k u r h1 h2; ⟨x, dx, d, c, q.mono (fun _ _ => hs _) hg⟩⟩
theorem inst_news {g h : Heap} {L x dx : Addr} {od : Obj} {nw : List (Addr × Obj)} (N : News g L h nw) (m1 : (x, instObj 44 dx) ∈ nw) (m2 : (dx, od) ∈ nw) : InstAt h x (instObj 44 dx) 44 (some od) := ⟨N.get m1, rfl, rfl, N.get m2⟩
local macro_rules | `(tactic| ktr_enter) => `(tactic| first
  | (refine' code_cells ?k1 ?k2 ?k3 ?k4 ?k5 ?kA ?kF ?kK ?k6 ?k7 ?k8 ?k9 ?kB ?kD ?_ ?c2 ?c3 ?c4; (case kA => exact rfl); (case kF => exact rfl); (case kK => assumption); (case k1 => k_asm); (case k2 => k_asm); (case k3 => k_asm); (case k4 => k_asm); (case k5 => k_asm); (case k6 => k_is); (case k7 => k_is); (case k8 => ktr_room); (case k9 => exact BindsTo.of_eq rfl); (case kB => exact rfl); (case kD => decide +kernel); (case c2 => exact rfl); (case c3 => exact rfl); (case c4 => exact rfl); k_whole))
local macro_rules | `(tactic| k_room) => `(tactic| ktr_room)
local macro_rules | `(tactic| walk_at "LeaveK") => `(tactic| ((with_reducible rename GSub _ _ _ => kG'); (with_reducible rename Fr _ _ _ _ => lF'); (have kept' := keep_of kG' lF'); (clear kG'); walk_at "LeaveK"))
local macro_rules | `(tactic| walk_at "eval ListComp") => `(tactic| (k_here; refine Halt.off ?_))
local macro_rules | `(tactic| walk_at "SrcD") => `(tactic| (refine Halt.off ?_))
local macro_rules | `(tactic| walk_at "call ref") => `(tactic| (k_here; refine Halt.off ?_))
local macro_rules | `(tactic| k_mem) => `(tactic| assumption)
local macro_rules | `(tactic| k_inst) => `(tactic| assumption)
theorem dat_of {α : Type} {led : List (Addr × Obj)} {F : Value → α → Prop} {g : α → Dat} (hf : ∀ v k, F v k → DatIn led v (g k)) : ∀ (vs : List Value) (ks : List α), AllAt F vs ks → DatAll led vs (ks.map g)
  | [], [], _ => .nil
  | v :: vs, k :: ks, h => .cons (hf v k (h.2 0 v k rfl rfl)) (dat_of hf vs ks ⟨by simpa using h.1, fun i u r h1 h2 => h.2 (i + 1) u r h1 h2⟩)
  | [], k :: ks, h => absurd h.1 (by simp)
  | v :: vs, [], h => absurd h.1 (by simp)
theorem dat_snoc {led : List (Addr × Obj)} : ∀ {vs : List Value} {ds : List Dat} {v : Value} {d : Dat}, DatAll led vs ds → DatIn led v d → DatAll led (vs ++ [v]) (ds ++ [d])
  | _, _, _, _, .nil, h => .cons h .nil
  | _, _, _, _, .cons a r, h => .cons a (dat_snoc r h)
theorem due_take {rs : List R} {i : Nat} {q : Str × Nat} {fs : List (Str × Nat)} (h : fs[i]? = some q) : dueList rs (fs.take (i + 1)) = dueList rs (fs.take i) ++ [.tuple [.str q.1, ancDat rs q.2]] := by
  unfold dueList
  rw [List.take_add_one, h, List.map_append]
  rfl
theorem tj_step {rs : List R} {g h : Heap} {L f c1 I C D D2 t : Addr} {od o1 oI oC ot : Obj} {tl tl' : List (Addr × Obj)} {i q : Nat} {x : Str} {tx : Tok} {ys zs : List Value} {m : Str → Option Value} {s₁ : Shared} {tk : Nat} {fs : List (Str × Nat)}
    (F : Fr g L h m) (N : News g L h ((t, ot) :: (D2, LCg.lst zs) :: (I, oI) :: (C, oC) :: (D, LCg.lst ys) :: (c1, o1) :: tl'))
    (ht : ot = ({ cls := .type "tuple", data := .seq #[.str x tx, .ref D2] } : Obj)) (hmf : (f, od) ∈ tl')
    (hsub : ∀ p ∈ tl, p ∈ tl') (hoff : OwnOff tl' [c1]) (hdat : DatAll tl' ys (dueList rs (fs.take i))) (hq : fs[i]? = some (x, q))
    (hzs : AllAt (fun v k => ∃ t, v = .str (nameAt rs k) t) zs (anc rs q)) (off : LCg.Off3 I C D ((c1, o1) :: tl'))
    (o2 : I ≠ D2 ∧ C ≠ D2 ∧ D ≠ D2 ∧ c1 ≠ D2 ∧ LCg.Off1 D2 tl') (l1 : @LT.lt Nat _ I t ∧ @LT.lt Nat _ C t ∧ @LT.lt Nat _ D t ∧ @LT.lt Nat _ c1 t) :
    LCg.CompEnd g L m s₁ I oI C oC D (LCg.lst ys) (fun nw => (f, od) ∈ nw) (fun y nw => ∃ tl', nw = (c1, o1) :: tl' ∧ (∀ p ∈ tl, p ∈ tl') ∧ OwnOff tl' [c1] ∧ DatAll tl' (ys ++ [y]) (dueList rs (fs.take (i + 1)))) (.ref t) { s₁ with heap := h, toks := tk } := by
  obtain ⟨a1, a2, a3, a4, _⟩ := o2
  obtain ⟨b1, b2, b3, b4⟩ := l1
  have hs : ∀ p ∈ tl', p ∈ (t, ot) :: (D2, LCg.lst zs) :: tl' := fun p hp => .tail _ (.tail _ hp)
  refine LCg.CompEnd.intro F N ((c1, o1) :: (t, ot) :: (D2, LCg.lst zs) :: tl') ?_ ?_ (.tail _ (.tail _ (.tail _ hmf))) ⟨_, rfl, fun p hp => hs _ (hsub p hp), ?_, ?_⟩
  · intro p hp
    simp only [List.mem_cons] at hp ⊢
    rcases hp with h | h | h | h | h | h | h <;> simp [h]
  · refine off3_of fun p hp => ?_
    have h3 := off3_mem off
    simp only [List.mem_cons] at hp
    rcases hp with rfl | rfl | rfl | hp
    · exact h3 _ (.head _)
    · exact ⟨Nat.ne_of_gt b1, Nat.ne_of_gt b2, Nat.ne_of_gt b3⟩
    · exact ⟨Ne.symm a1, Ne.symm a2, Ne.symm a3⟩
    · exact h3 _ (.tail _ hp)
  · intro p hp b hb
    simp only [List.mem_cons] at hp
    rcases hp with rfl | rfl | hp
    · rw [List.mem_singleton.mp hb]; exact Nat.ne_of_gt b4
    · rw [List.mem_singleton.mp hb]; exact Ne.symm a4
    · exact hoff p hp b hb
  · rw [due_take hq]
    refine dat_snoc (hdat.mono hs) (.tuple (vs := [.str x tx, .ref D2]) (n := 0) ?_ (.cons (.str _ _) (.cons ?_ .nil)))
    · rw [ht]; exact .head _
    · exact .list (vs := zs) (n := zs.length) (.tail _ (.head _)) (dat_of (fun v k ⟨t, e⟩ => e ▸ .str _ _) zs _ hzs)
theorem firsts_lt {rs : List R} : ∀ (n : Nat), ∀ p ∈ firsts rs n, p.2 < n := by
  intro n
  induction n with
  | zero => exact fun p hp => nomatch hp
  | succ n ih =>
    intro p hp
    rw [firsts] at hp
    rcases List.mem_append.mp hp with hp | hp
    · exact Nat.lt_succ_of_lt (ih p hp)
    · split at hp
      · split at hp
        · cases hp
        · rw [List.mem_singleton.mp hp]; exact Nat.lt_succ_self _
      · cases hp

local macro_rules | `(tactic| walk_at "subscriptTail") => `(tactic| (k_here; (with_reducible show wpAny _ _ (subscriptTail _ _ (Value.ref _) (Value.str _ _)) _ _ _); k_dflt (refine' kda_item (knd := PySem.strKind _ _) ?N ?m ?d ?k ?l ?_; (case N => k_asm); (case m => (repeat' (first | assumption | refine List.Mem.tail _ ?_))); (case d => assumption); (case k => exact strKind_is _ _ _ _); (case l => assumption); k_whole)))
set_option maxRecDepth 100000 in
set_option maxHeartbeats 4000000 in
theorem told_spec (w : World) (Ra : Addr) (rs : List R) (hp : Pre rs) :
    SpecO w 100 [.ref Ra] (fun h => RowsAt w h Ra rs) [] (fun r h0 h' => ∃ led, LedAt h0 h' led ∧ DueIn led r (dueList rs (firsts rs rs.length))) := by
  w_top off
  unfold SpecO
  k_fill
  intro loose mean mg mb dp un gd cn cs adr ccd cl outer A₀ base h₀ L m s Q E B F X T hk hdp hun hS hpre hret
  have N : News h₀ L s.heap [] := fun _ hp => nomatch hp
  refine wpAny_call ?_
  k_dflt ktr_enter
  intro g1 L1 h1 tk1 cells FG1 F1 N1 Y1 B1 X1 T1 l1 kG1
  k_cells Y1
  rename_i o1 d1
  replace d1 : o1.data = .cell none := by with_unfolding_all exact d1
  simp only [List.cons_append, List.nil_append] at N1
  dsimp only
  k_unmd
  k_fold
  have kG2 : ∀ b o, s.heap.get? b = some o → g1.get? b = some o := fun b o e => kG1 b o e (fun h => nomatch h)
  have hpre' : RowsAt w g1 Ra rs := hpre.keeps fun b o e => kG1 b o e (fun h => nomatch h)
  have hfew := hp.few
  k_steps
  unfold Halt
  refine' spec_use (built_spec w Ra rs hp) (outer := envX cn cs L adr ccd cl :: outer) ?zb ?zf ?zx ?zt ?zk ?zd ?zu ?zn ?zp ?_
  case zb => exact B1
  case zf => k_asm
  case zx => exact X1
  case zt => exact T1
  case zk => rfl
  case zd => show dp + 1 < 400; omega
  case zu => show un + 3 < 2000; omega
  case zn => k_asm
  case zp => exact hpre'.keeps (Fr.keep F1)
  intro root h2 tk2 F2 N2 keep2 post2
  obtain ⟨led, xs, hled, hbuilt⟩ := post2
  have hX : BuiltX w h2 root rs xs := hbuilt.at fun p hp => (hled p hp).1
  k_steps
  unfold Halt
  refine' spec_use (around_spec w root rs xs hp) (outer := envX cn cs L adr ccd cl :: outer) ?zb ?zf ?zx ?zt ?zk ?zd ?zu ?zn ?zp ?_
  case zb => exact B1
  case zf => k_asm
  case zx => exact X1
  case zt => exact T1
  case zk => rfl
  case zd => show dp + 1 < 400; omega
  case zu => show un + 3 < 2000; omega
  case zn => k_asm
  case zp => exact hX
  intro tab h3 tk3 F3 N3 keep3 post3
  obtain ⟨led2, hled2, f, od, kvs, rfl, hlo, hmf, hod, hkv⟩ := post3
  have hled' : LedAt h1 h3 led := fun p hp => ⟨keep3 _ _ (hled p hp).1, (hled p hp).2⟩
  have N4 : News g1 L1 h3 ((L1 + 1, o1) :: (led2 ++ led)) := by
    have := news_led F1 (news_led F2 N3 hled2) hled'
    simpa using this
  have hoff : OwnOff (led2 ++ led) [L1 + 1] := fun p hp => by
    rcases List.mem_append.mp hp with hp | hp
    · exact led_off N2 hled2 p hp
    · exact led_off N1 hled p hp
  have hel := hbuilt.mono (fun p hp => List.mem_append_right led2 hp) keep3
  replace hkv := hkv.mono (fun p hp => List.mem_append_left led hp)
  replace hmf : (f, od) ∈ led2 ++ led := List.mem_append_left led hmf
  clear N3 hled2 hled hled' hbuilt hX N2 N1 F2 F1
  generalize led2 ++ led = tl at *
  have hnd : (kvs.map (·.1)).Nodup := by
    obtain ⟨_, _, _, _, _, _, q⟩ := KdkAt.of hod
    exact q
  have hkl : kvs.length ≤ 9 := by
    have h1 := hkv.1
    have h2 := firsts_length rs rs.length
    omega
  k_steps
  unfold Halt
  (k_dflt (refine ListComp_D (F₀ := by k_asm) (by rfl) (by decide) (by rfl) (by decide) (by rfl) ?_))
  k_steps
  unfold Halt
  (rename Fr g1 L1 _ _ => F5)
  (rename News g1 L1 _ _ => N5)
  (rename _ = Data.cell (some (.ref f)) => dT)
  refine SrcD.dict rfl F5 N5 (.tail _ hmf) hod hlo (by omega) ?_
  intro g3
  refine comp_of (fun i ys nw => ∃ tl', nw = (L1 + 1, _) :: tl' ∧ (∀ p ∈ tl, p ∈ tl') ∧ OwnOff tl' [L1 + 1] ∧ DatAll tl' ys (dueList rs ((firsts rs rs.length).take i))) ?_ ⟨tl, rfl, fun _ h => h, hoff, DatAll.nil⟩ ?_
  · rintro i ys nw hi ⟨tl', rfl, hsub, hofft, hdat⟩ v I oI C oC D m2 h tk E' hP hC hx F6 N6 off6 ne6
    obtain ⟨x, y, hkx, hv⟩ := hP
    obtain ⟨t, rfl⟩ := Value.isStrOf_shape hv
    obtain ⟨⟨x', q⟩, hq⟩ := at_lt (rs := firsts rs rs.length) (k := i) (by have := hkv.1; omega)
    obtain ⟨hqx, ta, hta, hmt⟩ := hkv.2 i _ _ hkx hq
    dsimp only at hqx hta
    subst hqx hta
    have hval := valueAt_of_get hnd hkx
    have off7 := off6
    simp only [LCg.Off3] at off7
    have hmf' := hsub _ hmf
    have hmt' := hsub _ hmt
    k_steps
    unfold Halt
    (k_dflt (refine ListComp_D (F₀ := by k_asm) (by rfl) (by decide) (by rfl) (by decide) (by rfl) ?_))
    k_steps
    unfold Halt
    (rename News g1 L1 h _ => N7)
    (rename Fr g1 L1 h _ => F7)
    have hqlt := firsts_lt _ _ (List.mem_of_getElem? hq)
    dsimp only at hqlt hmt hmt'
    refine SrcD.tuple rfl F7 N7 (by (repeat' (first | assumption | refine List.Mem.tail _ ?_))) (by have := anc_length (rs := rs) q; unfold wayVals; rw [List.length_map]; omega) ?_
    intro g4
    refine comp_of (fun j zs nw => nw = _ ∧ AllAt (fun v k => ∃ t, v = .str (nameAt rs k) t) zs ((anc rs q).take j)) ?_ ⟨rfl, AllAt.nil⟩ ?_
    · rintro j zs nw hj ⟨rfl, hzs⟩ v I2 oI2 C2 oC2 D2 m3 h' tk' E2 hP2 hC2 hx2 F8 N8 off8 ne8
      have off9 := off8
      simp only [LCg.Off3] at off9
      obtain ⟨k, hk⟩ : ∃ k, (anc rs q)[j]? = some k := at_lt (by simpa [wayVals] using hj)
      have hkq := anc_lt q k (List.mem_of_getElem? hk)
      obtain ⟨r, hr⟩ := at_lt (rs := rs) (k := k) (by omega)
      obtain ⟨u, hu⟩ := at_lt (rs := xs) (k := k) (by have := hel.1; omega)
      obtain rfl : v = u := by
        simp only [wayVals, List.getElem?_toArray, List.getElem?_map, hk, Option.map_some, List.getD_eq_getElem?_getD, hu, Option.getD_some] at hP2
        exact (Option.some.inj hP2).symm
      obtain ⟨xa, dx, d, c, ⟨rfl, hin, ⟨t1, t2, t3, t4, tn, tv, nn, hdi⟩, _, _⟩⟩ := hel.2.2 k v r hu hr
      have hin' := hsub _ hin
      have hdi' := hsub _ hdi
      have hinst := inst_news N8 (x := xa) (dx := dx) (by (repeat' (first | assumption | refine List.Mem.tail _ ?_))) (by (repeat' (first | assumption | refine List.Mem.tail _ ?_)))
      k_steps
      refine LCg.CompEnd.intro F8 N8 _ (fun p hp => hp) off8 (by (repeat' (first | assumption | refine List.Mem.tail _ ?_))) ⟨rfl, ?_⟩
      rw [List.take_add_one, hk]
      exact hzs.snoc ⟨_, by unfold nameAt; rw [hr]; rfl⟩
    · rintro zs nw ⟨rfl, hzs⟩
      rw [List.take_of_length_le (by simp [wayVals])] at hzs
      k_steps
      (rename News g1 L1 _ (_ :: (_, LCg.lst zs) :: _) => N9)
      (rename Fr g1 L1 _ _ => F9)
      refine tj_step F9 N9 rfl hmf' hsub hofft hdat hq hzs off6 (by assumption) (by (rename _ ∧ _ ∧ _ ∧ _ ∧ _ ∧ AllLt _ tl' => ll); exact ⟨ll.2.1, ll.2.2.1, ll.2.2.2.1, ll.2.2.2.2.1⟩)
  · rintro ys nw ⟨tl', rfl, hsub, hofft, hdat⟩
    rw [List.take_of_length_le (by have := hkv.1; omega)] at hdat
    k_steps
    (rename News g1 L1 _ _ => N9)
    (rename ∀ b o, b ∉ _ → s.heap.get? b = some o → _ => kept_)
    exact hret _ _ _ kept_ ⟨_, led_of N9 (fun _ h => h) kG2, _, ys, ys.length, rfl, .head _, hdat.mono fun p hp => .tail _ (.tail _ hp)⟩
end Mine
end
section
open PySem PySem.W PySem.Calls PyProof.Rows PySem.Spec
namespace Mine
def ancP (rs : List R) (p : Int) : List Nat := if 0 ≤ p then anc rs p.toNat ++ [p.toNat] else []
theorem anc_ancP {rs : List R} (hp : Pre rs) {k : Nat} {r : R} (h : rs[k]? = some r) : anc rs k = ancP rs r.par := by
  have h1 := par_lt hp h
  rw [anc, h]
  unfold ancP
  simp only
  by_cases h2 : 0 ≤ r.par
  · rw [dif_pos ⟨h2, h1⟩, if_pos h2]
  · rw [dif_neg (fun q => h2 q.1), if_neg h2]
theorem AllAt.cons {α : Type} {F : Value → α → Prop} {vs : List Value} {ks : List α} {v : Value} {k : α} (hv : F v k) (h : AllAt F vs ks) : AllAt F (v :: vs) (k :: ks) := by
  refine ⟨by simp [h.1], fun i u r h1 h2 => ?_⟩
  cases i with
  | zero => cases h1; cases h2; exact hv
  | succ i => exact h.2 i u r h1 h2
section
variable {prog : Program} {w : World} {A : Around} {E : Value → Shared → Prop} {s : Shared} {h₀ : Heap} {L : Addr} {m : Str → Option Value} {news : List (Addr × Obj)}
theorem lst_add {l b : Addr} {vs ws : List Value} {k1 k2 : Nat} {Q : Value → Shared → Prop} (F : Fr h₀ L s.heap m) (N : News h₀ L s.heap news) (hl : (l, listOf vs.toArray k1) ∈ news) (hb : (b, listOf ws.toArray k2) ∈ news) (hz : vs.length + ws.length ≤ 200)
    (h : ∀ D h', Fr h₀ L h' m → News h₀ L h' ((D, listOf (vs ++ ws).toArray 0) :: news) → (∀ p ∈ news, p.1 < D) → Q (.ref D) { s with heap := h' }) :
    wpAny (model prog w) A (binaryOp .Add (.ref l) (.ref b)) Q E s :=
  add_lists F N ⟨_, N.get hl, rfl, _, rfl⟩ ⟨_, N.get hb, rfl, _, rfl⟩ (fun h' F' N' => h _ h' F' N' fun p hp => Heap.lt_size (N.get hp)) (by rw [sizeLine_eq]; omega)
end
theorem fr_three {g h : Heap} {L : Addr} {m : Str → Option Value} {a b c : Str} {va vb vc : Value} (F : Fr g L h m) (ha : m a = some va) (hb : m b = some vb) (hc : m c = some vc) (hab : a ≠ b) (hac : a ≠ c) (hbc : b ≠ c) :
    Fr g L h (fun y => if y = a then some va else if y = b then some vb else if y = c then some vc else m y) := by
  have := fr_one (fr_two F hb hc hbc) (a := a) (va := va) (by rw [if_neg hab, if_neg hac, ha])
  exact this
section
local macro_rules | `(tactic| ktr_enter) => `(tactic| (refine' code_defG ?k1 ?k2 ?k3 ?k4 ?k5 ?kA ?kF ?kK ?k6 ?k7 ?k8 ?k9 ?kB ?_ ?c2 ?c3 ?c4 ?c5; (case kA => exact rfl); (case kF => exact rfl); (case kK => assumption); (case k1 => k_asm); (case k2 => k_asm); (case k3 => k_asm); (case k4 => k_asm); (case k5 => k_asm); (case k6 => k_is); (case k7 => k_is); (case k8 => ktr_room); (case k9 => exact BindsTo.of_eq rfl); (case c5 => decide); (case kB => exact locs rfl); (case c2 => exact rfl); (case c3 => exact rfl); (case c4 => exact rfl); k_whole))
local macro_rules | `(tactic| k_room) => `(tactic| ktr_room)
local macro_rules | `(tactic| walk_at "LeaveK") => `(tactic| ((with_reducible rename GSub _ _ _ => kG'); (with_reducible rename Fr _ _ _ _ => lF'); (have kept' := keep_of kG' lF'); (clear kG'); walk_at "LeaveK"))
local macro_rules | `(tactic| walk_at "subscriptTail") => `(tactic| (k_here; (with_reducible show wpAny _ _ (subscriptTail _ _ (Value.ref _) (Value.int ((_ : Nat) : Int) _)) _ _ _); k_dflt (refine item_nat (by is_list) (by assumption) (by omega) ?_)))
local macro_rules | `(tactic| walk_at "subscriptTail") => `(tactic| (k_here; (with_reducible show wpAny _ _ (subscriptTail _ _ (Value.ref _) (Value.int _ _)) _ _ _); k_dflt (refine' item_tupleT ?t ?a ?b ?c ?d ?_; (case t => exact Fr.tup (by assumption) (by assumption)); (case a => decide); (case b => decide); (case c => rfl); (case d => rfl); k_whole)))
local macro_rules | `(tactic| walk_at "exec While Compare") => `(tactic| (k_here; refine Halt.off ?_))
local macro_rules | `(tactic| walk_at "exec While Compare cons nil") => `(tactic| (k_here; refine Halt.off ?_))
local macro_rules | `(tactic| walk_at "binaryOp Add ref ref") => `(tactic| (k_here; k_dflt (refine' lst_add ?F ?N ?a ?b ?z ?_; (case F => k_asm); (case N => k_asm); (case a => (repeat' (first | assumption | refine List.Mem.tail _ ?_))); (case b => (repeat' (first | assumption | refine List.Mem.tail _ ?_))); (case z => simp only [List.length_cons, List.length_nil]; omega); k_whole); intro D' h' F' N' l1; (try k_lt l1)))
set_option maxRecDepth 100000 in
set_option maxHeartbeats 4000000 in
theorem way_spec (w : World) (Ra : Addr) (k : Nat) (t : Tok) (rs : List R) (hp : Pre rs) (hk : k < rs.length) :
    Spec w 88 [.ref Ra, .int (k : Int) t] (fun h => RowsAt w h Ra rs) [] (fun r h0 h' => ∃ led, LedAt h0 h' led ∧ ∃ D vs e, r = .ref D ∧ (D, listOf vs.toArray e) ∈ led ∧ AllAt (fun v k => ∃ t, v = .str (nameAt rs k) t) vs (anc rs k)) := by
  w_top off
  unfold Spec
  k_fill
  intro loose mean mg mb dp un gd cn cs adr ccd cl outer A₀ base h₀ L m s Q E B F X T hk hdp hun hS hpre hret
  have N : News h₀ L s.heap [] := fun _ hp => nomatch hp
  refine wpAny_call ?_
  k_dflt ktr_enter
  intro g1 L1 h1 FG1 F1 N1 B1 X1 T1 kG1
  (try dsimp only)
  (try k_fold)
  have kG2 : ∀ b o, s.heap.get? b = some o → g1.get? b = some o := fun b o e => kG1 b o e (fun h => nomatch h)
  have hpre' : RowsAt w g1 Ra rs := hpre.keeps fun b o e => kG1 b o e (fun h => nomatch h)
  obtain ⟨vs, hvl, hlen, hrow⟩ := hpre'
  have hfew := hp.few
  obtain ⟨r0, hr0⟩ := at_lt (rs := rs) (k := k) (by assumption)
  obtain ⟨v0, hv0⟩ := at_lt (rs := vs) (k := k) (by omega)
  obtain ⟨tu, d, tn, tp, rfl, htup, hwords⟩ := hrow k _ _ hv0 hr0
  k_steps
  unfold Halt
  (rename News g1 L1 _ _ => N2)
  (rename Fr g1 L1 _ _ => F2)
  have hp0 := par_lt hp hr0
  refine While_inv (fun n m nx => ∃ (fo : Addr) (ys : List Value) (e : Nat) (pv : Int) (tk : Tok) (suf : List Nat), n = (pv + 1).toNat ∧ pv < (rs.length : Int) ∧ m "found" = some (.ref fo) ∧ m "here" = some (.int pv tk) ∧ m "rows" = some (.ref Ra) ∧ nx = [(fo, listOf ys.toArray e)] ∧ anc rs k = ancP rs pv ++ suf ∧ AllAt (fun v k => ∃ t, v = .str (nameAt rs k) t) ys suf) (n₀ := (r0.par + 1).toNat) F2
    (news := [(_, listOf #[] 0)]) (fun p hp => N2 p (.tail _ hp)) ?_ ?_
  · exact ⟨_, [], 0, r0.par, tp, [], rfl, by omega, rfl, rfl, rfl, rfl, by rw [List.append_nil, anc_ancP hp hr0], AllAt.nil⟩
  · rintro n m₁ nx h₁ tk₁ F3 N3 ⟨fo, ys, e, pv, tk, suf, rfl, hpv, hmf, hmh, hmr, rfl, hanc, hys⟩
    replace F3 := fr_three F3 hmf hmh hmr (by decide) (by decide) (by decide)
    by_cases hpos : 0 ≤ pv
    · obtain ⟨j, rfl⟩ := Int.eq_ofNat_of_zero_le hpos
      obtain ⟨r1, hr1⟩ := at_lt (rs := rs) (k := j) (by omega)
      obtain ⟨v1, hv1⟩ := at_lt (rs := vs) (k := j) (by omega)
      obtain ⟨tu1, d1, tn1, tp1, rfl, htup1, hwords1⟩ := hrow j _ _ hv1 hr1
      have hp1 := par_lt hp hr1
      have hyl : ys.length ≤ 9 := by
        have h1 := hys.1
        have h2 := congrArg List.length hanc
        have h3 := anc_length (rs := rs) k
        rw [List.length_append] at h2
        omega
      clear hv0 hr0 htup
      k_steps
      (rename News g1 L1 _ _ => N9)
      (rename Fr g1 L1 _ _ => F9)
      have hanc2 : anc rs k = ancP rs r1.par ++ (j :: suf) := by
        rw [hanc]
        have e1 : ancP rs (j : Int) = anc rs j ++ [j] := by unfold ancP; rw [if_pos hpos]; rfl
        rw [e1, anc_ancP hp hr1, List.append_assoc]
        rfl
      refine WhileStep.intro (news₂ := [(_, listOf (.str r1.nm tn1 :: ys).toArray 0)]) F9 (fun p hp => N9 p ?_) (n' := (r1.par + 1).toNat) (by omega) ⟨_, .str r1.nm tn1 :: ys, 0, r1.par, tp1, j :: suf, rfl, by omega, rfl, rfl, rfl, rfl, hanc2, hys.cons ⟨_, by unfold nameAt; rw [hr1]; rfl⟩⟩
      rw [List.mem_singleton.mp hp]
      exact .tail _ (.head _)
    · k_steps
      (rename News g1 L1 _ _ => N9)
      (rename ∀ b o, b ∉ _ → s.heap.get? b = some o → _ => kept_)
      have e1 : ancP rs pv = [] := by unfold ancP; rw [if_neg hpos]
      rw [e1, List.nil_append] at hanc
      rw [← hanc] at hys
      exact hret _ _ _ kept_ ⟨_, led_of N9 (fun _ h => h) kG2, _, ys, e, rfl, .head _, hys⟩
end
end Mine
end
section
open PySem PySem.W PySem.Calls PyProof.Rows PySem.Spec
namespace Mine
section
variable {prog : Program} {w : World} {A : Around} {E : Value → Shared → Prop} {s : Shared} {env : Env} {h₀ : Heap} {target : PySem.Expr} {body : List Stmt} {Q : Flow → Shared → Prop}
theorem turns_of {I : Addr} {fp wr : List Addr} {n : Nat} {P Md : Nat → Value → Heap → Prop} {St : Nat → Heap → Prop} {m₀ : Str → Option Value} {news : List (Addr × Obj)} (J : Nat → (Str → Option Value) → List (Addr × Obj) → Prop)
    (W : KTurns prog w A target I fp wr n P Md St) (hfp : ∀ a ∈ fp, a ∈ wr ∨ ∃ o, h₀.get? a = some o) (hob : ∀ i h, St i h → ∀ b ∈ wr, ∃ o, h.get? b = some o) (hLf : env.locals ∉ fp) (hwr : ∀ b ∈ wr, h₀.get? b = none) (hnw : ∀ p ∈ news, p.1 ∉ wr) (hst : St 0 s.heap)
    (F : Fr h₀ env.locals s.heap m₀) (N : News h₀ env.locals s.heap news) (hj : J 0 m₀ news)
    (turn : ∀ i v m₁ nx h₁ tk₁ own, i < n → P i v h₁ → OwnOff own (nx.map (·.1)) → J i m₁ nx → Fr h₀ env.locals h₁ m₁ → News h₀ env.locals h₁ (nx ++ own) →
      wpAny (model prog w) A (assign target env v) (fun _ s₃ => wpAny (model prog w) A (execs body env) (TurnEndT h₀ env.locals (J (i + 1)) own { s with heap := h₁, toks := tk₁ }) E s₃) E { s with heap := h₁, toks := tk₁ })
    (done : ∀ m₁ nx h tk, J n m₁ nx → Fr h₀ env.locals h m₁ → News h₀ env.locals h nx → Q .next { s with heap := h, toks := tk }) :
    TurnsAt prog w A h₀ env target body Q E (.ref I) s := by
  refine ⟨I, fp, wr, n, P, Md, St, m₀, news, J, rfl, W, hLf, hwr, hnw, hst, F, N, hj, ?_, ?_⟩
  · intro i v m₁ news₁ h₁ tk₁ own hin hP hJ hoff hown hget hmem hst' F₁ N₁
    have hsep : OwnOff own (news₁.map (·.1)) := by
      intro p hp b hb e
      obtain ⟨q, hq, rfl⟩ := List.mem_map.mp hb
      rcases hfp _ (hown p hp) with h1 | ⟨o, h1⟩
      · exact hoff q hq (e ▸ h1)
      · have h2 := (N₁ q (List.mem_append_right _ hq)).2.2
        rw [← e, h1] at h2; cases h2
    have N₂ : News h₀ env.locals h₁ (news₁ ++ own) := fun p hp => N₁ p ((List.mem_append.mp hp).elim (fun h => List.mem_append.mpr (.inr h)) fun h => List.mem_append.mpr (.inl h))
    refine wpAny_mono (turn i v m₁ news₁ h₁ tk₁ own hin hP hsep hJ F₁ N₂) (fun _ s₃ p => wpAny_mono p (fun f s₂ q => ?_) fun _ _ e => e) fun _ _ e => e
    obtain ⟨rfl, h', tk, m', news', nx, rfl, F', N', hn, ho, ha, hm⟩ := q
    refine ⟨rfl, h', tk, m', nx, rfl, F', fun p hp => N' p ((List.mem_append.mp hp).elim (ho p) (hn p)), fun p hp hq => ?_, hm⟩
    obtain ⟨o, hbo⟩ := hob _ _ hst' _ hq
    exact ha _ (hmem _ (W.sub _ hq) (hwr _ hq) o hbo) p.1 (List.mem_map.mpr ⟨p, hp, rfl⟩) rfl
  · intro h' tk m' news' F' N' _ hJ
    exact done m' news' h' tk hJ F' N'

theorem enum_base {elts : List PySem.Expr} {kk : Nat} {pos : Pos} {l : Addr} {vs : List Value} {m₀ : Str → Option Value} {news : List (Addr × Obj)} (J : Nat → (Str → Option Value) → List (Addr × Obj) → Prop)
    (hh : A.handled = none) (F : Fr h₀ env.locals s.heap m₀) (N : News h₀ env.locals s.heap news) (hl₀ : h₀.IsList l vs.toArray) (hj : J 0 m₀ news)
    (turn : ∀ (i : Nat) T t v m₁ nx h₁ tk₁ own, vs[i]? = some v → IsTup h₁ T #[.int (i : Int) t, v] → OwnOff own (nx.map (·.1)) → J i m₁ nx → Fr h₀ env.locals h₁ m₁ → News h₀ env.locals h₁ (nx ++ own) →
      wpAny (model prog w) A (assign (.Tuple elts kk pos) env (.ref T)) (fun _ s₃ => wpAny (model prog w) A (execs body env) (TurnEndT h₀ env.locals (J (i + 1)) own { s with heap := h₁, toks := tk₁ }) E s₃) E { s with heap := h₁, toks := tk₁ })
    (done : ∀ m₁ nx h tk, J vs.length m₁ nx → Fr h₀ env.locals h m₁ → News h₀ env.locals h nx → Q .next { s with heap := h, toks := tk }) :
    wpAny (model prog w) A (call (.type "enumerate") [.ref l]) (fun xv s₁ => wpAny (model prog w) A (pyIter xv) (fun it s₂ => TurnsAt prog w A h₀ env (.Tuple elts kk pos) body Q E it s₂) E s₁) E s := by
  obtain ⟨lo, hlo, hlr⟩ := hl₀
  have hl : s.heap.IsList l vs.toArray := ⟨lo, F.keep _ _ hlo, hlr⟩
  have hlt : l < s.heap.objs.size := Heap.lt_size (F.keep _ _ hlo)
  have hLs : env.locals < s.heap.objs.size := F.ns.lt
  refine call_enumerate_list hl fun h' hE hI hsz hk => ?_
  refine wpAny_pyIter_enum hE ?_
  have n1 : l ≠ s.heap.objs.size := Nat.ne_of_lt hlt
  have n2 : l ≠ s.heap.objs.size + 1 := Nat.ne_of_lt (Nat.lt_succ_of_lt hlt)
  refine turns_of J (KTurns.ofWalksU (WalksT.enumerate hh (s.heap.objs.size + 1) s.heap.objs.size l (Nat.succ_ne_self _) n2 n1 vs.toArray).toU) ?_ ?_ ?_ ?_ ?_ ?_ (F.keeps hk) (N.grown hk) hj ?_ ?_
  · intro b hb
    simp only [List.mem_cons, List.not_mem_nil, or_false] at hb
    rcases hb with rfl | rfl | rfl
    · exact .inl (.head _)
    · exact .inl (.tail _ (.head _))
    · exact .inr ⟨lo, hlo⟩
  · rintro i h ⟨⟨old, he⟩, ⟨oi, hoi, hic, _⟩, _⟩ b hb
    simp only [List.mem_cons, List.not_mem_nil, or_false] at hb
    rcases hb with rfl | rfl
    · exact ⟨_, he⟩
    · exact ⟨oi, hoi⟩
  · intro hb
    simp only [List.mem_cons, List.not_mem_nil, or_false] at hb
    rcases hb with e | e | e
    · exact absurd (e ▸ Nat.lt_succ_of_lt hLs) (Nat.lt_irrefl _)
    · exact absurd (e ▸ hLs) (Nat.lt_irrefl _)
    · exact absurd (Heap.lt_size hlo) (Nat.not_lt.mpr (e ▸ F.above))
  · intro b hb
    simp only [List.mem_cons, List.not_mem_nil, or_false] at hb
    have fresh : ∀ a, s.heap.objs.size ≤ a → h₀.get? a = none := fun a ha => by
      cases e : h₀.get? a with
      | none => rfl
      | some o' => exact absurd (Heap.lt_size (F.keep _ _ e)) (Nat.not_lt.mpr ha)
    rcases hb with rfl | rfl
    · exact fresh _ (Nat.le_succ _)
    · exact fresh _ (Nat.le_refl _)
  · intro p hp hb
    have h1 := Heap.lt_size (N.get hp)
    simp only [List.mem_cons, List.not_mem_nil, or_false] at hb
    rcases hb with e | e
    · exact absurd (e ▸ Nat.lt_succ_of_lt h1) (Nat.lt_irrefl _)
    · exact absurd (e ▸ h1) (Nat.lt_irrefl _)
  · exact ⟨⟨_, hE⟩, hI, ⟨lo, hk _ _ (F.keep _ _ hlo), hlr⟩⟩
  · rintro i v m₁ nx h₁ tk₁ own hi ⟨T, vals, rfl, ⟨t, x, hx, rfl⟩, hT⟩ hoff hJ F₁ N₁
    exact turn i T t x m₁ nx h₁ tk₁ own (by simpa using hx) hT hoff hJ F₁ N₁
  · intro m₁ nx h tk hJ F₁ N₁
    exact done m₁ nx h tk (by simpa using hJ) F₁ N₁
end
end Mine
end
section
open PySem PySem.W PySem.Calls PyProof.Rows PySem.Spec
namespace Mine
structure Good (rs : List R) : Prop where
  nms : ∀ (i : Nat) (r : R), rs[i]? = some r → PyData.strOk r.nm = true
  ids : ∀ (i : Nat) (r : R) (x : Str), rs[i]? = some r → r.id = some x → PyData.strOk x = true
theorem firsts_ok {rs : List R} (hg : Good rs) : ∀ (n : Nat), ∀ p ∈ firsts rs n, PyData.strOk p.1 = true := by
  intro n
  induction n with
  | zero => exact fun p hp => nomatch hp
  | succ n ih =>
    intro p hp
    rw [firsts] at hp
    rcases List.mem_append.mp hp with hp | hp
    · exact ih p hp
    · split at hp
      · rename_i x hx
        split at hp
        · cases hp
        · rw [List.mem_singleton.mp hp]
          obtain ⟨r, hr, hx⟩ := Option.bind_eq_some_iff.mp hx
          exact hg.ids _ _ _ hr hx
      · cases hp
theorem name_ok {rs : List R} (hg : Good rs) (j : Nat) : PyData.strOk (nameAt rs j) = true := by
  unfold nameAt
  cases h : rs[j]? with
  | none => decide +kernel
  | some r => exact hg.nms _ _ h
theorem due_ok {rs : List R} (hg : Good rs) (n : Nat) : ∀ d ∈ dueList rs (firsts rs n), kqdOk 8 d = true := by
  intro d hd
  obtain ⟨q, hq, rfl⟩ := List.mem_map.mp hd
  have h1 := firsts_ok hg n q hq
  simp only [kqdOk, ancDat, List.all_cons, List.all_nil, h1, Bool.true_and, Bool.and_true, List.all_eq_true]
  intro e he
  obtain ⟨j, _, rfl⟩ := List.mem_map.mp he
  exact name_ok hg j
section
variable {prog : Program} {w : World} {A : Around} {E : Value → Shared → Prop} {s : Shared} {h₀ : Heap} {L D : Addr} {m : Str → Option Value} {news news' : List (Addr × Obj)}
theorem app_at {vs : List Value} {n : Nat} {v : Value} {Q : Value → Shared → Prop} (F : Fr h₀ L s.heap m) (N : News h₀ L s.heap news) (U : Upd D (listOf vs.toArray n) (listOf (vs ++ [v]).toArray (n + 1)) news news') (hz : vs.length ≤ 200)
    (h : ∀ h', Fr h₀ L h' m → News h₀ L h' news' → Q .none { s with heap := h' }) : wpAny (model prog w) A (call (.builtin "list.append") [.ref D, v]) Q E s := by
  have e : (vs ++ [v]).toArray = vs.toArray.push v := by rw [List.push_toArray]
  rw [e] at U
  exact append_K (hsz := by rw [List.size_toArray, sizeLine_eq]; omega) F N U h
open Classical in
theorem notinl {a : Addr} {xs : List Value} {ka : Nat} {fs : List (Str × Nat)} {x : Str} {t : Tok} {Q : Value → Shared → Prop} (N : News h₀ L s.heap news) (hm : (a, listOf xs.toArray ka) ∈ news) (hx : AllAt (fun v (q : Str × Nat) => ∃ t, v = .str q.1 t) xs fs)
    (hok : ∀ p ∈ fs, PyData.strOk p.1 = true) (ho : PyData.strOk x = true) (hu : A.units + 64 < cLine) (h1 : x ∈ fs.map (·.1) → Q (.bool false) s) (h2 : ¬ x ∈ fs.map (·.1) → Q (.bool true) s) :
    wpAny (model prog w) A (compareOp .NotIn (.str x t) (.ref a)) Q E s := by
  refine kqd_notIn (n₁ := []) (n₂ := []) (ds := fs.map fun q => .str q.1) N hm rfl rfl (dat_of (fun v k ⟨t, e⟩ => e ▸ .str _ _) xs fs hx) (fun _ h => nomatch h) (.str x t) (fun _ h => nomatch h) ?_ (by simpa [kqdOk] using ho) hu ?_
  · intro d hd
    obtain ⟨q, hq, rfl⟩ := List.mem_map.mp hd
    simpa [kqdOk] using hok q hq
  · have e : (Dat.str x ∈ fs.map fun q => Dat.str q.1) ↔ x ∈ fs.map (·.1) := by
      simp only [List.mem_map]
      constructor
      · rintro ⟨q, hq, e⟩; cases e; exact ⟨q, hq, rfl⟩
      · rintro ⟨q, hq, rfl⟩; exact ⟨q, hq, rfl⟩
    by_cases hi : x ∈ fs.map (·.1)
    · rw [decide_eq_true (e.mpr hi)]; exact h1 hi
    · rw [decide_eq_false (fun q => hi (e.mp q))]; exact h2 hi
theorem notinl_f {a : Addr} {xs : List Value} {ka : Nat} {fs : List (Str × Nat)} {x : Str} {t : Tok} {Q : Value → Shared → Prop} (N : News h₀ L s.heap news) (hm : (a, listOf xs.toArray ka) ∈ news) (hx : AllAt (fun v (q : Str × Nat) => ∃ t, v = .str q.1 t) xs fs)
    (hok : ∀ p ∈ fs, PyData.strOk p.1 = true) (ho : PyData.strOk x = true) (hu : A.units + 64 < cLine) (hi : x ∈ fs.map (·.1)) (h : Q (.bool false) s) :
    wpAny (model prog w) A (compareOp .NotIn (.str x t) (.ref a)) Q E s := notinl N hm hx hok ho hu (fun _ => h) (fun q => absurd hi q)
theorem notinl_t {a : Addr} {xs : List Value} {ka : Nat} {fs : List (Str × Nat)} {x : Str} {t : Tok} {Q : Value → Shared → Prop} (N : News h₀ L s.heap news) (hm : (a, listOf xs.toArray ka) ∈ news) (hx : AllAt (fun v (q : Str × Nat) => ∃ t, v = .str q.1 t) xs fs)
    (hok : ∀ p ∈ fs, PyData.strOk p.1 = true) (ho : PyData.strOk x = true) (hu : A.units + 64 < cLine) (hi : ¬ x ∈ fs.map (·.1)) (h : Q (.bool true) s) :
    wpAny (model prog w) A (compareOp .NotIn (.str x t) (.ref a)) Q E s := notinl N hm hx hok ho hu (fun q => absurd q hi) (fun _ => h)
end
theorem dat_len {led : List (Addr × Obj)} : ∀ {vs : List Value} {ds : List Dat}, DatAll led vs ds → vs.length = ds.length
  | _, _, .nil => rfl
  | _, _, .cons _ r => congrArg (· + 1) (dat_len r)
theorem name2 {h₀ h : Heap} {L a b : Addr} {p : Addr × Obj} {o1 o2 : Obj} {r : List (Addr × Obj)} (_ : News h₀ L h (p :: (a, o1) :: (b, o2) :: r)) : ∃ x y, x = a ∧ y = b := ⟨_, _, rfl, rfl⟩
def DJ (rs : List R) (kn fo : Addr) (i : Nat) (nx : List (Addr × Obj)) : Prop :=
  ∃ (ks fs : List Value) (e1 e2 : Nat) (rest : List (Addr × Obj)), nx = (kn, listOf ks.toArray e1) :: (fo, listOf fs.toArray e2) :: rest ∧ OwnOff rest [kn, fo] ∧ AllAt (fun v (q : Str × Nat) => ∃ t, v = .str q.1 t) ks (firsts rs i) ∧ DatAll rest fs (dueList rs (firsts rs i))
theorem dj_step {rs : List R} {g h : Heap} {L Ra kn fo t D : Addr} {ot : Obj} {i e1 e2 e : Nat} {ks fs ws : List Value} {rest own led : List (Addr × Obj)} {m : Str → Option Value} {s₁ : Shared} {tk : Nat} {x : Str} {tx : Tok} {r : R} {ok1 ok2 : Obj}
    (F : Fr g L h m) (N : News g L h ((t, ot) :: (kn, listOf (ks ++ [Value.str x tx]).toArray e1) :: (fo, listOf (fs ++ [Value.ref t]).toArray e2) :: (rest ++ (own ++ led))))
    (ht : ot = ({ cls := .type "tuple", data := .seq #[.str x tx, .ref D] } : Obj)) (hmD : (D, listOf ws.toArray e) ∈ led) (hws : AllAt (fun v k => ∃ t, v = .str (nameAt rs k) t) ws (anc rs i))
    (hr : rs[i]? = some r) (hid : r.id = some x) (hin : ¬ x ∈ (firsts rs i).map (·.1)) (hks : AllAt (fun v (q : Str × Nat) => ∃ t, v = .str q.1 t) ks (firsts rs i)) (hfs : DatAll rest fs (dueList rs (firsts rs i)))
    (hoff : OwnOff own (((kn, ok1) :: (fo, ok2) :: rest).map (·.1))) (hoff3 : OwnOff (rest ++ (own ++ led)) [kn, fo])
    (hoff6 : ∀ p ∈ led, ∀ q ∈ own, p.1 ≠ q.1) (l1 : @LT.lt Nat _ kn t ∧ @LT.lt Nat _ fo t ∧ AllLt t (rest ++ (own ++ led)))
    (h1 : m "rows" = some (.ref Ra)) (h2 : m "found" = some (.ref fo)) (h3 : m "known" = some (.ref kn)) :
    TurnEndT g L (fun m nx => m "rows" = some (.ref Ra) ∧ m "found" = some (.ref fo) ∧ m "known" = some (.ref kn) ∧ DJ rs kn fo (i + 1) nx) own s₁ .next { s₁ with heap := h, toks := tk } := by
  obtain ⟨a1, a2, a3⟩ := l1
  have a4 := allLt_mem a3
  refine ⟨rfl, h, tk, m, _, (kn, listOf (ks ++ [Value.str x tx]).toArray e1) :: (fo, listOf (fs ++ [Value.ref t]).toArray e2) :: (t, ot) :: (rest ++ led), rfl, F, N, ?_, ?_, ?_, h1, h2, h3, _, _, _, _, _, rfl, ?_, ?_, ?_⟩
  · intro p hp
    simp only [List.mem_cons, List.mem_append] at hp ⊢
    rcases hp with h | h | h | h | h <;> simp [h]
  · intro p hp
    simp [hp]
  · intro p hp b hb
    have hp' : p ∈ rest ++ (own ++ led) := List.mem_append_right _ (List.mem_append_left _ hp)
    simp only [List.map_cons, List.mem_cons, List.map_append, List.mem_append] at hb
    rcases hb with rfl | rfl | rfl | hb | hb
    · exact hoff3 p hp' _ (.head _)
    · exact hoff3 p hp' _ (.tail _ (.head _))
    · exact Nat.ne_of_lt (a4 p hp')
    · exact hoff p hp b (.tail _ (.tail _ hb))
    · obtain ⟨q, hq, rfl⟩ := List.mem_map.mp hb
      exact Ne.symm (hoff6 q hq p hp)
  · intro p hp b hb
    simp only [List.mem_cons, List.mem_append] at hp
    rcases hp with rfl | hp | hp
    · simp only [List.mem_cons, List.not_mem_nil, or_false] at hb
      rcases hb with rfl | rfl
      · exact Nat.ne_of_gt a1
      · exact Nat.ne_of_gt a2
    · exact hoff3 p (List.mem_append_left _ hp) b hb
    · exact hoff3 p (List.mem_append_right _ (List.mem_append_right _ hp)) b hb
  · rw [firsts_new hr hid hin]
    exact hks.snoc ⟨_, rfl⟩
  · rw [firsts_new hr hid hin]
    have eq : dueList rs (firsts rs i ++ [(x, i)]) = dueList rs (firsts rs i) ++ [.tuple [.str x, ancDat rs i]] := by
      unfold dueList; rw [List.map_append]; rfl
    rw [eq]
    refine dat_snoc (hfs.mono fun p hp => .tail _ (List.mem_append_left _ hp)) (.tuple (vs := [.str x tx, .ref D]) (n := 0) ?_ (.cons (.str _ _) (.cons ?_ .nil)))
    · rw [ht]; exact .head _
    · exact .list (vs := ws) (n := e) (.tail _ (List.mem_append_right _ hmD)) (dat_of (fun v k ⟨t, e⟩ => e ▸ .str _ _) ws _ hws)
section
local macro_rules | `(tactic| ktr_enter) => `(tactic| (refine' code_defG ?k1 ?k2 ?k3 ?k4 ?k5 ?kA ?kF ?kK ?k6 ?k7 ?k8 ?k9 ?kB ?_ ?c2 ?c3 ?c4 ?c5; (case kA => exact rfl); (case kF => exact rfl); (case kK => assumption); (case k1 => k_asm); (case k2 => k_asm); (case k3 => k_asm); (case k4 => k_asm); (case k5 => k_asm); (case k6 => k_is); (case k7 => k_is); (case k8 => ktr_room); (case k9 => exact BindsTo.of_eq rfl); (case c5 => decide); (case kB => exact locs rfl); (case c2 => exact rfl); (case c3 => exact rfl); (case c4 => exact rfl); k_whole))
local macro_rules | `(tactic| k_room) => `(tactic| ktr_room)
local macro_rules | `(tactic| k_mem) => `(tactic| assumption)
local macro_rules | `(tactic| walk_at "LeaveK") => `(tactic| ((with_reducible rename GSub _ _ _ => kG'); (with_reducible rename Fr _ _ _ _ => lF'); (have kept' := keep_of kG' lF'); (clear kG'); walk_at "LeaveK"))
local macro_rules | `(tactic| walk_at "subscriptTail") => `(tactic| (k_here; (with_reducible show wpAny _ _ (subscriptTail _ _ (Value.ref _) (Value.int _ _)) _ _ _); k_dflt (refine' item_tupleT ?t ?a ?b ?c ?d ?_; (case t => exact Fr.tup (by assumption) (by assumption)); (case a => decide); (case b => decide); (case c => rfl); (case d => rfl); k_whole)))
local macro_rules | `(tactic| walk_at "exec For Tuple Call") => `(tactic| (k_here; refine Halt.off ?_))
local macro_rules | `(tactic| walk_at "exec For Tuple Call cons nil") => `(tactic| (k_here; refine Halt.off ?_))
local macro_rules | `(tactic| walk_at "exec For") => `(tactic| (k_here; refine Halt.off ?_))
local macro_rules | `(tactic| walk_at "call type:enumerate") => `(tactic| (k_here; refine Halt.off ?_))
local macro_rules | `(tactic| walk_at "call ref") => `(tactic| (k_here; refine Halt.off ?_))
local macro_rules | `(tactic| walk_at "assign Tuple") => `(tactic| (k_here; (with_reducible show wpAny _ _ (assign (PySem.Expr.Tuple _ _ _) _ (Value.ref _)) _ _ _); k_dflt (refine unpackN_ (by k_asm) (by k_asm) (by assumption) (by rfl) (by rfl) (by rfl) ?_); intro _ _ _))
local macro_rules | `(tactic| walk_at "getMethod ref") => `(tactic| (k_here; (with_reducible show wpAny _ _ (getMethod (Value.ref _) (PySem.Str.ofString "get") _) _ _ _); k_dflt (refine getMethod_words (WordsAt.keeps (by assumption) (Fr.keep (by k_asm))) ?_)))
local macro_rules | `(tactic| walk_at "call builtin:dict.get") => `(tactic| (k_here; k_dflt (first
  | refine get_none (WordsAt.keeps (by assumption) (Fr.keep (by k_asm))) ?_
  | (refine get_some (WordsAt.keeps (by assumption) (Fr.keep (by k_asm))) ?_; intro t'))))
local macro_rules | `(tactic| walk_at "compareOp NotIn str ref") => `(tactic| (k_here; k_dflt (first
  | (refine' notinl_t ?N ?m ?x ?o ?y ?u ?i ?_; (case N => k_asm); (case m => (repeat' (first | assumption | exact List.Mem.head _ | refine List.Mem.tail _ ?_))); (case x => assumption); (case o => assumption); (case y => assumption); (case u => ktr_units); (case i => assumption); k_whole)
  | (refine' notinl_f ?N ?m ?x ?o ?y ?u ?i ?_; (case N => k_asm); (case m => (repeat' (first | assumption | exact List.Mem.head _ | refine List.Mem.tail _ ?_))); (case x => assumption); (case o => assumption); (case y => assumption); (case u => ktr_units); (case i => assumption); k_whole))))
local macro_rules | `(tactic| walk_at "call builtin:list.append") => `(tactic| (k_here; k_dflt (refine' app_at ?F ?N ?U ?z ?_; (case F => k_asm); (case N => k_asm); (case U => k_upd); (case z => omega); k_whole); intro h' F' N'))
set_option maxRecDepth 100000 in
set_option maxHeartbeats 4000000 in
theorem due_spec (w : World) (Ra : Addr) (rs : List R) (hp : Pre rs) (hg : Good rs) :
    SpecO w 95 [.ref Ra] (fun h => RowsAt w h Ra rs) [] (fun r h0 h' => ∃ led, LedAt h0 h' led ∧ DueIn led r (dueList rs (firsts rs rs.length))) := by
  w_top off
  unfold SpecO
  k_fill
  intro loose mean mg mb dp un gd cn cs adr ccd cl outer A₀ base h₀ L m s Q E B F X T hk hdp hun hS hpre hret
  have N : News h₀ L s.heap [] := fun _ hp => nomatch hp
  refine wpAny_call ?_
  k_dflt ktr_enter
  intro g1 L1 h1 FG1 F1 N1 B1 X1 T1 kG1
  (try dsimp only)
  (try k_fold)
  have kG2 : ∀ b o, s.heap.get? b = some o → g1.get? b = some o := fun b o e => kG1 b o e (fun h => nomatch h)
  have hpre' : RowsAt w g1 Ra rs := hpre.keeps fun b o e => kG1 b o e (fun h => nomatch h)
  have hpre2 := hpre'
  obtain ⟨vs, hvl, hlen, hrow⟩ := hpre2
  have hfew := hp.few
  k_steps
  unfold Halt
  refine For_turns (by k_asm) ?_
  k_steps
  unfold Halt
  (rename News g1 L1 _ _ => N2)
  (rename Fr g1 L1 _ _ => F2)
  obtain ⟨kn, fo, e1, e2⟩ : ∃ kn fo, kn = _ ∧ fo = _ := name2 N2
  subst e1 e2
  have hkf : @Ne Nat kn fo := neN (by omega)
  refine enum_base (fun i m nx => m "rows" = some (.ref Ra) ∧ m "found" = some (.ref fo) ∧ m "known" = some (.ref kn) ∧ DJ rs kn fo i nx) rfl F2 (news := [(kn, _), (fo, _)]) (fun p hp => N2 p (.tail _ hp)) hvl ⟨rfl, rfl, rfl, [], [], 0, 0, [], rfl, (fun _ hp => nomatch hp), AllAt.nil, DatAll.nil⟩ ?_ ?_
  · rintro i T t v m₁ nx h2 tk2 own hv hT hoff ⟨hmr, hmf, hmk, ks, fs, e1, e2, rest, rfl, hrest, hks, hfs⟩ F3 N3
    replace F3 := fr_three F3 hmr hmf hmk (by decide) (by decide) (by decide)
    obtain ⟨r, hr⟩ := at_lt (rs := rs) (k := i) (by have := (List.getElem?_eq_some_iff.mp hv).1; omega)
    obtain ⟨tu, d, tn, tp, rfl, htup, hwd⟩ := hrow i _ _ hv hr
    have hi : i < rs.length := (List.getElem?_eq_some_iff.mp hr).1
    simp only [List.cons_append] at N3
    have hoff2 : OwnOff (rest ++ own) [kn, fo] := by
      intro p hp b hb
      rcases List.mem_append.mp hp with hp | hp
      · exact hrest p hp b hb
      · refine hoff p hp b ?_
        simp only [List.mem_cons, List.not_mem_nil, or_false, List.map_cons] at hb ⊢
        rcases hb with h | h <;> simp [h]
    have hz1 : ks.length ≤ 9 := by
      have h1 := hks.1
      have h2 := firsts_length rs i
      omega
    have hz2 : fs.length ≤ 9 := by
      have h1 := dat_len hfs
      have h2 := firsts_length rs i
      rw [dueList, List.length_map] at h1
      omega
    have hok := firsts_ok hg i
    have hown1 : ∀ p ∈ own, p ∈ (kn, listOf ks.toArray e1) :: (fo, listOf fs.toArray e2) :: (rest ++ own) := fun p hp => .tail _ (.tail _ (List.mem_append_right _ hp))
    have hsub1 : ∀ p ∈ (kn, listOf ks.toArray e1) :: (fo, listOf fs.toArray e2) :: rest, p ∈ (kn, listOf ks.toArray e1) :: (fo, listOf fs.toArray e2) :: (rest ++ own) := fun p hp => by
      simp only [List.mem_cons, List.mem_append] at hp ⊢
      rcases hp with h | h | h <;> simp [h]
    cases hid : r.id with
    | none =>
      rw [hid] at hwd
      k_steps
      (rename News g1 L1 _ _ => N9)
      (rename Fr g1 L1 _ _ => F9)
      exact ⟨rfl, _, _, _, _, _, rfl, F9, N9, hsub1, hown1, hoff, rfl, rfl, rfl, ks, fs, e1, e2, rest, rfl, hrest, by rw [firsts_none hr hid]; exact hks, by rw [firsts_none hr hid]; exact hfs⟩
    | some x =>
      rw [hid] at hwd
      have hxo := hg.ids _ _ _ hr hid
      by_cases hin : x ∈ (firsts rs i).map (·.1)
      · k_steps
        (rename News g1 L1 _ _ => N9)
        (rename Fr g1 L1 _ _ => F9)
        exact ⟨rfl, _, _, _, _, _, rfl, F9, N9, hsub1, hown1, hoff, rfl, rfl, rfl, ks, fs, e1, e2, rest, rfl, hrest, by rw [firsts_old hr hid hin]; exact hks, by rw [firsts_old hr hid hin]; exact hfs⟩
      · k_steps
        unfold Halt
        (rename News g1 L1 _ ((_, listOf (ks ++ _).toArray _) :: _) => N4)
        (rename Fr g1 L1 _ _ => F4)
        refine' spec_use (way_spec w Ra i t rs hp hi) (outer := envX cn cs L adr ccd cl :: outer) ?zb ?zf ?zx ?zt ?zk ?zd ?zu ?zn ?zp ?_
        case zb => exact B1
        case zf => exact F4
        case zx => exact X1
        case zt => exact T1
        case zk => rfl
        case zd => show dp + 1 < 400; omega
        case zu => show un + 3 < 2000; omega
        case zn => exact N4
        case zp => exact hpre'.keeps (Fr.keep F4)
        intro wr h5 tk5 F5 N5 keep5 post5
        obtain ⟨led, hled, D, ws, e, rfl, hmD, hws⟩ := post5
        have N6 := news_led F4 N5 hled
        have hoff6 := led_off N4 hled
        simp only [List.cons_append, List.append_assoc] at N6
        have hoff3 : OwnOff (rest ++ (own ++ led)) [kn, fo] := by
          intro p hp b hb
          rcases List.mem_append.mp hp with hp | hp
          · exact hrest p hp b hb
          · rcases List.mem_append.mp hp with hp | hp
            · exact hoff2 p (List.mem_append_right _ hp) b hb
            · refine hoff6 p hp b ?_
              simp only [List.mem_cons, List.not_mem_nil, or_false, List.map_cons] at hb ⊢
              rcases hb with h | h <;> simp [h]
        clear N5
        k_steps
        (rename News g1 L1 _ ((_, tupOf _) :: (kn, listOf (ks ++ _).toArray _) :: (fo, listOf (fs ++ _).toArray _) :: _) => N9)
        (rename Fr g1 L1 _ _ => F9)
        exact dj_step F9 N9 rfl hmD hws hr hid hin hks hfs hoff hoff3 (fun p hp q hq => hoff6 p hp q.1 (List.mem_map_of_mem (.tail _ (.tail _ (List.mem_append_right _ hq))))) (by assumption) rfl rfl rfl
  · rintro m₁ nx h tk ⟨hmr, hmf, hmk, ks, fs, e1, e2, rest, rfl, hrest, hks, hfs⟩ F3 N3
    replace F3 := fr_three F3 hmr hmf hmk (by decide) (by decide) (by decide)
    rw [hlen] at hfs
    k_steps
    (rename ∀ b o, b ∉ _ → s.heap.get? b = some o → _ => kept_)
    exact hret _ _ _ kept_ ⟨_, led_of N3 (fun _ h => h) kG2, _, fs, e2, rfl, .tail _ (.head _), hfs.mono fun p hp => .tail _ (.tail _ hp)⟩
end
end Mine
end
section
open PySem PySem.W PySem.Calls PyProof.Rows PySem.Spec
namespace Mine
section
local macro_rules | `(tactic| ktr_enter) => `(tactic| (refine' code_defG ?k1 ?k2 ?k3 ?k4 ?k5 ?kA ?kF ?kK ?k6 ?k7 ?k8 ?k9 ?kB ?_ ?c2 ?c3 ?c4 ?c5; (case kA => exact rfl); (case kF => exact rfl); (case kK => assumption); (case k1 => k_asm); (case k2 => k_asm); (case k3 => k_asm); (case k4 => k_asm); (case k5 => k_asm); (case k6 => k_is); (case k7 => k_is); (case k8 => ktr_room); (case k9 => exact BindsTo.of_eq rfl); (case c5 => decide); (case kB => exact locs rfl); (case c2 => exact rfl); (case c3 => exact rfl); (case c4 => exact rfl); k_whole))
local macro_rules | `(tactic| k_room) => `(tactic| ktr_room)
local macro_rules | `(tactic| walk_at "LeaveK") => `(tactic| ((with_reducible rename GSub _ _ _ => kG'); (with_reducible rename Fr _ _ _ _ => lF'); (have kept' := keep_of kG' lF'); (clear kG'); walk_at "LeaveK"))
local macro_rules | `(tactic| walk_at "call builtin:len") => `(tactic| (k_here; (with_reducible show wpAny _ _ (call (Value.builtin "len") [Value.ref _]) _ _ _); k_dflt (refine len_at (by is_list) (by with_reducible assumption) (by omega) ?_)))
local macro_rules | `(tactic| walk_at "subscriptTail") => `(tactic| (k_here; (with_reducible show wpAny _ _ (subscriptTail _ _ (Value.ref _) (Value.int 0 _)) _ _ _); k_dflt (refine item_zero (by is_list) (by assumption) ?_)))
def ScriptAt (h : Heap) (Sc : Addr) : Prop := ∃ (vs : List Value) (zs : List Int), h.IsList Sc vs.toArray ∧ IntsAre vs zs ∧ zs.length ≤ 63
def PairAt (h0 h' : Heap) (r : Value) : Prop := ∃ D a b ta tb n, r = .ref D ∧ h'.get? D = some (listOf #[.int a ta, .int b tb] n) ∧ h0.get? D = none
set_option maxRecDepth 100000 in
set_option maxHeartbeats 4000000 in
theorem pool_spec (w : World) (Sc : Addr) :
    Spec w 62 [.ref Sc] (fun h => ScriptAt h Sc) [] (fun r h0 h' => PairAt h0 h' r) := by
  w_top off
  unfold Spec
  k_fill
  intro loose mean mg mb dp un gd cn cs adr ccd cl outer A₀ base h₀ L m s Q E B F X T hk hdp hun hS hpre hret
  have N : News h₀ L s.heap [] := fun _ hp => nomatch hp
  refine wpAny_call ?_
  k_dflt ktr_enter
  intro g1 L1 h1 FG1 F1 N1 B1 X1 T1 kG1
  (try dsimp only)
  (try k_fold)
  have kG2 : ∀ b o, s.heap.get? b = some o → g1.get? b = some o := fun b o e => kG1 b o e (fun h => nomatch h)
  obtain ⟨vs, zs, hl0, hints, hlz⟩ := hpre
  have hvl : g1.IsList Sc vs.toArray := hl0.at fun o e => kG2 _ _ e
  have hlen : vs.length = zs.length := hints.length
  have fin : ∀ (h' : Heap) tk' D (l : List Value) nw, (∀ b o, b ∉ ([] : List (Addr × Obj)).map (fun x => x.1) → s.heap.get? b = some o → h'.get? b = some o) → News g1 L1 h' ((D, listOf l.toArray 0) :: nw) → (∃ a b ta tb, l = [.int a ta, .int b tb]) → Q (.ref D) { s with heap := h', toks := tk' } := by
    rintro h' tk' D l nw kept NN ⟨a, b, ta, tb, rfl⟩
    exact hret _ _ _ kept ⟨D, a, b, ta, tb, 0, rfl, NN.get (.head _), (led_of NN (fun _ h => h) kG2 _ (.head _)).2⟩
  cases zs with
  | nil =>
    have hv0 : vs.length = 0 := hlen
    k_steps
    all_goals (
      (rename News g1 L1 _ _ => N9)
      (rename ∀ b o, b ∉ _ → s.heap.get? b = some o → _ => kept_)
      exact fin _ _ _ _ _ kept_ N9 ⟨_, _, _, _, rfl⟩)
  | cons z zs =>
    cases hints with
    | cons hz hrest =>
      k_steps
      all_goals (
        (rename News g1 L1 _ _ => N9)
        (rename ∀ b o, b ∉ _ → s.heap.get? b = some o → _ => kept_)
        exact fin _ _ _ _ _ kept_ N9 ⟨_, _, _, _, rfl⟩)
end
end Mine
end
section
open PySem PySem.W PySem.Calls PyProof.Rows PySem.Spec
namespace Mine
def SpecB (dB uB : Nat) (w : World) (f : Addr) (args : List Value) (Pre : Heap → Prop) (S : List Addr) (Post : Value → Heap → Heap → Prop) : Prop :=
  ∀ (loose : List Str) (mean : ExcName → Option Value) (mg mb : Str → Option Value) (dp un : Nat) (gd : Option (List Code)) (cn : Str) (cs : Scope) (a : Addr) (ccd : Value) (cl : List (Str × Addr)) (outer : List Env)
    (A₀ : Around) (base h₀ : Heap) (L : Addr) (m : Str → Option Value) (s : Shared) (Q E : Value → Shared → Prop),
    Below A₀ base outer h₀ → Fr h₀ L s.heap m → (hd.heap_39 w.params).In h₀ → Top hd.view_39 loose mean mg mb h₀ → cs.kind = .function → dp < dB → un < uB →
    (∀ b ∈ S, h₀.get? b = none ∧ b ≠ L) → Pre s.heap →
    (∀ r h' tk', (∀ b o, b ∉ S → s.heap.get? b = some o → h'.get? b = some o) → Post r s.heap h' → Q r { s with heap := h', toks := tk' }) →
    wpAny (model PySem.Challenge.rw_xm0709_01.row.prog w) (ktrTop dp un gd cn cs L a ccd cl outer) (call (.ref f) args) Q E s
theorem Spec.B {w : World} {f : Addr} {args : List Value} {Pre : Heap → Prop} {S : List Addr} {Post : Value → Heap → Heap → Prop} (h : Spec w f args Pre S Post) : SpecB 400 2000 w f args Pre S Post := h
theorem SpecO.B {w : World} {f : Addr} {args : List Value} {Pre : Heap → Prop} {S : List Addr} {Post : Value → Heap → Heap → Prop} (h : SpecO w f args Pre S Post) : SpecB 390 1900 w f args Pre S Post := h
theorem spec_use0 {dB uB : Nat} {w : World} {f : Addr} {args : List Value} {Pre : Heap → Prop} {Post : Value → Heap → Heap → Prop} (C : SpecB dB uB w f args Pre [] Post)
    {loose : List Str} {mean : ExcName → Option Value} {mg mb : Str → Option Value} {dp un : Nat} {gd : Option (List Code)} {cn : Str} {cs : Scope} {a : Addr} {ccd : Value} {cl : List (Str × Addr)} {outer : List Env}
    {A₀ : Around} {base h₀ : Heap} {L : Addr} {m : Str → Option Value} {s : Shared} {Q E : Value → Shared → Prop} {news : List (Addr × Obj)}
    (B : Below A₀ base outer h₀) (F : Fr h₀ L s.heap m) (X : (hd.heap_39 w.params).In h₀) (T : Top hd.view_39 loose mean mg mb h₀) (hk : cs.kind = .function) (hd' : dp < dB) (hu : un < uB) (N : News h₀ L s.heap news) (hp : Pre s.heap)
    (ret : ∀ r h' tk', Fr h₀ L h' m → News h₀ L h' news → (∀ b o, s.heap.get? b = some o → h'.get? b = some o) → Post r s.heap h' → Q r { s with heap := h', toks := tk' }) :
    wpAny (model PySem.Challenge.rw_xm0709_01.row.prog w) (ktrTop dp un gd cn cs L a ccd cl outer) (call (.ref f) args) Q E s :=
  C loose mean mg mb dp un gd cn cs a ccd cl outer A₀ base h₀ L m s Q E B F X T hk hd' hu (fun _ h => nomatch h) hp fun r h' tk' keep post =>
    have keep' : ∀ b o, s.heap.get? b = some o → h'.get? b = some o := fun b o e => keep b o (fun h => nomatch h) e
    ret r h' tk' (F.keeps keep') (N.grown keep') keep' post
theorem spec_use1 {dB uB : Nat} {w : World} {f : Addr} {args : List Value} {Pre : Heap → Prop} {src : Addr} {Post : Value → Heap → Heap → Prop} (C : SpecB dB uB w f args Pre [src] Post)
    {loose : List Str} {mean : ExcName → Option Value} {mg mb : Str → Option Value} {dp un : Nat} {gd : Option (List Code)} {cn : Str} {cs : Scope} {a : Addr} {ccd : Value} {cl : List (Str × Addr)} {outer : List Env}
    {A₀ : Around} {base h₀ : Heap} {L : Addr} {m : Str → Option Value} {s : Shared} {Q E : Value → Shared → Prop} {news : List (Addr × Obj)} {o : Obj} {g : Obj → List (Addr × Obj)}
    (B : Below A₀ base outer h₀) (F : Fr h₀ L s.heap m) (X : (hd.heap_39 w.params).In h₀) (T : Top hd.view_39 loose mean mg mb h₀) (hk : cs.kind = .function) (hd' : dp < dB) (hu : un < uB) (N : News h₀ L s.heap news) (U : UpdF src o news g) (hp : Pre s.heap)
    (post : ∀ r h h', Post r h h' → ∃ o', h'.get? src = some o')
    (ret : ∀ r h' tk' o', Fr h₀ L h' m → News h₀ L h' (g o') → h'.get? src = some o' → (∀ b o, b ∉ [src] → s.heap.get? b = some o → h'.get? b = some o) → Post r s.heap h' → Q r { s with heap := h', toks := tk' }) :
    wpAny (model PySem.Challenge.rw_xm0709_01.row.prog w) (ktrTop dp un gd cn cs L a ccd cl outer) (call (.ref f) args) Q E s := by
  obtain ⟨own, rest, rfl, hg, h1, h2⟩ := U.split
  have z := N (src, o) (List.mem_append_right _ (.head _))
  refine C loose mean mg mb dp un gd cn cs a ccd cl outer A₀ base h₀ L m s Q E B F X T hk hd' hu (fun b hb => by rw [List.mem_singleton.mp hb]; exact ⟨z.2.2, z.2.1⟩) hp fun r h' tk' keep post' => ?_
  obtain ⟨o', ho'⟩ := post _ _ _ post'
  refine ret r h' tk' o' (LCg.fr_but F keep (Ne.symm z.2.1) z.2.2) ?_ ho' keep post'
  rw [hg]
  intro p hp
  rcases List.mem_append.mp hp with hp | hp
  · have q := N p (List.mem_append_left _ hp)
    exact ⟨keep _ _ (by simpa using h1 p hp) q.1, q.2⟩
  · rcases List.mem_cons.mp hp with rfl | hp
    · exact ⟨ho', z.2⟩
    · have q := N p (List.mem_append_right _ (.tail _ hp))
      exact ⟨keep _ _ (by simpa using h2 p hp) q.1, q.2⟩
abbrev pairOf (a b : Int) (ta tb : Tok) (n : Nat) : Obj := listOf #[.int a ta, .int b tb] n
def SrcPost (src : Addr) (h' : Heap) : Prop := ∃ a b ta tb n, h'.get? src = some (pairOf a b ta tb n)
section
local macro_rules | `(tactic| ktr_enter) => `(tactic| (refine' code_defG ?k1 ?k2 ?k3 ?k4 ?k5 ?kA ?kF ?kK ?k6 ?k7 ?k8 ?k9 ?kB ?_ ?c2 ?c3 ?c4 ?c5; (case kA => exact rfl); (case kF => exact rfl); (case kK => assumption); (case k1 => k_asm); (case k2 => k_asm); (case k3 => k_asm); (case k4 => k_asm); (case k5 => k_asm); (case k6 => k_is); (case k7 => k_is); (case k8 => ktr_room); (case k9 => exact BindsTo.of_eq rfl); (case c5 => decide); (case kB => exact locs rfl); (case c2 => exact rfl); (case c3 => exact rfl); (case c4 => exact rfl); k_whole))
local macro_rules | `(tactic| k_room) => `(tactic| ktr_room)
local macro_rules | `(tactic| walk_at "LeaveK") => `(tactic| ((with_reducible rename GSub _ _ _ => kG'); (with_reducible rename Fr _ _ _ _ => lF'); (have kept' := keep_of kG' lF'); (clear kG'); walk_at "LeaveK"))
local macro_rules | `(tactic| walk_at "call builtin:len") => `(tactic| (k_here; (with_reducible show wpAny _ _ (call (Value.builtin "len") [Value.ref _]) _ _ _); k_dflt (refine len_at (by is_list) (by with_reducible assumption) (by omega) ?_)))
local macro_rules | `(tactic| walk_at "subscriptTail") => `(tactic| (k_here; (with_reducible show wpAny _ _ (subscriptTail _ _ (Value.ref _) (Value.int ((_ : Nat) : Int) _)) _ _ _); k_dflt (refine item_nat (by is_list) (by assumption) (by omega) ?_)))
local macro_rules | `(tactic| walk_at "call ref") => `(tactic| (k_here; refine Halt.off ?_))
set_option maxRecDepth 100000 in
set_option maxHeartbeats 4000000 in
theorem one_spec (w : World) (src Th : Addr) (a b : Int) (ta tb : Tok) (n : Nat) (vs : List Value) (hvs : vs.length = 6) :
    SpecO w 76 [.ref src, .ref Th] (fun h => h.get? src = some (pairOf a b ta tb n) ∧ h.IsList Th vs.toArray) [src] (fun r _ h' => (∃ j, j < 6 ∧ vs[j]? = some r) ∧ SrcPost src h') := by
  w_top off
  unfold SpecO
  k_fill
  intro loose mean mg mb dp un gd cn cs adr ccd cl outer A₀ base h₀ L m s Q E B F X T hk hdp hun hS hpre hret
  have N : News h₀ L s.heap [(src, pairOf a b ta tb n)] := by
    intro p hp
    rw [List.mem_singleton] at hp
    subst hp
    exact ⟨hpre.1, (hS src (.head _)).2, (hS src (.head _)).1⟩
  have hne : Th ≠ src := by
    rintro rfl
    obtain ⟨o, e, _, n2, e3⟩ := hpre.2
    rw [hpre.1] at e
    cases e
    have := congrArg (fun d => match d with | Data.seq x _ => x.size | _ => 0) e3
    simp [hvs] at this
  refine wpAny_call ?_
  k_dflt ktr_enter
  intro g1 L1 h1 FG1 F1 N1 B1 X1 T1 kG1
  (try dsimp only)
  (try k_fold)
  have hvl : g1.IsList Th vs.toArray := hpre.2.at fun o e => kG1 _ _ e (by simpa using hne)
  k_steps
  unfold Halt
  refine' spec_use1 (take_spec w src a b 6 ta tb _ n (by decide) (by decide)).B (outer := envX cn cs L adr ccd cl :: outer) ?zb ?zf ?zx ?zt ?zk ?zd ?zu ?zn ?zU ?zp ?zo ?_
  case zb => exact B1
  case zf => k_asm
  case zx => exact X1
  case zt => exact T1
  case zk => rfl
  case zd => show dp + 1 < 400; omega
  case zu => show un + 3 < 2000; omega
  case zn => k_asm
  case zU => exact .head (fun _ h => nomatch h)
  case zp => exact N1.get (.head _)
  case zo => exact fun r h h' ⟨_, _, _, _, _, _, _, _, _, _, e⟩ => ⟨_, e⟩
  intro r h3 tk3 o' F3 N3 ho' keep3 post3
  obtain ⟨k, tk, a', b', ta', tb', n', rfl, hk0, hk1, e⟩ := post3
  rw [e] at ho'
  cases ho'
  obtain ⟨j, rfl⟩ := Int.eq_ofNat_of_zero_le hk0
  obtain ⟨v, hv⟩ := at_lt (rs := vs) (k := j) (by omega)
  k_steps
  (rename ∀ b o, b ∉ _ → s.heap.get? b = some o → _ => kept_)
  exact hret _ _ _ kept_ ⟨⟨j, by omega, hv⟩, _, _, _, _, _, e⟩
end
end Mine
end
section
open PySem PySem.W PySem.Calls PyProof.Rows PySem.Spec
namespace Mine
def WordsOf (w : World) (d : Addr) (od : Obj) (id : Option Str) : Prop := (d == sysModules) = false ∧ ∃ kvs, od.IsDictOf (PySem.strKind PySem.Challenge.rw_xm0709_01.row.prog w) kvs ∧ IdOf kvs id
def RowIn (w : World) (led : List (Addr × Obj)) (v : Value) (r : R) : Prop :=
  ∃ t d tn tp od, v = .ref t ∧ (t, tupOf [.str r.nm tn, .ref d, .int r.par tp]) ∈ led ∧ (d, od) ∈ led ∧ WordsOf w d od r.id
theorem RowIn.mono {w : World} {led led' : List (Addr × Obj)} {v : Value} {r : R} (x : RowIn w led v r) (hs : ∀ p ∈ led, p ∈ led') : RowIn w led' v r := let ⟨t, d, tn, tp, od, a, b, c, e⟩ := x; ⟨t, d, tn, tp, od, a, hs _ b, hs _ c, e⟩
theorem RowIn.at {w : World} {led : List (Addr × Obj)} {h : Heap} {v : Value} {r : R} (x : RowIn w led v r) (hl : ∀ p ∈ led, h.get? p.1 = some p.2) : RowAt w h v r :=
  let ⟨t, d, tn, tp, od, a, b, c, lo, kvs, e, f⟩ := x; ⟨t, d, tn, tp, a, ⟨_, hl _ b, rfl, _, rfl⟩, lo, kvs, Heap.dictOf_iff.mpr ⟨od, hl _ c, e⟩, f⟩
def DrawnIn (w : World) (led : List (Addr × Obj)) (r : Value) (rs : List R) : Prop := ∃ D vs e, r = .ref D ∧ (D, listOf vs.toArray e) ∈ led ∧ AllAt (RowIn w led) vs rs

/-- the open places, as the drawing keeps them -/
structure OpenOk (rs : List R) (ops : List Int) : Prop where
  sorted : ops.Pairwise (· < ·)
  range : ∀ a ∈ ops, 0 ≤ a ∧ a < (rs.length : Int)
  inh : rs ≠ [] → ops ≠ []
  root : ∀ r, rs[0]? = some r → r.par = -1
  par : ∀ (i : Nat) (r : R), 0 < i → rs[i]? = some r → 0 ≤ r.par ∧ r.par < (i : Int)
  nest : ∀ (i j k : Nat) (r q : R), i < j → j < k → rs[j]? = some r → rs[k]? = some q → r.par < (i : Int) → q.par ≠ (i : Int)
  closed : ∀ a ∈ ops, ∀ (j : Nat) (r : R), a < (j : Int) → rs[j]? = some r → a ≤ r.par
theorem OpenOk.nil : OpenOk [] [] := ⟨.nil, (fun _ h => nomatch h), (fun h => absurd rfl h), (fun r h => by simp at h), (fun i r _ h => by simp at h), (fun i j k r q _ _ h => by simp at h), (fun _ h => nomatch h)⟩
theorem OpenOk.pre {rs : List R} {ops : List Int} (h : OpenOk rs ops) (h1 : 0 < rs.length) (h2 : rs.length ≤ 9) : Pre rs := ⟨h1, h2, h.root, h.par, h.nest⟩
theorem snoc_get {rs : List R} {r x : R} {i : Nat} (h : (rs ++ [r])[i]? = some x) : (i < rs.length ∧ rs[i]? = some x) ∨ (i = rs.length ∧ x = r) := by
  rcases Nat.lt_trichotomy i rs.length with hi | hi | hi
  · rw [List.getElem?_append_left hi] at h
    exact .inl ⟨hi, h⟩
  · subst hi
    rw [List.getElem?_append_right (Nat.le_refl _), Nat.sub_self] at h
    exact .inr ⟨rfl, by cases h; rfl⟩
  · rw [List.getElem?_eq_none (by simp; omega)] at h; cases h
theorem OpenOk.first {r : R} (hr : r.par = -1) : OpenOk [r] [(0 : Int)] := by
  refine ⟨by simp, fun a ha => by rw [List.mem_singleton.mp ha]; simp, fun _ => by simp, fun x h => ?_, fun i x hi h => ?_, fun i j k x y h1 h2 h3 h4 => ?_, fun a ha j x hj h => ?_⟩
  · cases h; exact hr
  · rw [List.getElem?_eq_none (by simp; omega)] at h; cases h
  · rw [List.getElem?_eq_none (by simp; omega)] at h4; cases h4
  · rw [List.mem_singleton.mp ha] at hj
    rw [List.getElem?_eq_none (by simp; omega)] at h; cases h
theorem OpenOk.more {rs : List R} {ops q z : List Int} {p : Int} {r : R} (h : OpenOk rs ops) (he : ops = q ++ [p] ++ z) (hr : r.par = p) : OpenOk (rs ++ [r]) (q ++ [p] ++ [(rs.length : Int)]) := by
  have hm : ∀ a ∈ q ++ [p], a ∈ ops := fun a ha => by rw [he]; exact List.mem_append_left _ ha
  have hpm := hm p (by simp)
  have hpr := h.range p hpm
  have hs := h.sorted
  rw [he] at hs
  have hqp := (List.pairwise_append.mp hs).1
  have hle : ∀ a ∈ q ++ [p], a ≤ p := fun a ha => by
    rcases List.mem_append.mp ha with ha | ha
    · exact Int.le_of_lt ((List.pairwise_append.mp hqp).2.2 a ha p (by simp))
    · rw [List.mem_singleton.mp ha]; exact Int.le_refl _
  refine ⟨?_, fun a ha => ?_, fun _ => by simp, fun x hx => ?_, fun i x hi hx => ?_, fun i j k x y h1 h2 h3 h4 h5 => ?_, fun a ha j x hj hx => ?_⟩
  · refine List.pairwise_append.mpr ⟨hqp, by simp, fun a ha b hb => ?_⟩
    rw [List.mem_singleton.mp hb]
    exact (h.range a (hm a ha)).2
  · rw [List.length_append, List.length_singleton]
    rcases List.mem_append.mp ha with ha | ha
    · have := h.range a (hm a ha); omega
    · rw [List.mem_singleton.mp ha]; omega
  · rcases snoc_get hx with ⟨_, h1⟩ | ⟨h1, _⟩
    · exact h.root _ h1
    · omega
  · rcases snoc_get hx with ⟨_, h1⟩ | ⟨h1, rfl⟩
    · exact h.par _ _ hi h1
    · rw [hr, h1]; exact hpr
  · rcases snoc_get h3 with ⟨hj, h3'⟩ | ⟨hj, rfl⟩
    · rcases snoc_get h4 with ⟨_, h4'⟩ | ⟨_, rfl⟩
      · exact h.nest i j k x y h1 h2 h3' h4' h5
      · rw [hr]
        intro e
        have := h.closed p hpm j x (by omega) h3'
        omega
    · rcases snoc_get h4 with ⟨hk, _⟩ | ⟨hk, _⟩ <;> omega
  · rcases List.mem_append.mp ha with ha | ha
    · rcases snoc_get hx with ⟨_, h1⟩ | ⟨_, rfl⟩
      · exact h.closed a (hm a ha) j x hj h1
      · rw [hr]; exact hle a ha
    · rw [List.mem_singleton.mp ha] at hj
      rcases snoc_get hx with ⟨h1, _⟩ | ⟨h1, _⟩ <;> omega
theorem ints_last {vs : List Value} {ns : List Int} (h : IntsAre vs ns) : (vs = [] ∧ ns = []) ∨ ∃ us ms p t, vs = us ++ [.int p t] ∧ ns = ms ++ [p] := by
  induction h with
  | nil => exact .inl ⟨rfl, rfl⟩
  | cons n t r ih =>
    rcases ih with ⟨rfl, rfl⟩ | ⟨us, ms, p, t2, rfl, rfl⟩
    · exact .inr ⟨[], [], n, t, rfl, rfl⟩
    · exact .inr ⟨_ :: us, n :: ms, p, t2, rfl, rfl⟩
theorem Good.nil : Good [] := ⟨fun i r h => by simp at h, fun i r x h => by simp at h⟩
theorem Good.snoc {rs : List R} {r : R} (h : Good rs) (h1 : PyData.strOk r.nm = true) (h2 : ∀ x, r.id = some x → PyData.strOk x = true) : Good (rs ++ [r]) := by
  refine ⟨fun i x hx => ?_, fun i x y hx hy => ?_⟩
  · rcases snoc_get hx with ⟨_, e⟩ | ⟨_, rfl⟩
    · exact h.nms _ _ e
    · exact h1
  · rcases snoc_get hx with ⟨_, e⟩ | ⟨_, rfl⟩
    · exact h.ids _ _ _ e hy
    · exact h2 _ hy
section
variable {prog : Program} {w : World} {A : Around} {E : Value → Shared → Prop} {s : Shared} {h₀ : Heap} {L l : Addr} {m : Str → Option Value} {news : List (Addr × Obj)} {value slice : PySem.Expr}
theorem upto_at {vs : List Value} {ns : List Int} {y : Int} {vl vu : Value} {k : Nat} {Q : Value → Shared → Prop} (F : Fr h₀ L s.heap m) (N : News h₀ L s.heap news) (hl : (l, listOf vs.toArray k) ∈ news) (hi : IntsAre vs ns) (pl : IsPart vl none) (pu : IsPart vu (some y)) (hy : 0 ≤ y)
    (h : ∀ D ws h', Fr h₀ L h' m → News h₀ L h' ((D, listOf ws.toArray 0) :: news) → (∀ p ∈ news, p.1 < D) → IntsAre ws (ns.take y.toNat) → Q (.ref D) { s with heap := h' })
    (hs : subscripted slice false (.ref l) (.ref s.heap.objs.size) = operate [.ref s.heap.objs.size, .ref l] (getItem (.ref l) (.ref s.heap.objs.size))) (ht : ∀ r, letTemporaryGo value (.ref l) r = pure ()) (hz : vs.length ≤ 200) :
    wpAny (model prog w) A (subscriptTail value slice (.ref l) (.ref s.heap.objs.size)) Q E { s with heap := s.heap.push { cls := .type "slice", data := .fields #[vl, vu, .none] } } :=
  kmk_slice_ints F N ⟨_, N.get hl, rfl, _, rfl⟩ pl pu hi (kmk_upto hi hy) rfl (fun D ws h' F' N' l1 hI _ _ => h D ws h' F' N' l1 hI) hs ht (by rw [List.size_toArray, sizeLine_eq]; omega)
end
end Mine
end
section
open PySem PySem.W PySem.Calls PyProof.Rows PySem.Spec
namespace Mine
structure Things (w : World) (Th : Addr) (vs6 : List Value) (tl6 old : List (Addr × Obj)) : Prop where
  len : vs6.length = 6
  list : ∃ k, (Th, listOf vs6.toArray k) ∈ tl6
  items : ∀ (j : Nat) (v : Value), vs6[j]? = some v → ∃ d od id, v = .ref d ∧ (d, od) ∈ tl6 ∧ WordsOf w d od id ∧ ∀ x, id = some x → PyData.strOk x = true
  apart : ∀ p ∈ tl6, ∀ q ∈ old, p.1 ≠ q.1
theorem things_of {w : World} {g h : Heap} {L Th d1 d2 d3 d4 d5 d6 src ro op : Addr} {o1 o2 o3 o4 o5 o6 so oro oop : Obj} {rest : List (Addr × Obj)} {k : Nat}
    (N : News g L h ((Th, listOf #[.ref d1, .ref d2, .ref d3, .ref d4, .ref d5, .ref d6] k) :: (d6, o6) :: (d5, o5) :: (d4, o4) :: (d3, o3) :: (d2, o2) :: (d1, o1) :: (src, so) :: (ro, oro) :: (op, oop) :: rest))
    (c1 : @LT.lt Nat _ src d1 ∧ @LT.lt Nat _ ro d1 ∧ @LT.lt Nat _ op d1 ∧ AllLt d1 rest) (c2 : @LT.lt Nat _ d1 d2) (c3 : @LT.lt Nat _ d2 d3) (c4 : @LT.lt Nat _ d3 d4) (c5 : @LT.lt Nat _ d4 d5) (c6 : @LT.lt Nat _ d5 d6) (c7 : @LT.lt Nat _ d6 Th)
    (w1 : WordsOf w d1 o1 (some "a")) (w2 : WordsOf w d2 o2 (some "b")) (w3 : WordsOf w d3 o3 (some "")) (w4 : WordsOf w d4 o4 (some "c")) (w5 : WordsOf w d5 o5 none) (w6 : WordsOf w d6 o6 none) :
    ∃ vs6 tl6, Things w Th vs6 tl6 ((src, so) :: (ro, oro) :: (op, oop) :: rest) ∧ News g L h ((src, so) :: (ro, oro) :: (op, oop) :: (tl6 ++ rest)) := by
  obtain ⟨a1, a2, a3, a4⟩ := c1
  have a5 := allLt_mem a4
  have hlow : ∀ q ∈ (src, so) :: (ro, oro) :: (op, oop) :: rest, @LT.lt Nat _ q.1 d1 := by
    intro q hq
    simp only [List.mem_cons] at hq
    rcases hq with rfl | rfl | rfl | hq
    · exact a1
    · exact a2
    · exact a3
    · exact a5 q hq
  refine ⟨[.ref d1, .ref d2, .ref d3, .ref d4, .ref d5, .ref d6], [(Th, listOf #[.ref d1, .ref d2, .ref d3, .ref d4, .ref d5, .ref d6] k), (d6, o6), (d5, o5), (d4, o4), (d3, o3), (d2, o2), (d1, o1)], ⟨rfl, ⟨k, .head _⟩, ?_, ?_⟩, ?_⟩
  · intro j v hv
    rcases j with _ | _ | _ | _ | _ | _ | j
    · cases hv; exact ⟨d1, o1, _, rfl, by simp, w1, fun x e => by cases e; decide +kernel⟩
    · cases hv; exact ⟨d2, o2, _, rfl, by simp, w2, fun x e => by cases e; decide +kernel⟩
    · cases hv; exact ⟨d3, o3, _, rfl, by simp, w3, fun x e => by cases e; decide +kernel⟩
    · cases hv; exact ⟨d4, o4, _, rfl, by simp, w4, fun x e => by cases e; decide +kernel⟩
    · cases hv; exact ⟨d5, o5, _, rfl, by simp, w5, fun x e => by cases e⟩
    · cases hv; exact ⟨d6, o6, _, rfl, by simp, w6, fun x e => by cases e⟩
    · simp at hv
  · intro p hp q hq
    have h1 := hlow q hq
    simp only [List.mem_cons, List.not_mem_nil, or_false] at hp
    rcases hp with rfl | rfl | rfl | rfl | rfl | rfl | rfl <;> (refine neN ?_; dsimp only; omega)
  · intro p hp
    refine N p ?_
    simp only [List.mem_cons, List.mem_append, List.not_mem_nil, or_false] at hp ⊢
    rcases hp with h | h | h | (h | h | h | h | h | h | h) | h <;> simp [h]
end Mine
end
section
open PySem PySem.W PySem.Calls PyProof.Rows PySem.Spec
namespace Mine
def GJ (w : World) (src ro : Addr) (i : Nat) (m : Str → Option Value) (nx : List (Addr × Obj)) : Prop :=
  m "source" = some (.ref src) ∧ m "rows" = some (.ref ro) ∧ ∃ (op : Addr) (a b : Int) (ta tb : Tok) (n : Nat) (vs : List Value) (e1 : Nat) (os : List Value) (e2 : Nat) (rest : List (Addr × Obj)) (rs : List R) (ops : List Int),
    m "open_ones" = some (.ref op) ∧ nx = (src, pairOf a b ta tb n) :: (ro, listOf vs.toArray e1) :: (op, listOf os.toArray e2) :: rest ∧ OwnOff rest [src, ro, op] ∧ (@Ne Nat src ro ∧ @Ne Nat src op ∧ @Ne Nat ro op) ∧
    rs.length = i ∧ AllAt (RowIn w rest) vs rs ∧ IntsAre os ops ∧ OpenOk rs ops ∧ Good rs
def LtAll (d : Addr) (l : List (Addr × Obj)) : Prop := ∀ p ∈ l, p.1 < d
theorem LtAll.of {d : Addr} {l : List (Addr × Obj)} (h : ∀ p ∈ l, p.1 < d) : LtAll d l := h
theorem gj_step {w : World} {g h : Heap} {L src ro On t d : Addr} {od : Obj} {all nwT nwO tl6 rest own old : List (Addr × Obj)} {a b : Int} {ta tb tn tp : Tok} {n e1 e2 i : Nat} {vs os' vs6 : List Value} {Th : Addr} {rs : List R} {ops' : List Int} {r : R} {m : Str → Option Value} {s₁ : Shared} {tk : Nat} {x1 x2 x3 : Addr × Obj} {op2 : Addr}
    (F : Fr g L h m) (N : News g L h all) (hms : m "source" = some (.ref src)) (hmr : m "rows" = some (.ref ro)) (hmo : m "open_ones" = some (.ref On))
    (h1 : (src, pairOf a b ta tb n) ∈ all) (h2 : (ro, listOf (vs ++ [Value.ref t]).toArray e1) ∈ all) (h3 : (On, listOf os'.toArray e2) ∈ all) (h4 : (t, tupOf [.str r.nm tn, .ref d, .int r.par tp]) ∈ all) (h5 : ∀ p ∈ tl6 ++ (rest ++ own), p ∈ all)
    (hdm : (d, od) ∈ tl6) (hwo : WordsOf w d od r.id) (hTh : Things w Th vs6 tl6 old) (hold : ∀ p ∈ own, p ∈ old)
    (lT : LtAll t nwT) (lO : LtAll On nwO) (cT : ∀ p ∈ tl6 ++ (rest ++ own), p ∈ nwT) (cO : ∀ p ∈ tl6 ++ (rest ++ own), p ∈ nwO) (c1 : ∃ o, (src, o) ∈ nwT) (c2 : ∃ o, (ro, o) ∈ nwT) (c3 : ∃ o, (src, o) ∈ nwO) (c4 : ∃ o, (ro, o) ∈ nwO) (c5 : ∃ o, (t, o) ∈ nwO)
    (hoff8 : OwnOff (tl6 ++ (rest ++ own)) [src, ro, op2]) (hoff : OwnOff own ((x1 :: x2 :: x3 :: rest).map (·.1))) (ne1 : @Ne Nat src ro)
    (hlen : rs.length = i) (hrows : AllAt (RowIn w rest) vs rs) (hos : IntsAre os' ops') (hopen : OpenOk (rs ++ [r]) ops') (hgood : Good (rs ++ [r])) :
    TurnEndT g L (fun m nx => GJ w src ro (i + 1) m nx) own s₁ .next { s₁ with heap := h, toks := tk } := by
  obtain ⟨_, c1⟩ := c1
  obtain ⟨_, c2⟩ := c2
  obtain ⟨_, c3⟩ := c3
  obtain ⟨_, c4⟩ := c4
  obtain ⟨_, c5⟩ := c5
  have k1 := lT _ c1
  have k2 := lT _ c2
  have k3 := lO _ c3
  have k4 := lO _ c4
  have k5 := lO _ c5
  dsimp only at k1 k2 k3 k4 k5
  have ro6 : ∀ p ∈ rest, p ∈ tl6 ++ (rest ++ own) := fun p hp => List.mem_append_right _ (List.mem_append_left _ hp)
  have ow6 : ∀ p ∈ own, p ∈ tl6 ++ (rest ++ own) := fun p hp => List.mem_append_right _ (List.mem_append_right _ hp)
  have d6 : (d, od) ∈ tl6 ++ (rest ++ own) := List.mem_append_left _ hdm
  refine ⟨rfl, h, tk, m, all, (src, pairOf a b ta tb n) :: (ro, listOf (vs ++ [Value.ref t]).toArray e1) :: (On, listOf os'.toArray e2) :: (t, tupOf [.str r.nm tn, .ref d, .int r.par tp]) :: (d, od) :: rest, rfl, F, N, ?_, ?_, ?_, hms, hmr, On, a, b, ta, tb, n, vs ++ [Value.ref t], e1, os', e2, _, rs ++ [r], ops', hmo, rfl, ?_, ⟨ne1, Nat.ne_of_lt k3, Nat.ne_of_lt k4⟩, by simp [hlen], ?_, hos, hopen, hgood⟩
  · intro p hp
    simp only [List.mem_cons] at hp
    rcases hp with rfl | rfl | rfl | rfl | rfl | hp
    · exact h1
    · exact h2
    · exact h3
    · exact h4
    · exact h5 _ d6
    · exact h5 _ (ro6 p hp)
  · exact fun p hp => h5 _ (ow6 p hp)
  · intro p hp x hx
    simp only [List.map_cons, List.mem_cons] at hx
    rcases hx with rfl | rfl | rfl | rfl | rfl | hx
    · exact hoff8 p (ow6 p hp) _ (.head _)
    · exact hoff8 p (ow6 p hp) _ (.tail _ (.head _))
    · exact Nat.ne_of_lt (lO _ (cO p (ow6 p hp)))
    · exact Nat.ne_of_lt (lT _ (cT p (ow6 p hp)))
    · exact Ne.symm (hTh.apart _ hdm p (hold p hp))
    · exact hoff p hp x (.tail _ (.tail _ (.tail _ hx)))
  · intro p hp x hx
    simp only [List.mem_cons, List.not_mem_nil, or_false] at hp hx
    rcases hp with rfl | rfl | hp
    · rcases hx with rfl | rfl | rfl
      · exact Nat.ne_of_gt k1
      · exact Nat.ne_of_gt k2
      · exact Nat.ne_of_lt k5
    · rcases hx with rfl | rfl | rfl
      · exact hoff8 _ d6 _ (.head _)
      · exact hoff8 _ d6 _ (.tail _ (.head _))
      · exact Nat.ne_of_lt (lO _ (cO _ d6))
    · rcases hx with rfl | rfl | rfl
      · exact hoff8 p (ro6 p hp) _ (.head _)
      · exact hoff8 p (ro6 p hp) _ (.tail _ (.head _))
      · exact Nat.ne_of_lt (lO _ (cO _ (ro6 p hp)))
  · exact (hrows.mono fun v k q => q.mono fun p hp => .tail _ (.tail _ hp)).snoc ⟨t, d, tn, tp, od, rfl, .head _, .tail _ (.head _), hwo⟩
theorem sorted_len : ∀ (l : List Int) (lo hi : Int), l.Pairwise (· < ·) → (∀ a ∈ l, lo ≤ a ∧ a < hi) → lo ≤ hi → (l.length : Int) ≤ hi - lo
  | [], lo, hi, _, _, h => by simp; omega
  | x :: l, lo, hi, hs, hr, h => by
    have hx := hr x (by simp)
    have := sorted_len l (x + 1) hi (List.pairwise_cons.mp hs).2 (fun a ha => ⟨(List.pairwise_cons.mp hs).1 a ha, (hr a (List.mem_cons_of_mem _ ha)).2⟩) (by omega)
    simp only [List.length_cons]
    omega
theorem ops_len {rs : List R} {ops : List Int} (h : OpenOk rs ops) : ops.length ≤ rs.length := by
  have := sorted_len ops 0 rs.length h.sorted h.range (by omega)
  omega
theorem led_of1 {h0 g h : Heap} {L src : Addr} {led nx : List (Addr × Obj)} (N : News g L h nx) (hr : ∀ p ∈ led, p ∈ nx) (hg : ∀ b o, h0.get? b = some o → b ≠ src → g.get? b = some o) (hne : ∀ p ∈ led, p.1 ≠ src) : LedAt h0 h led := fun p hp => by
  refine ⟨(N p (hr p hp)).1, ?_⟩
  cases e : h0.get? p.1 with
  | none => rfl
  | some o => have := (N p (hr p hp)).2.2; rw [hg _ _ e (hne p hp)] at this; cases this
theorem nm_ok (i : Nat) (h : i ≤ 8) : PyData.strOk (Str.ofString "n" ++ Str.ofString (toString ((i : Nat) : Int))) = true := by
  rcases i with _ | _ | _ | _ | _ | _ | _ | _ | _ | i
  all_goals first | decide +kernel | omega
theorem cut_none {rs : List R} {ops : List Int} {k : Int} {i : Nat} (h : OpenOk rs ops) (hk : 0 ≤ k) (hc : List.take (1 + k).toNat ops = []) (hl : rs.length = i) {r : R} (hr : r.par = -1) : OpenOk (rs ++ [r]) [(i : Int)] := by
  have ho : ops = [] := by
    rcases List.take_eq_nil_iff.mp hc with h1 | h1
    · omega
    · exact h1
  have hrs : rs = [] := Classical.byContradiction fun q => h.inh q ho
  subst hrs
  subst hl
  exact OpenOk.first hr
theorem cut_some {rs : List R} {ops ms : List Int} {k p : Int} {i : Nat} (h : OpenOk rs ops) (hc : List.take (1 + k).toNat ops = ms ++ [p]) (hl : rs.length = i) {r : R} (hr : r.par = p) : OpenOk (rs ++ [r]) (ms ++ [p] ++ [(i : Int)]) := by
  subst hl
  exact h.more (z := ops.drop (1 + k).toNat) (by rw [← hc, List.take_append_drop]) hr
end Mine
end
section
open PySem PySem.W PySem.Calls PyProof.Rows PySem.Spec
namespace Mine
section
local macro_rules | `(tactic| ktr_enter) => `(tactic| (refine' code_defG ?k1 ?k2 ?k3 ?k4 ?k5 ?kA ?kF ?kK ?k6 ?k7 ?k8 ?k9 ?kB ?_ ?c2 ?c3 ?c4 ?c5; (case kA => exact rfl); (case kF => exact rfl); (case kK => assumption); (case k1 => k_asm); (case k2 => k_asm); (case k3 => k_asm); (case k4 => k_asm); (case k5 => k_asm); (case k6 => k_is); (case k7 => k_is); (case k8 => ktr_room); (case k9 => exact BindsTo.of_eq rfl); (case c5 => decide); (case kB => exact locs rfl); (case c2 => exact rfl); (case c3 => exact rfl); (case c4 => exact rfl); k_whole))
local macro_rules | `(tactic| k_room) => `(tactic| ktr_room)
local macro_rules | `(tactic| walk_at "LeaveK") => `(tactic| ((with_reducible rename GSub _ _ _ => kG'); (with_reducible rename Fr _ _ _ _ => lF'); (have kept' := keep_of kG' lF'); (clear kG'); walk_at "LeaveK"))
local macro_rules | `(tactic| walk_at "exec For Name Call cons nil") => `(tactic| (k_here; refine Halt.off ?_))
local macro_rules | `(tactic| walk_at "call ref") => `(tactic| (k_here; refine Halt.off ?_))
local macro_rules | `(tactic| walk_at "call builtin:len") => `(tactic| (k_here; (with_reducible show wpAny _ _ (call (Value.builtin "len") [Value.ref _]) _ _ _); k_dflt (refine len_at (News.isList (by k_asm) (by (repeat' (first | assumption | exact List.Mem.head _ | refine List.Mem.tail _ ?_)))) rfl (by omega) ?_)))
local macro_rules | `(tactic| walk_at "subscriptTail Name Slice ref ref") => `(tactic| (k_here; (with_reducible show wpAny _ _ (subscriptTail _ (PySem.Expr.Slice none (some _) none _) (Value.ref _) (Value.ref _)) _ _ _); k_dflt (refine' upto_at ?F ?N ?l ?i ?p ?q ?y ?_ ?s ?t ?z; (case F => k_asm); (case N => k_asm); (case l => (repeat' (first | assumption | exact List.Mem.head _ | refine List.Mem.tail _ ?_))); (case i => assumption); (case p => kmk_part); (case q => kmk_part); (case y => omega); (case s => with_unfolding_all rfl); (case t => kmk_pure); (case z => omega)); intro D' ws' h' F' N' l1 hI'; (try k_lt l1); refine Halt.off ?_))
local macro_rules | `(tactic| walk_at "compareOp NotEq ref ref") => `(tactic| (k_here; k_dflt (first
  | (refine ne_nil_t (News.isList (by k_asm) (by (repeat' (first | assumption | exact List.Mem.head _ | refine List.Mem.tail _ ?_)))) (News.isList (by k_asm) (by (repeat' (first | assumption | exact List.Mem.head _ | refine List.Mem.tail _ ?_)))) (by ktr_units) ?_; k_whole)
  | (refine ne_nil_f (News.isList (by k_asm) (by (repeat' (first | assumption | exact List.Mem.head _ | refine List.Mem.tail _ ?_)))) (News.isList (by k_asm) (by (repeat' (first | assumption | exact List.Mem.head _ | refine List.Mem.tail _ ?_)))) (by ktr_units) ?_; k_whole))))
local macro_rules | `(tactic| walk_at "subscriptTail") => `(tactic| (k_here; (with_reducible show wpAny _ _ (subscriptTail _ _ (Value.ref _) (Value.int (-1) _)) _ _ _); k_dflt (refine item_last (News.isList (by k_asm) (by (repeat' (first | assumption | exact List.Mem.head _ | refine List.Mem.tail _ ?_)))) ?_)))
local macro_rules | `(tactic| walk_at "call builtin:list.append") => `(tactic| (k_here; k_dflt (refine' app_at ?F ?N ?U ?z ?_; (case F => k_asm); (case N => k_asm); (case U => k_upd); (case z => omega); k_whole); intro h' F' N'; refine Halt.off ?_))
local macro_rules | `(tactic| walk_at "newTuple") => `(tactic| (k_here; k_dflt (refine' kup_newTuple ?F ?N ?_ ?z; (case F => k_asm); (case N => k_asm); (case z => kmk_size)); intro D' h' F' N' l1; (have l2 := LtAll.of l1); (try k_lt l1)))
local macro_rules | `(tactic| walk_at "binaryOp Add ref ref") => `(tactic| (k_here; k_dflt (refine' lst_add ?F ?N ?a ?b ?z ?_; (case F => k_asm); (case N => k_asm); (case a => (repeat' (first | assumption | exact List.Mem.head _ | refine List.Mem.tail _ ?_))); (case b => (repeat' (first | assumption | exact List.Mem.head _ | refine List.Mem.tail _ ?_))); (case z => simp only [List.length_cons, List.length_nil, List.length_append]; omega); k_whole); intro D' h' F' N' l1; (have l2 := LtAll.of l1); (try k_lt l1)))
set_option maxRecDepth 100000 in
set_option maxHeartbeats 4000000 in
theorem drawn_spec (w : World) (src : Addr) (a b : Int) (ta tb : Tok) (n : Nat) :
    SpecB 380 1800 w 107 [.ref src] (fun h => h.get? src = some (pairOf a b ta tb n)) [src] (fun r h0 h' => ∃ led rs, LedAt h0 h' led ∧ Pre rs ∧ Good rs ∧ DrawnIn w led r rs) := by
  w_top off
  unfold SpecB
  k_fill
  intro loose mean mg mb dp un gd cn cs adr ccd cl outer A₀ base h₀ L m s Q E B F X T hk hdp hun hS hpre hret
  have N : News h₀ L s.heap [(src, pairOf a b ta tb n)] := by
    intro p hp
    rw [List.mem_singleton] at hp
    subst hp
    exact ⟨hpre, (hS src (.head _)).2, (hS src (.head _)).1⟩
  refine wpAny_call ?_
  k_dflt ktr_enter
  intro g1 L1 h1 FG1 F1 N1 B1 X1 T1 kG1
  (try dsimp only)
  (try k_fold)
  have kG2 : ∀ b o, s.heap.get? b = some o → b ≠ src → g1.get? b = some o := fun b o e hb => kG1 b o e (by simpa using hb)
  k_steps
  unfold Halt
  refine For_invT g1 ?_ (by intro _; rfl)
  k_steps
  unfold Halt
  (rename News g1 L1 _ _ => N2)
  (rename Fr g1 L1 _ _ => F2)
  obtain ⟨op, ro, e1, e2⟩ : ∃ op ro, op = _ ∧ ro = _ := name2 N2
  subst e1 e2
  refine' spec_use1 (take_spec w src a b 9 ta tb _ n (by decide) (by decide)).B (outer := envX cn cs L adr ccd cl :: outer) ?zb ?zf ?zx ?zt ?zk ?zd ?zu ?zn ?zU ?zp ?zo ?_
  case zb => exact B1
  case zf => exact F2
  case zx => exact X1
  case zt => exact T1
  case zk => rfl
  case zd => show dp + 1 < 400; omega
  case zu => show un + 3 < 2000; omega
  case zn => exact N2
  case zU => k_updF
  case zp => exact N2.get (by (repeat' (first | assumption | exact List.Mem.head _ | refine List.Mem.tail _ ?_)))
  case zo => exact fun r h h' ⟨_, _, _, _, _, _, _, _, _, _, e⟩ => ⟨_, e⟩
  intro r h3 tk3 o' F3 N3 ho' keep3 post3
  obtain ⟨k, tk, a', b', ta', tb', n', rfl, hk0, hk1, e⟩ := post3
  rw [e] at ho'
  cases ho'
  obtain ⟨j, rfl⟩ := Int.eq_ofNat_of_zero_le hk0
  (try dsimp only at N3)
  k_steps
  (rename News g1 L1 _ _ => N5)
  (rename Fr g1 L1 _ _ => F5)
  (rename IsRange _ _ _ _ _ _ _ _ => hR)
  refine iterT_range (n := 1 + j) (fun i m nx => GJ w src ro i m nx) rfl hR (small_one (by omega) (by omega) (by omega) (by omega)) (by rw [rangeSize_nat]; omega) F5 (news := [(src, _), (ro, _), (op, _)]) (fun p hp => N5 p ((show ∀ q ∈ _, q ∈ _ by k_allIn) p hp)) ?_ ?_ ?_
  · exact ⟨rfl, rfl, op, _, _, _, _, _, [], _, [], _, [], [], [], rfl, rfl, (fun _ hp => nomatch hp), ⟨neN (by omega), neN (by omega), neN (by omega)⟩, rfl, AllAt.nil, .nil, OpenOk.nil, Good.nil⟩
  · rintro i t m₁ nx s₁ own hi hoff ⟨hms, hmr, op2, a2, b2, ta2, tb2, n2, vs, e1, os, e2, rest, rs, ops, hmo, rfl, hrest, ⟨ne1, ne2, ne3⟩, hlen, hrows, hos, hopen, hgood⟩ F6 N6
    replace F6 := fr_three F6 hms hmr hmo (by decide) (by decide) (by decide)
    have ei : ((0 : Int) + (i : Int) * 1) = ((i : Nat) : Int) := by omega
    rw [ei]
    simp only [List.cons_append] at N6
    have hoff2 : OwnOff (rest ++ own) [src, ro, op2] := by
      intro p hp b hb
      rcases List.mem_append.mp hp with hp | hp
      · exact hrest p hp b hb
      · refine hoff p hp b ?_
        simp only [List.mem_cons, List.not_mem_nil, or_false, List.map_cons] at hb ⊢
        rcases hb with h | h | h <;> simp [h]
    have hz1 : vs.length ≤ 9 := by have h1 := hrows.1; omega
    have hz2 : os.length ≤ 9 := by
      have h1 := hos.length
      have h2 := ops_len hopen
      omega
    k_steps
    unfold Halt
    (rename News g1 L1 _ ((_, listOf _ _) :: _) => N7)
    (rename Fr g1 L1 _ _ => F7)
    obtain ⟨Th, eTh⟩ := name_head N7
    subst eTh
    obtain ⟨vs6, tl6, hTh, N8⟩ := things_of N7 (by assumption) (by omega) (by omega) (by omega) (by omega) (by omega) (by omega) ⟨by assumption, _, by assumption, _, rfl⟩ ⟨by assumption, _, by assumption, _, rfl⟩ ⟨by assumption, _, by assumption, _, rfl⟩ ⟨by assumption, _, by assumption, _, rfl⟩ ⟨by assumption, _, by assumption, by exact rfl⟩ ⟨by assumption, _, by assumption, by exact rfl⟩
    have hoff8 : OwnOff (tl6 ++ (rest ++ own)) [src, ro, op2] := by
      intro p hp x hx
      rcases List.mem_append.mp hp with hp | hp
      · have h3 := hTh.apart p hp
        simp only [List.mem_cons, List.not_mem_nil, or_false] at hx
        rcases hx with rfl | rfl | rfl
        · exact h3 _ (.head _)
        · exact h3 _ (.tail _ (.head _))
        · exact h3 _ (.tail _ (.tail _ (.head _)))
      · exact hoff2 p hp x hx
    obtain ⟨kT, hTm⟩ := hTh.list
    refine' spec_use1 (one_spec w src Th a2 b2 ta2 tb2 n2 vs6 hTh.len).B (outer := envX cn cs L adr ccd cl :: outer) ?zb ?zf ?zx ?zt ?zk ?zd ?zu ?zn ?zU ?zp ?zo ?_
    case zb => exact B1
    case zf => exact F7
    case zx => exact X1
    case zt => exact T1
    case zk => rfl
    case zd => show dp + 1 < 390; omega
    case zu => show un + 3 < 1900; omega
    case zn => exact N8
    case zU => k_updF
    case zp => exact ⟨N8.get (.head _), ⟨_, N8.get (.tail _ (.tail _ (.tail _ (List.mem_append_left _ hTm)))), rfl, _, rfl⟩⟩
    case zo => exact fun r h h' ⟨_, _, _, _, _, _, e⟩ => ⟨_, e⟩
    intro v h9 tk9 o9 F9 N9 ho9 keep9 post9
    obtain ⟨⟨jj, hjj, hvj⟩, a3, b3, ta3, tb3, n3, e9⟩ := post9
    rw [e9] at ho9
    cases ho9
    obtain ⟨d, od, id, rfl, hdm, hwo, hok⟩ := hTh.items jj v hvj
    clear N7 N8 F7
    k_steps
    unfold Halt
    (rename News g1 L1 _ _ => N10)
    (rename Fr g1 L1 _ _ => F10)
    generalize hT : (if (os.length : Int) > 1 then (os.length : Int) else 1) = top
    have ht1 : 1 ≤ top := by rw [← hT]; split <;> omega
    have ht2 : top ≤ 9 := by rw [← hT]; split <;> omega
    refine' spec_use1 (take_spec w src a3 b3 top ta3 tb3 _ n3 ht1 (by omega)).B (outer := envX cn cs L adr ccd cl :: outer) ?zb ?zf ?zx ?zt ?zk ?zd ?zu ?zn ?zU ?zp ?zo ?_
    case zb => exact B1
    case zf => exact F10
    case zx => exact X1
    case zt => exact T1
    case zk => rfl
    case zd => show dp + 1 < 400; omega
    case zu => show un + 3 < 2000; omega
    case zn => exact N10
    case zU => k_updF
    case zp => exact N10.get (.head _)
    case zo => exact fun r h h' ⟨_, _, _, _, _, _, _, _, _, _, e⟩ => ⟨_, e⟩
    intro r11 h11 tk11 o11 F11 N11 ho11 keep11 post11
    obtain ⟨k11, tkk, a4, b4, ta4, tb4, n4, rfl, hk0', hk1', e11⟩ := post11
    rw [e11] at ho11
    cases ho11
    clear N10 F10
    k_steps
    unfold Halt
    (rename News g1 L1 _ ((_, listOf (List.toArray _) 0) :: _) => N12)
    (rename Fr g1 L1 _ _ => F12)
    (rename IntsAre _ (List.take _ ops) => hcut)
    obtain ⟨Dc, eDc⟩ := name_head N12
    subst eDc
    have hi9 : i ≤ 8 := by omega
    rcases ints_last hcut with ⟨hw, hc⟩ | ⟨us, ms, p, tp, hw, hc⟩
    · subst hw
      clear F11 N11
      k_steps
      unfold Halt
      (rename News g1 L1 _ ((_, tupOf _) :: (_, listOf _ _) :: (Dc, _) :: (src, _) :: (ro, listOf (vs ++ _).toArray _) :: _) => N14)
      obtain ⟨tt, ett⟩ := name_head N14
      subst ett
      (rename LtAll tt _ => lt1)
      k_steps
      (rename News g1 L1 _ _ => N15)
      (rename Fr g1 L1 _ _ => F15)
      obtain ⟨On, eOn⟩ := name_head N15
      subst eOn
      (rename LtAll On _ => lO1)
      refine' gj_step (r := ⟨_, id, _⟩) F15 N15 rfl rfl rfl ?q1 ?q2 ?q3 ?q4 ?q5 hdm hwo hTh (fun p hp => .tail _ (.tail _ (.tail _ (List.mem_append_right _ hp)))) lt1 lO1 ?q6 ?q7 ?q8 ?q9 ?q10 ?q11 ?q12 hoff8 hoff ne1 hlen hrows ?q13 ?q14 ?q15
      case q1 => (repeat' (first | assumption | exact List.Mem.head _ | refine List.Mem.tail _ ?_))
      case q2 => (repeat' (first | assumption | exact List.Mem.head _ | refine List.Mem.tail _ ?_))
      case q3 => (repeat' (first | assumption | exact List.Mem.head _ | refine List.Mem.tail _ ?_))
      case q4 => (repeat' (first | assumption | exact List.Mem.head _ | refine List.Mem.tail _ ?_))
      case q5 => intro p hp; (repeat' (first | assumption | exact List.Mem.head _ | refine List.Mem.tail _ ?_))
      case q6 => intro p hp; (repeat' (first | assumption | exact List.Mem.head _ | refine List.Mem.tail _ ?_))
      case q7 => intro p hp; (repeat' (first | assumption | exact List.Mem.head _ | refine List.Mem.tail _ ?_))
      case q8 => exact ⟨_, by (repeat' (first | assumption | exact List.Mem.head _ | refine List.Mem.tail _ ?_))⟩
      case q9 => exact ⟨_, by (repeat' (first | assumption | exact List.Mem.head _ | refine List.Mem.tail _ ?_))⟩
      case q10 => exact ⟨_, by (repeat' (first | assumption | exact List.Mem.head _ | refine List.Mem.tail _ ?_))⟩
      case q11 => exact ⟨_, by (repeat' (first | assumption | exact List.Mem.head _ | refine List.Mem.tail _ ?_))⟩
      case q12 => exact ⟨_, by (repeat' (first | assumption | exact List.Mem.head _ | refine List.Mem.tail _ ?_))⟩
      case q13 => exact IntsAre.cons _ _ .nil
      case q14 => exact cut_none hopen hk0' hc hlen rfl
      case q15 => exact hgood.snoc (nm_ok i hi9) hok
    · subst hw
      have huz : us.length ≤ 9 := by
        have h1 := hcut.length
        have h2 := ops_len hopen
        rw [List.length_append, List.length_take] at h1
        simp at h1
        omega
      clear F11 N11
      k_steps
      unfold Halt
      (rename News g1 L1 _ ((_, tupOf _) :: (_, listOf _ _) :: (Dc, _) :: (src, _) :: (ro, listOf (vs ++ _).toArray _) :: _) => N14)
      obtain ⟨tt, ett⟩ := name_head N14
      subst ett
      (rename LtAll tt _ => lt1)
      k_steps
      (rename News g1 L1 _ _ => N15)
      (rename Fr g1 L1 _ _ => F15)
      obtain ⟨On, eOn⟩ := name_head N15
      subst eOn
      (rename LtAll On _ => lO1)
      refine' gj_step (r := ⟨_, id, _⟩) F15 N15 rfl rfl rfl ?q1 ?q2 ?q3 ?q4 ?q5 hdm hwo hTh (fun p hp => .tail _ (.tail _ (.tail _ (List.mem_append_right _ hp)))) lt1 lO1 ?q6 ?q7 ?q8 ?q9 ?q10 ?q11 ?q12 hoff8 hoff ne1 hlen hrows ?q13 ?q14 ?q15
      case q1 => (repeat' (first | assumption | exact List.Mem.head _ | refine List.Mem.tail _ ?_))
      case q2 => (repeat' (first | assumption | exact List.Mem.head _ | refine List.Mem.tail _ ?_))
      case q3 => (repeat' (first | assumption | exact List.Mem.head _ | refine List.Mem.tail _ ?_))
      case q4 => (repeat' (first | assumption | exact List.Mem.head _ | refine List.Mem.tail _ ?_))
      case q5 => intro p hp; (repeat' (first | assumption | exact List.Mem.head _ | refine List.Mem.tail _ ?_))
      case q6 => intro p hp; (repeat' (first | assumption | exact List.Mem.head _ | refine List.Mem.tail _ ?_))
      case q7 => intro p hp; (repeat' (first | assumption | exact List.Mem.head _ | refine List.Mem.tail _ ?_))
      case q8 => exact ⟨_, by (repeat' (first | assumption | exact List.Mem.head _ | refine List.Mem.tail _ ?_))⟩
      case q9 => exact ⟨_, by (repeat' (first | assumption | exact List.Mem.head _ | refine List.Mem.tail _ ?_))⟩
      case q10 => exact ⟨_, by (repeat' (first | assumption | exact List.Mem.head _ | refine List.Mem.tail _ ?_))⟩
      case q11 => exact ⟨_, by (repeat' (first | assumption | exact List.Mem.head _ | refine List.Mem.tail _ ?_))⟩
      case q12 => exact ⟨_, by (repeat' (first | assumption | exact List.Mem.head _ | refine List.Mem.tail _ ?_))⟩
      case q13 => exact IntsAre.append (hc ▸ hcut) (IntsAre.cons _ _ .nil)
      case q14 => exact cut_some hopen hc hlen rfl
      case q15 => exact hgood.snoc (nm_ok i hi9) hok
  · rintro m₁ nx h tk ⟨hms, hmr, op2, a2, b2, ta2, tb2, n2, vs, e1, os, e2, rest, rs, ops, hmo, rfl, hrest, ⟨ne1, ne2, ne3⟩, hlen, hrows, hos, hopen, hgood⟩ F6 N6
    replace F6 := fr_three F6 hms hmr hmo (by decide) (by decide) (by decide)
    k_steps
    (rename ∀ b o, b ∉ _ → s.heap.get? b = some o → _ => kept_)
    refine hret _ _ _ kept_ ⟨(ro, listOf vs.toArray e1) :: rest, rs, ?_, hopen.pre (by omega) (by omega), hgood, ro, vs, e1, rfl, .head _, hrows.mono fun v k q => q.mono fun p hp => .tail _ hp⟩
    refine led_of1 N6 (fun p hp => ?_) kG2 fun p hp => ?_
    · rcases List.mem_cons.mp hp with rfl | hp
      · exact .tail _ (.head _)
      · exact .tail _ (.tail _ (.tail _ hp))
    · rcases List.mem_cons.mp hp with rfl | hp
      · exact Ne.symm ne1
      · exact hrest p hp _ (.head _)
end
end Mine
end
section
open PySem PySem.W PySem.Calls PyProof.Rows PySem.Spec
namespace Mine
def rs0 : List R := [⟨"r", none, -1⟩, ⟨"g", none, 0⟩, ⟨"x", some "a", 1⟩, ⟨"y", some "a", 0⟩]
theorem rows_at {w : World} {led : List (Addr × Obj)} {h : Heap} {D : Addr} {rs : List R} (x : DrawnIn w led (.ref D) rs) (hl : ∀ p ∈ led, h.get? p.1 = some p.2) : RowsAt w h D rs := by
  obtain ⟨D', vs, e, he, hm, ha⟩ := x
  cases he
  exact ⟨vs, ⟨_, hl _ hm, rfl, _, rfl⟩, ha.mono fun v r q => q.at hl⟩
theorem rows0_of {w : World} {g h : Heap} {L Ra t1 t2 t3 t4 d1 d2 d3 d4 : Addr} {o1 o2 o3 o4 : Obj} {a1 a2 a3 a4 b1 b2 b3 b4 : Tok} {k : Nat} {rest : List (Addr × Obj)}
    (N : News g L h ((Ra, listOf #[.ref t1, .ref t2, .ref t3, .ref t4] k) :: (t4, tupOf [.str "y" a4, .ref d4, .int 0 b4]) :: (d4, o4) :: (t3, tupOf [.str "x" a3, .ref d3, .int 1 b3]) :: (d3, o3) :: (t2, tupOf [.str "g" a2, .ref d2, .int 0 b2]) :: (d2, o2) :: (t1, tupOf [.str "r" a1, .ref d1, .int (-1) b1]) :: (d1, o1) :: rest))
    (w1 : WordsOf w d1 o1 none) (w2 : WordsOf w d2 o2 none) (w3 : WordsOf w d3 o3 (some "a")) (w4 : WordsOf w d4 o4 (some "a")) : RowsAt w h Ra rs0 := by
  have key : ∀ (led : List (Addr × Obj)), led = (Ra, listOf #[.ref t1, .ref t2, .ref t3, .ref t4] k) :: (t4, tupOf [.str "y" a4, .ref d4, .int 0 b4]) :: (d4, o4) :: (t3, tupOf [.str "x" a3, .ref d3, .int 1 b3]) :: (d3, o3) :: (t2, tupOf [.str "g" a2, .ref d2, .int 0 b2]) :: (d2, o2) :: (t1, tupOf [.str "r" a1, .ref d1, .int (-1) b1]) :: (d1, o1) :: rest → DrawnIn w led (.ref Ra) rs0 := by
    rintro led rfl
    refine ⟨Ra, [.ref t1, .ref t2, .ref t3, .ref t4], k, rfl, .head _, .cons ⟨t1, d1, a1, b1, o1, rfl, ?_, ?_, w1⟩ (.cons ⟨t2, d2, a2, b2, o2, rfl, ?_, ?_, w2⟩ (.cons ⟨t3, d3, a3, b3, o3, rfl, ?_, ?_, w3⟩ (.cons ⟨t4, d4, a4, b4, o4, rfl, ?_, ?_, w4⟩ .nil)))⟩
    all_goals simp only [List.mem_cons, true_or, or_true]
  exact rows_at (key _ rfl) fun p hp => (N p hp).1
theorem pre0 : Pre rs0 := by
  refine ⟨by decide, by decide, fun r h => ?_, fun i r hi h => ?_, fun i j k r q h1 h2 h3 h4 h5 => ?_⟩
  · cases h; rfl
  · rcases i with _ | _ | _ | _ | i
    · omega
    · cases h; decide
    · cases h; decide
    · cases h; decide
    · simp [rs0] at h
  · have hk : k < 4 := (List.getElem?_eq_some_iff.mp h4).1
    rcases k with _ | _ | _ | _ | k
    · omega
    · omega
    · obtain rfl : i = 0 := by omega
      cases h4; decide
    · cases h4
      rcases j with _ | _ | _ | j
      · omega
      · obtain rfl : i = 0 := by omega
        cases h3; simp at h5
      · have hi : i = 0 ∨ i = 1 := by omega
        cases h3
        rcases hi with rfl | rfl
        · simp at h5
        · simp
      · omega
    · omega
theorem good0 : Good rs0 := by
  refine ⟨fun i r h => ?_, fun i r x h hx => ?_⟩
  · rcases i with _ | _ | _ | _ | i <;> first | (cases h; decide +kernel) | simp [rs0] at h
  · rcases i with _ | _ | _ | _ | i
    · cases h; cases hx
    · cases h; cases hx
    · cases h; cases hx; decide +kernel
    · cases h; cases hx; decide +kernel
    · simp [rs0] at h
theorem due0 : dueList rs0 (firsts rs0 rs0.length) = [.tuple [.str "a", .list [.str "r", .str "g"]]] := by
  have a0 : anc rs0 0 = [] := anc_root pre0
  have a1 : anc rs0 1 = [0] := by rw [anc_kid (i := 0) (k := 1) (r := ⟨"g", none, 0⟩) rfl rfl (by decide), a0]; rfl
  have a2 : anc rs0 2 = [0, 1] := by rw [anc_kid (i := 1) (k := 2) (r := ⟨"x", some "a", 1⟩) rfl rfl (by decide), a1]; rfl
  have f1 : firsts rs0 1 = [] := firsts_none (r := ⟨"r", none, -1⟩) rfl rfl
  have f2 : firsts rs0 2 = [] := (firsts_none (r := ⟨"g", none, 0⟩) rfl rfl).trans f1
  have f3 : firsts rs0 3 = [(Str.ofString "a", 2)] := by
    rw [firsts_new (i := 2) (r := ⟨"x", some "a", 1⟩) (x := "a") rfl rfl (by rw [f2]; simp), f2]; rfl
  have f4 : firsts rs0 4 = [(Str.ofString "a", 2)] := by
    rw [firsts_old (i := 3) (r := ⟨"y", some "a", 0⟩) (x := "a") rfl rfl (by rw [f3]; simp), f3]
  show dueList rs0 (firsts rs0 4) = _
  rw [f4]
  unfold dueList ancDat
  simp only [List.map_cons, List.map_nil, a2]
  rfl
section
variable {prog : Program} {w : World} {A : Around} {E : Value → Shared → Prop} {s : Shared} {h₀ : Heap} {L : Addr} {news : List (Addr × Obj)}
theorem ne_first {l1 l2 t D : Addr} {x1 x2 x3 : Tok} {k1 k2 e : Nat} {ys : List Value} {pre led : List (Addr × Obj)} {Q : Value → Shared → Prop}
    (N : News h₀ L s.heap ((l2, listOf #[.ref t] k2) :: (t, tupOf [.str "a" x1, .ref l1]) :: (l1, listOf #[.str "r" x2, .str "g" x3] k1) :: (pre ++ led))) (hmD : (D, listOf ys.toArray e) ∈ led)
    (hdat : DatAll led ys [.tuple [.str "a", .list [.str "r", .str "g"]]]) (hu : A.units + 64 < cLine) (h : Q (.bool false) s) : wpAny (model prog w) A (compareOp .NotEq (.ref D) (.ref l2)) Q E s := by
  have ok : ∀ d ∈ [Dat.tuple [.str "a", .list [.str "r", .str "g"]]], kqdOk 8 d = true := by
    intro d hd
    rw [List.mem_singleton.mp hd]
    decide +kernel
  refine kqd_ne (n₁ := led) (n₂ := (l2, listOf #[.ref t] k2) :: (t, tupOf [.str "a" x1, .ref l1]) :: (l1, listOf #[.str "r" x2, .str "g" x3] k1) :: (pre ++ led)) (xs := ys) (ys := [.ref t]) N (.tail _ (.tail _ (.tail _ (List.mem_append_right _ hmD)))) rfl rfl hdat (fun p hp => .tail _ (.tail _ (.tail _ (List.mem_append_right _ hp)))) (.head _) rfl rfl ?_ (fun _ h => h) ok ok hu ?_
  · exact .cons (.tuple (vs := [.str "a" x1, .ref l1]) (n := 0) (.tail _ (.head _)) (.cons (.str _ _) (.cons (.list (vs := [.str "r" x2, .str "g" x3]) (.tail _ (.tail _ (.head _))) (.cons (.str _ _) (.cons (.str _ _) .nil))) .nil))) .nil
  · simpa using h
theorem eq_due {a b : Addr} {xs ys : List Value} {ka kb : Nat} {ds : List Dat} {n₁ n₂ : List (Addr × Obj)} {Q : Value → Shared → Prop}
    (N : News h₀ L s.heap news) (ma : (a, listOf xs.toArray ka) ∈ n₁) (Da : DatAll n₁ xs ds) (sa : ∀ p ∈ n₁, p ∈ news) (mb : (b, listOf ys.toArray kb) ∈ n₂) (Db : DatAll n₂ ys ds) (sb : ∀ p ∈ n₂, p ∈ news)
    (ok : ∀ d ∈ ds, kqdOk 8 d = true) (hu : A.units + 64 < cLine) (h : Q (.bool true) s) : wpAny (model prog w) A (compareOp .Eq (.ref a) (.ref b)) Q E s := by
  refine kqd_eq N (sa _ ma) rfl rfl Da sa (sb _ mb) rfl rfl Db sb ok ok hu ?_
  simpa using h
end
theorem news_cons {h₀ h0 h' : Heap} {L S : Addr} {m : Str → Option Value} {news : List (Addr × Obj)} {o : Obj} (F : Fr h₀ L h0 m) (N : News h₀ L h' news) (e : h'.get? S = some o) (e0 : h0.get? S = none) : News h₀ L h' ((S, o) :: news) := fun p hp => by
  have q := news_led (led := [(S, o)]) F N fun p hp => by rw [List.mem_singleton.mp hp]; exact ⟨e, e0⟩
  rcases List.mem_cons.mp hp with rfl | hp
  · exact q _ (List.mem_append_right _ (.head _))
  · exact N p hp
theorem off_new {h₀ h0 : Heap} {L S : Addr} {news : List (Addr × Obj)} (N : News h₀ L h0 news) (e0 : h0.get? S = none) : ∀ p ∈ news, p.1 ≠ S := fun p hp e => by
  have := (N p hp).1
  rw [e, e0] at this; cases this
theorem spec_drop {dB uB : Nat} {w : World} {f : Addr} {args : List Value} {Pre : Heap → Prop} {src : Addr} {Post : Value → Heap → Heap → Prop} (C : SpecB dB uB w f args Pre [src] Post)
    {loose : List Str} {mean : ExcName → Option Value} {mg mb : Str → Option Value} {dp un : Nat} {gd : Option (List Code)} {cn : Str} {cs : Scope} {a : Addr} {ccd : Value} {cl : List (Str × Addr)} {outer : List Env}
    {A₀ : Around} {base h₀ : Heap} {L : Addr} {m : Str → Option Value} {s : Shared} {Q E : Value → Shared → Prop} {news : List (Addr × Obj)} {o : Obj}
    (B : Below A₀ base outer h₀) (F : Fr h₀ L s.heap m) (X : (hd.heap_39 w.params).In h₀) (T : Top hd.view_39 loose mean mg mb h₀) (hk : cs.kind = .function) (hd' : dp < dB) (hu : un < uB) (N : News h₀ L s.heap ((src, o) :: news)) (off : ∀ p ∈ news, p.1 ≠ src) (hp : Pre s.heap)
    (ret : ∀ r h' tk', Fr h₀ L h' m → News h₀ L h' news → (∀ b o, b ∉ [src] → s.heap.get? b = some o → h'.get? b = some o) → Post r s.heap h' → Q r { s with heap := h', toks := tk' }) :
    wpAny (model PySem.Challenge.rw_xm0709_01.row.prog w) (ktrTop dp un gd cn cs L a ccd cl outer) (call (.ref f) args) Q E s := by
  have z := N (src, o) (.head _)
  refine C loose mean mg mb dp un gd cn cs a ccd cl outer A₀ base h₀ L m s Q E B F X T hk hd' hu (fun b hb => by rw [List.mem_singleton.mp hb]; exact ⟨z.2.2, z.2.1⟩) hp fun r h' tk' keep post' => ?_
  refine ret r h' tk' (LCg.fr_but F keep (Ne.symm z.2.1) z.2.2) (fun p hp => ?_) keep post'
  have q := N p (.tail _ hp)
  exact ⟨keep _ _ (by simpa using off p hp) q.1, q.2⟩
end Mine
end
section
open PySem PySem.W PySem.Calls PyProof.Rows PySem.Spec
namespace Mine
section
local macro_rules | `(tactic| walk_at "pad 1") => `(tactic| fail "no")
local macro_rules | `(tactic| walk_at "pad 2") => `(tactic| fail "no")
local macro_rules | `(tactic| walk_at "pad 3") => `(tactic| fail "no")
local macro_rules | `(tactic| walk_at "pad 4") => `(tactic| fail "no")
local macro_rules | `(tactic| walk_at "call ref") => `(tactic| (k_here; refine Halt.off ?_))
local macro_rules | `(tactic| walk_at "compareOp NotEq ref ref") => `(tactic| (k_here; refine Halt.off ?_))
local macro_rules | `(tactic| walk_at "compareOp Eq ref ref") => `(tactic| (k_here; refine Halt.off ?_))
set_option maxRecDepth 100000 in
set_option maxHeartbeats 8000000 in
theorem law_holds : PySem.Challenge.rw_xm0709_01.Holds := by
  w_top off
  refine hd ?_
  k_go0
  k_steps
  unfold Halt
  (rename News _ _ _ ((_, listOf _ _) :: _) => N2)
  (rename Fr _ _ _ _ => F2)
  obtain ⟨Ra, eRa⟩ := name_head N2
  subst eRa
  have hRA := rows0_of N2 ⟨by assumption, _, by assumption, by exact rfl⟩ ⟨by assumption, _, by assumption, by exact rfl⟩ ⟨by assumption, _, by assumption, _, by exact rfl⟩ ⟨by assumption, _, by assumption, _, by exact rfl⟩
  refine' spec_use0 (told_spec _ Ra rs0 pre0).B (outer := []) ?zb ?zf ?zx ?zt ?zk ?zd ?zu ?zn ?zp ?_
  case zb => first | assumption | k_asm
  case zf => exact F2
  case zx => first | assumption | k_asm
  case zt => first | assumption | k_asm
  case zk => rfl
  case zd => first | decide | (simp only [depth_deeper, depth_caller]; decide)
  case zu => first | decide | (simp only [units_deeper, units_caller]; decide)
  case zn => exact N2
  case zp => exact hRA
  intro r h3 tk3 F3 N3 keep3 post3
  obtain ⟨led, hled, D, ys, e, rfl, hmD, hdat⟩ := post3
  have N4 := news_led F2 N3 hled
  rw [due0] at hdat
  clear N3
  k_steps
  unfold Halt
  (rename News _ _ _ ((_, listOf _ _) :: _) => N5)
  refine ne_first N5 hmD hdat (by first | decide | (simp only [units_deeper, units_caller]; decide) | ktr_units) ?_
  k_steps
  unfold Halt
  (rename News _ _ _ _ => N6)
  (rename Fr _ _ _ _ => F6)
  (rename Heap.IsList _ _ _ => hSL)
  (rename IntsAre _ _ => hSI)
  (rename ¬ _ < _ => hSc)
  refine' spec_use0 (pool_spec _ _).B (outer := []) ?zb ?zf ?zx ?zt ?zk ?zd ?zu ?zn ?zp ?_
  case zb => first | assumption | k_asm
  case zf => exact F6
  case zx => first | assumption | k_asm
  case zt => first | assumption | k_asm
  case zk => rfl
  case zd => first | decide | (simp only [depth_deeper, depth_caller]; decide)
  case zu => first | decide | (simp only [units_deeper, units_caller]; decide)
  case zn => exact N6
  case zp => exact ⟨_, _, hSL.at fun o e => F6.keep _ _ e, hSI, by omega⟩
  intro r7 h7 tk7 F7 N7 keep7 post7
  obtain ⟨S, a, b, ta, tb, n, rfl, hS1, hS2⟩ := post7
  have N8 := news_cons F6 N7 hS1 hS2
  have off8 := off_new N6 hS2
  k_steps
  unfold Halt
  refine' spec_drop (drawn_spec _ S a b ta tb n) (outer := []) ?zb ?zf ?zx ?zt ?zk ?zd ?zu N8 off8 ?zp ?_
  case zb => first | assumption | k_asm
  case zf => exact F7
  case zx => first | assumption | k_asm
  case zt => first | assumption | k_asm
  case zk => rfl
  case zd => first | decide | (simp only [depth_deeper, depth_caller]; decide)
  case zu => first | decide | (simp only [units_deeper, units_caller]; decide)
  case zp => exact hS1
  intro r10 h10 tk10 F10 N10 keep10 post10
  obtain ⟨led2, rs, hled2, hpre, hgood, hdr⟩ := post10
  have N11 := news_led F7 N10 hled2
  have hdr' := hdr
  obtain ⟨Dr, vs, e2, rfl, _, _⟩ := hdr'
  clear N10 N8 N7
  k_steps
  unfold Halt
  (rename News _ _ _ _ => N12)
  (rename Fr _ _ _ _ => F12)
  refine' spec_use0 (told_spec _ Dr rs hpre).B (outer := []) ?zb ?zf ?zx ?zt ?zk ?zd ?zu ?zn ?zp ?_
  case zb => first | assumption | k_asm
  case zf => exact F12
  case zx => first | assumption | k_asm
  case zt => first | assumption | k_asm
  case zk => rfl
  case zd => first | decide | (simp only [depth_deeper, depth_caller]; decide)
  case zu => first | decide | (simp only [units_deeper, units_caller]; decide)
  case zn => exact N12
  case zp => exact rows_at hdr fun p hp => (N12 p (List.mem_append_right _ hp)).1
  intro r13 h13 tk13 F13 N13 keep13 post13
  obtain ⟨led3, hled3, Dt, ys3, e3, rfl, hm3, hdat3⟩ := post13
  have N14 := news_led F12 N13 hled3
  clear N13
  k_steps
  unfold Halt
  (rename News _ _ _ _ => N15)
  (rename Fr _ _ _ _ => F15)
  refine' spec_use0 (due_spec _ Dr rs hpre hgood).B (outer := []) ?zb ?zf ?zx ?zt ?zk ?zd ?zu ?zn ?zp ?_
  case zb => first | assumption | k_asm
  case zf => exact F15
  case zx => first | assumption | k_asm
  case zt => first | assumption | k_asm
  case zk => rfl
  case zd => first | decide | (simp only [depth_deeper, depth_caller]; decide)
  case zu => first | decide | (simp only [units_deeper, units_caller]; decide)
  case zn => exact N15
  case zp => exact rows_at hdr fun p hp => (N15 p (List.mem_append_left _ (List.mem_append_right _ hp))).1
  intro r16 h16 tk16 F16 N16 keep16 post16
  obtain ⟨led4, hled4, Dd, ys4, e4, rfl, hm4, hdat4⟩ := post16
  have N17 := news_led F15 N16 hled4
  clear N16
  k_steps
  unfold Halt
  (rename News _ _ _ _ => N18)
  refine eq_due N18 hm3 hdat3 (fun p hp => List.mem_append_left _ (List.mem_append_right _ hp)) hm4 hdat4 (fun p hp => List.mem_append_right _ hp) (due_ok hgood _) (by first | decide | (simp only [units_deeper, units_caller]; decide) | ktr_units) ?_
  k_steps
end
end Mine
end
set_option maxRecDepth 100000 in
set_option maxHeartbeats 8000000 in
theorem PySem.Challenge.cw_xm0709_01_holds : PySem.Challenge.rw_xm0709_01.Holds := by
  exact Mine.law_holds
