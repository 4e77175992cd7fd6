import PyProof.Rows.All
import Wide.All
import OpenK.AllK
import Wide.FinOn
import PySem.Challenge.RW_xm0750_01
open PySem PySem.W PyProof.Rows
set_option Elab.async false
set_option rowWalk.seconds 0
set_option linter.unusedVariables false
set_option compiler.extract_closed false
set_option maxRecDepth 100000 in
set_option maxHeartbeats 8000000 in
open_top Mine.hd for PySem.Challenge.rw_xm0750_01
set_option maxRecDepth 100000

-- part MBase
namespace Mine
open PySem PySem.W PySem.Spec PySem.Calls PyProof.Rows

abbrev lsNames : List Str := [Str.ofString "MIN_INT", Str.ofString "MAX_INT", Str.ofString "REPLACEMENT"]
abbrev lsVals : List (Str × WData) := [(Str.ofString "MIN_INT", WData.int (-9223372036854775808)), (Str.ofString "MAX_INT", WData.int 9223372036854775807), (Str.ofString "REPLACEMENT", WData.str { cps := #[65533] })]
abbrev TopM (mean : ExcName → Option Value) (mg mb : Str → Option Value) (g : Heap) : Prop := Top hd.view_39 (looseW hd.view_39 [Str.ofString "MIN_INT", Str.ofString "MAX_INT", Str.ofString "REPLACEMENT"]) mean mg mb g
abbrev GlobM (mg mb : Str → Option Value) (g : Heap) : Prop :=
  Glob 0 mg mb (List.map itemOf (recsOf hd.view_39))
    (scalarsOf [(Str.ofString "MIN_INT", WData.int (-9223372036854775808)), (Str.ofString "MAX_INT", WData.int 9223372036854775807), (Str.ofString "REPLACEMENT", WData.str { cps := #[65533] })] ++ constsW hd.view_39)
    [] (namesW hd.view_39 [Str.ofString "MIN_INT", Str.ofString "MAX_INT", Str.ofString "REPLACEMENT"]) g

abbrev topA (dp un : Nat) (gd : Option (List Code)) (outer : List Env) : Around := { handled := none, depth := dp, frames := some outer, guards := gd, units := un }

/-- what a call stands on: the heap `g` that it must leave as it is -/
structure Cx (w : World) (mean : ExcName → Option Value) (mg mb : Str → Option Value) (A : Around) (base : Heap) (outer : List Env) (g h : Heap) : Prop where
  B : Below A base outer g
  X : (hd.heap_39 w.params).In g
  T : TopM mean mg mb g
  G : GlobM mg mb g
  keep : ∀ b o, g.get? b = some o → h.get? b = some o
  size : g.objs.size ≤ h.objs.size

theorem rm2 {n a b c L : Nat} (h : n + c < L) (k : a + b ≤ c) : n + a + b < L := by omega
theorem rm1 {n a c L : Nat} (h : n + c < L) (k : a ≤ c) : n + a < L := by omega
theorem rm0 {n c L : Nat} (h : n + c < L) : n < L := by omega
section
variable {prog : Program} {w : World} {mean : ExcName → Option Value} {mg mb : Str → Option Value} {A A₀ : Around} {base g h₀ : Heap} {outer : List Env} {s : Shared} {news fp : List (Addr × Obj)} {R : Result → Shared → Prop}
  {name qual : Str} {params : Arguments} {body : List Stmt} {scope : Scope} {dV kV doc pm cdv ct oc : Value} {an od : Option Addr} {osl : Array (Option Value)} {f L : Addr} {m : Str → Option Value} {args : Args} {binds : List (Str × Value)} {env : Env}

theorem enter (C : Cx w mean mg mb A base outer g s.heap) (N : ∀ p ∈ news, s.heap.get? p.1 = some p.2 ∧ g.get? p.1 = none)
    (ho : (hd.heap_39 w.params).lookup f = some ⟨oc, od, .func (fnOf name qual params body scope dV kV doc pm an cdv ct), osl⟩) (hcd : codeIn (hd.heap_39 w.params) cdv qual = true) (hroom : A.depth < recursionLimit)
    (hbind : BindsTo s (fnOf name qual params body scope dV kV doc pm an cdv ct) args binds) (hloc : ∀ y ∈ binds, scope.names.lookup y.1 = some .local)
    (h : ∀ L' h₁, Fr g L' h₁ (fun y => binds.reverse.lookup y) → News g L' h₁ news → (∀ p ∈ news, p.1 < L') →
      wpAny (model prog w) (A.deeper (envOf qual scope L' f cdv)) (execs body (envOf qual scope L' f cdv))
        (fun fl s' => R (.ok (.ret (match fl with | .ret v => v | _ => .none))) s')
        (fun e s' => wpAny (model prog w) (A.deeper (envOf qual scope L' f cdv)) (leaving (envOf qual scope L' f cdv) e) (fun _ s'' => R (.error e) s'') (fun e' s'' => R (.error e') s'') s')
        { s with heap := h₁, toks := s.toks + binds.length })
    (hco : scope.isCoroutine = false) (hgen : scope.isGenerator = false) (hk : scope.kind = .function)
    (hcell : ∀ x ∈ scope.names, x.2 ≠ .cell) : codeAny (model prog w) A (.call (.ref f) args) R s := by
  refine codeAny_call_def (fd := fnOf name qual params body scope dV kV doc pm an cdv ct) (body := body) (binds := binds) hroom (C.X.keeps C.keep _ _ ho) rfl (C.T.nolimit.keeps C.keep) (codeRec_of (C.X.keeps C.keep) hcd) rfl hbind hcell hloc (fun h₁ hns hk₁ => ?_) hco hgen hk
  exact h s.heap.objs.size h₁ ⟨hns, fun b o e => hk₁ b o (C.keep b o e), C.size⟩
    (fun p hp => ⟨hk₁ _ _ (N p hp).1, Nat.ne_of_lt (Heap.lt_size (N p hp).1), (N p hp).2⟩) (fun p hp => Heap.lt_size (N p hp).1)

/-- the caller's side: what stands behind a call that leaves all but `fp` -/
structure Gr (w : World) (mean : ExcName → Option Value) (mg mb : Str → Option Value) (A : Around) (base : Heap) (outer : List Env) (h₀ : Heap) (L : Addr) (m : Str → Option Value) (news fp : List (Addr × Obj)) (h g : Heap) : Prop where
  C : Cx w mean mg mb A base outer g h
  N : ∀ p ∈ fp, h.get? p.1 = some p.2 ∧ g.get? p.1 = none
  fr : ∀ h', g.StaysIn h' → Fr h₀ L h' m
  nw : ∀ h', g.StaysIn h' → ∀ p ∈ news, p.1 ∉ fp.map (·.1) → h'.get? p.1 = some p.2 ∧ p.1 ≠ L ∧ h₀.get? p.1 = none
  off : ∀ r, g.get? r = none → r ∉ fp.map (·.1) → r ≠ L ∧ h₀.get? r = none ∧ ∀ p ∈ news, p.1 ≠ r
  fpL : ∀ p ∈ fp, p.1 ≠ L ∧ h₀.get? p.1 = none

theorem ground (B : Below A₀ base outer h₀) (F : Fr h₀ L s.heap m) (X : (hd.heap_39 w.params).In h₀) (T : TopM mean mg mb h₀) (G : GlobM mg mb h₀) (N : News h₀ L s.heap news) (hfp : ∀ p ∈ fp, p ∈ news)
    (hA : A.frames = some (env :: outer)) (hf : env.frame = some L) (hke : env.scope.kind = .function) :
    Gr w mean mg mb A base (env :: outer) h₀ L m news fp s.heap (hideAll s.heap (fp.map (·.1))) := by
  have NF : News h₀ L s.heap fp := fun p hp => N p (hfp p hp)
  obtain ⟨FG, BG, st, _⟩ := groundX (R := fun _ _ => True) B F NF hA hf hke
  have nm : ∀ b o, h₀.get? b = some o → b ∉ fp.map (·.1) := fun b o e q => by
    obtain ⟨p, hp, rfl⟩ := List.mem_map.mp q
    rw [(NF p hp).2.2] at e; cases e
  have nL : L ∉ fp.map (·.1) := fun q => by
    obtain ⟨p, hp, e⟩ := List.mem_map.mp q
    exact (NF p hp).2.1 e
  obtain ⟨oL, es, ep, hL, r⟩ := F.ns
  have hLg := hideAll_get (fp.map (·.1)) hL nL
  refine ⟨⟨BG, X.keeps st, T.keeps st, G.keeps st, fun b o e => of_hideAll _ e, Nat.le_of_eq (hideAll_size _ _)⟩, fun p hp => ⟨(NF p hp).1, hideAll_none _ (List.mem_map_of_mem hp)⟩,
    fun h' k => ⟨⟨oL, es, ep, k _ _ hLg, r⟩, fun b o e => k _ _ (st b o e), F.above⟩, fun h' k p hp hn => ⟨k _ _ (hideAll_get _ (N p hp).1 hn), (N p hp).2⟩, fun q hq hn => ?_, fun p hp => (NF p hp).2⟩
  have sn : s.heap.get? q = none := by
    cases e : s.heap.get? q with
    | none => rfl
    | some o => rw [hideAll_get _ e hn] at hq; cases hq
  refine ⟨?_, ?_, ?_⟩
  · rintro rfl; rw [hL] at sn; cases sn
  · cases e : h₀.get? q with
    | none => rfl
    | some o => rw [F.keep _ _ e] at sn; cases sn
  · rintro p hp rfl; rw [(N p hp).1] at sn; cases sn
end
end Mine

local macro_rules | `(tactic| ktr_room) => `(tactic| first | exact Mine.rm2 (by assumption) (by decide) | exact Mine.rm1 (by assumption) (by decide) | exact Mine.rm0 (by assumption))
local macro_rules | `(tactic| ktr_units) => `(tactic| first | exact Mine.rm2 (by assumption) (by decide) | exact Mine.rm1 (by assumption) (by decide))

-- part MTake
namespace Mine
open PySem PySem.W PySem.Spec PySem.Calls PyProof.Rows

theorem prime : PySem.Challenge.rw_xm0750_01 = PySem.Challenge.rw_xm0750_01 ∧ ∀ P, Mine.hd.heap_39 P = Mine.hd.heap_39 P := by
  k_fill
  exact ⟨rfl, fun _ => rfl⟩

theorem mod_lo (y : Int) : 0 ≤ y.fmod 2147483647 := Int.fmod_nonneg_of_pos y (by decide)
theorem mod_hi (y : Int) : y.fmod 2147483647 < 2147483647 := Int.fmod_lt_of_pos y (by decide)
theorem mod_ok (y z : Int) : IntMulOk z (y.fmod 2147483647) := .of_right (intBits_le_64 (by have := mod_lo y; omega) (by have := mod_hi y; omega))
local macro_rules | `(tactic| walk_at "binaryOp Mult int int") => `(tactic| (k_here; k_dflt (refine mul_int ?_ (mod_ok _ _))))

section
variable {prog : Program} {w : World} {mean : ExcName → Option Value} {mg mb : Str → Option Value} {base g : Heap} {outer : List Env} {s : Shared} {dp un : Nat} {gd : Option (List Code)} {Q E : Value → Shared → Prop}
set_option maxHeartbeats 4000000 in
theorem take_spec {src : Addr} {a b top : Int} {ta tb tt : Tok} {n : Nat} (C : Cx w mean mg mb (topA dp un gd outer) base outer g s.heap)
    (hs : s.heap.get? src = some (listOf #[.int a ta, .int b tb] n)) (hg : g.get? src = none)
    (ha : 0 ≤ a) (hb : 0 ≤ b) (ht : 1 ≤ top) (ht' : top ≤ 1000) (hd : dp + 2 < recursionLimit) (hu : un + 20 < cLine)
    (ret : ∀ d t a' b' ta' tb' n' h' tk', g.StaysIn h' → h'.get? src = some (listOf #[.int a' ta', .int b' tb'] n') → 0 ≤ a' → 0 ≤ b' → 0 ≤ d → d < top → Q (.int d t) { s with heap := h', toks := tk' }) :
    wpAny (model prog w) (topA dp un gd outer) (call (.ref 91) [.ref src, .int top tt]) Q E s := by
  obtain ⟨B, X, T, G, hk, hz⟩ := id C
  k_with_none
  w_top off
  refine wpAny_call ?_
  k_dflt (refine' enter (news := [(src, listOf #[.int a ta, .int b tb] n)]) C ?kN ?k6 ?k7 ?k8 ?k9 ?kB ?_ ?c2 ?c3 ?c4 ?c5; (case kN => (intro p hp; rcases List.mem_singleton.mp hp with rfl; exact ⟨hs, hg⟩)); (case k6 => k_is); (case k7 => k_is); (case k8 => ktr_room); (case k9 => exact BindsTo.of_eq rfl); (case c5 => decide); (case kB => exact locs rfl); (case c2 => exact rfl); (case c3 => exact rfl); (case c4 => exact rfl); k_whole)
  intro L' h' F' N' l1
  k_lt l1
  (try dsimp only)
  (try k_fold)
  k_steps
  all_goals (try dsimp only)
  all_goals (rename Fr _ _ _ _ => F1; rename News _ _ _ _ => N1)
  · exact ret _ _ _ _ _ _ _ _ _ F1.keep (N1 (src, _) (.head _)).1 (Int.fdiv_nonneg ha (by omega)) hb (Int.fmod_nonneg_of_pos _ (by omega)) (Int.fmod_lt_of_pos _ (by omega))
  · exact ret _ _ _ _ _ _ _ _ _ F1.keep (N1 (src, _) (.head _)).1 ha (mod_lo _) (Int.fmod_nonneg_of_pos _ (by omega)) (Int.fmod_lt_of_pos _ (by omega))
end
end Mine

-- part MUse
namespace Mine
open PySem PySem.W PySem.Spec PySem.Calls PyProof.Rows

/-- what a caller holds at a call -/
structure At (w : World) (mean : ExcName → Option Value) (mg mb : Str → Option Value) (A₀ : Around) (base : Heap) (outer : List Env) (h₀ : Heap) (L : Addr) (h : Heap) (m : Str → Option Value) (news : List (Addr × Obj)) (env : Env) : Prop where
  B : Below A₀ base outer h₀
  F : Fr h₀ L h m
  X : (hd.heap_39 w.params).In h₀
  T : TopM mean mg mb h₀
  G : GlobM mg mb h₀
  N : News h₀ L h news
  hf : env.frame = some L
  hke : env.scope.kind = .function
section
variable {prog : Program} {w : World} {mean : ExcName → Option Value} {mg mb : Str → Option Value} {A A₀ : Around} {base g h h' h₀ : Heap} {outer : List Env} {s : Shared} {news : List (Addr × Obj)} {gf : Obj → List (Addr × Obj)} {src r L : Addr} {o o' : Obj} {m : Str → Option Value} {env : Env} {dp un : Nat} {gd : Option (List Code)} {Q E : Value → Shared → Prop}

theorem off1_of {D : Addr} : ∀ {l : List (Addr × Obj)}, (∀ p ∈ l, p.1 ≠ D) → LCg.Off1 D l
  | [], _ => trivial
  | _ :: _, h => ⟨h _ List.mem_cons_self, off1_of fun p hp => h p (List.mem_cons_of_mem _ hp)⟩
theorem UpdF.mem_of (U : UpdF src o news gf) : (src, o) ∈ news := by
  obtain ⟨pre, post, rfl, _⟩ := U.split
  exact List.mem_append_right _ (.head _)
theorem UpdF.addrs (U : UpdF src o news gf) {p : Addr × Obj} (hp : p ∈ gf o') : ∃ q ∈ news, q.1 = p.1 := by
  obtain ⟨pre, post, rfl, hg, _⟩ := U.split
  rw [hg] at hp
  rcases List.mem_append.mp hp with hp | hp
  · exact ⟨p, List.mem_append_left _ hp, rfl⟩
  · rcases List.mem_cons.mp hp with rfl | hp
    · exact ⟨(src, o), List.mem_append_right _ (.head _), rfl⟩
    · exact ⟨p, List.mem_append_right _ (.tail _ hp), rfl⟩
theorem Gr.news1 (R : Gr w mean mg mb A base outer h₀ L m news [(src, o)] h g) (U : UpdF src o news gf) (k : g.StaysIn h') (e : h'.get? src = some o') : News h₀ L h' (gf o') := by
  obtain ⟨pre, post, rfl, hg, h1, h2⟩ := U.split
  rw [hg]
  intro p hp
  rcases List.mem_append.mp hp with hp | hp
  · exact R.nw h' k p (List.mem_append_left _ hp) (by simpa using h1 p hp)
  · rcases List.mem_cons.mp hp with rfl | hp
    · exact ⟨e, R.fpL (src, o) (.head _)⟩
    · exact R.nw h' k p (List.mem_append_right _ (.tail _ hp)) (by simpa using h2 p hp)
theorem Gr.fresh (R : Gr w mean mg mb A base outer h₀ L m news [(src, o)] h g) (U : UpdF src o news gf) (k : g.StaysIn h') (e : h'.get? src = some o') (hr : g.get? r = none) (hn : r ≠ src) {or : Obj} (er : h'.get? r = some or) :
    News h₀ L h' ((r, or) :: gf o') ∧ LCg.Off1 r (gf o') := by
  obtain ⟨a1, a2, a3⟩ := R.off r hr (by simpa using hn)
  refine ⟨fun p hp => ?_, off1_of fun p hp => ?_⟩
  · rcases List.mem_cons.mp hp with rfl | hp
    · exact ⟨er, a1, a2⟩
    · exact R.news1 U k e p hp
  · obtain ⟨q, hq, e⟩ := UpdF.addrs U hp
    exact e ▸ a3 q hq

theorem ground1 (B : Below A₀ base outer h₀) (F : Fr h₀ L s.heap m) (X : (hd.heap_39 w.params).In h₀) (T : TopM mean mg mb h₀) (G : GlobM mg mb h₀) (N : News h₀ L s.heap news) (U : UpdF src o news gf)
    (hf : env.frame = some L) (hke : env.scope.kind = .function) :
    Gr w mean mg mb (topA dp un gd (env :: outer)) base (env :: outer) h₀ L m news [(src, o)] s.heap (hideAll s.heap [src]) :=
  ground (fp := [(src, o)]) B F X T G N (fun p hp => by rcases List.mem_singleton.mp hp with rfl; exact UpdF.mem_of U) rfl hf hke

theorem take_K {a b top : Int} {ta tb tt : Tok} {n : Nat} (K : At w mean mg mb A₀ base outer h₀ L s.heap m news env)
    (U : UpdF src (listOf #[.int a ta, .int b tb] n) news gf) (ha : 0 ≤ a) (hb : 0 ≤ b) (ht : 1 ≤ top) (ht' : top ≤ 1000)
    (hd : dp + 2 < recursionLimit) (hu : un + 20 < cLine)
    (ret : ∀ d t a' b' ta' tb' n' h' tk', Fr h₀ L h' m → News h₀ L h' (gf (listOf #[.int a' ta', .int b' tb'] n')) → 0 ≤ a' → 0 ≤ b' → 0 ≤ d → d < top → Q (.int d t) { s with heap := h', toks := tk' }) :
    wpAny (model prog w) (topA dp un gd (env :: outer)) (call (.ref 91) [.ref src, .int top tt]) Q E s := by
  obtain ⟨B, F, X, T, G, N, hf, hke⟩ := K
  have R := ground1 (dp := dp) (un := un) (gd := gd) B F X T G N U hf hke
  have hs := R.N _ (.head _)
  refine take_spec R.C hs.1 hs.2 ha hb ht ht' hd hu fun d t a' b' ta' tb' n' h' tk' k e h1 h2 h3 h4 => ?_
  exact ret d t a' b' ta' tb' n' h' tk' (R.fr h' k) (R.news1 U k e) h1 h2 h3 h4
end
end Mine

-- part MOne
namespace Mine
open PySem PySem.W PySem.Spec PySem.Calls PyProof.Rows

section
variable {prog : Program} {w : World} {mean : ExcName → Option Value} {mg mb : Str → Option Value} {A A₀ : Around} {base g h h' h₀ : Heap} {outer : List Env} {s : Shared} {news : List (Addr × Obj)} {gf : Obj → List (Addr × Obj)} {src r L : Addr} {o o' : Obj} {m : Str → Option Value} {env : Env} {dp un : Nat} {gd : Option (List Code)} {Q E : Value → Shared → Prop}

theorem len_base {l : Addr} {vs : List Value} (F : Fr h₀ L s.heap m) (hl : h₀.IsList l vs.toArray) (hn : vs.length ≤ 1000) (h : Q (.int (vs.length : Int) (s.toks + 1)) { s with toks := s.toks + 1 + 1 }) :
    wpAny (model prog w) A (call (.builtin "len") [.ref l]) Q E s :=
  len_list (stays_list F.keep hl) (by simp; omega) (by simpa using h)
theorem item_base {value slice : Expr} {l : Addr} {vs : List Value} {k : Int} {u : Tok} (F : Fr h₀ L s.heap m) (hl : h₀.IsList l vs.toArray) (hn : vs.length ≤ 1000) (h0 : 0 ≤ k) (hk : k < (vs.length : Int)) (h : ∀ v, v ∈ vs → Q v s)
    (hs : subscripted slice false (.ref l) (.int k u) = operate [.ref l, .int k u] (getItem (.ref l) (.int k u)) := by with_unfolding_all rfl) :
    wpAny (model prog w) A (subscriptTail value slice (.ref l) (.int k u)) Q E s := by
  have hlt : k.toNat < vs.length := by omega
  have hL := stays_list F.keep hl
  exact tail_any hL.typeIs slot_list_getitem.lookup (wpAny_getItem_list hL h0 (by omega) (x := vs[k.toNat]) (by simp [hlt]) (h _ (List.getElem_mem hlt))) hs

local macro_rules | `(tactic| walk_at "call builtin:len") => `(tactic| (k_here; k_dflt (refine len_base (by k_asm) (by assumption) (by assumption) ?_)))
local macro_rules | `(tactic| walk_at "subscriptTail") => `(tactic| (k_here; k_dflt (refine item_base (by k_asm) (by assumption) (by assumption) (by assumption) (by assumption) ?_); intro v9 hv9))
local macro_rules | `(tactic| walk_at "call ref") => `(tactic| (k_here; k_dflt (refine' take_K ?k1 ?k7 ?p1 ?p2 ?p3 ?p4 ?kd ?ku ?_; (case k1 => constructor; (iterate 6 k_asm); exact rfl; exact rfl); (case k7 => k_updF); (case p1 => assumption); (case p2 => assumption); (case p3 => omega); (case p4 => omega); (case kd => ktr_room); (case ku => ktr_units)); intro d9 t9 a9 b9 ta9 tb9 n9 h9 tk9 F9 N9 ha9 hb9 hd9 hd9'; (try dsimp only at N9); (try k_sweep)))
set_option maxHeartbeats 4000000 in
theorem one_spec {src th : Addr} {a b : Int} {ta tb : Tok} {n : Nat} {vs : List Value} (C : Cx w mean mg mb (topA dp un gd outer) base outer g s.heap)
    (hs : s.heap.get? src = some (listOf #[.int a ta, .int b tb] n)) (hg : g.get? src = none) (hL : g.IsList th vs.toArray) (hn : 1 ≤ vs.length) (hn' : vs.length ≤ 1000)
    (ha : 0 ≤ a) (hb : 0 ≤ b) (hd : dp + 3 < recursionLimit) (hu : un + 40 < cLine)
    (ret : ∀ v a' b' ta' tb' n' h' tk', g.StaysIn h' → h'.get? src = some (listOf #[.int a' ta', .int b' tb'] n') → 0 ≤ a' → 0 ≤ b' → v ∈ vs → Q v { s with heap := h', toks := tk' }) :
    wpAny (model prog w) (topA dp un gd outer) (call (.ref 98) [.ref src, .ref th]) Q E s := by
  obtain ⟨B, X, T, G, hk, hz⟩ := id C
  k_with_none
  w_top off
  refine wpAny_call ?_
  k_dflt (refine' enter (news := [(src, listOf #[.int a ta, .int b tb] n)]) C ?kN ?k6 ?k7 ?k8 ?k9 ?kB ?_ ?c2 ?c3 ?c4 ?c5; (case kN => (intro p hp; rcases List.mem_singleton.mp hp with rfl; exact ⟨hs, hg⟩)); (case k6 => k_is); (case k7 => k_is); (case k8 => ktr_room); (case k9 => exact BindsTo.of_eq rfl); (case c5 => decide); (case kB => exact locs rfl); (case c2 => exact rfl); (case c3 => exact rfl); (case c4 => exact rfl); k_whole)
  intro L' h' F' N' l1
  k_lt l1
  (try dsimp only)
  (try k_fold)
  k_steps
  all_goals (try dsimp only)
  all_goals (rename Fr _ _ _ _ => F1; rename News _ _ _ _ => N1)
  exact ret _ _ _ _ _ _ _ _ F1.keep (N1 (src, _) (.head _)).1 (by assumption) (by assumption) (by assumption)

theorem one_K {th : Addr} {a b : Int} {ta tb : Tok} {n k : Nat} {vs : List Value} {its : Array Value} (K : At w mean mg mb A₀ base outer h₀ L s.heap m news env)
    (U : UpdF src (listOf #[.int a ta, .int b tb] n) news gf) (hm : (th, listOf its k) ∈ news) (hne : th ≠ src) (hv : its = vs.toArray) (hn : 1 ≤ vs.length) (hn' : vs.length ≤ 1000) (ha : 0 ≤ a) (hb : 0 ≤ b)
    (hd : dp + 3 < recursionLimit) (hu : un + 40 < cLine)
    (ret : ∀ v a' b' ta' tb' n' h' tk', Fr h₀ L h' m → News h₀ L h' (gf (listOf #[.int a' ta', .int b' tb'] n')) → 0 ≤ a' → 0 ≤ b' → v ∈ vs → Q v { s with heap := h', toks := tk' }) :
    wpAny (model prog w) (topA dp un gd (env :: outer)) (call (.ref 98) [.ref src, .ref th]) Q E s := by
  obtain ⟨B, F, X, T, G, N, hf, hke⟩ := K
  have R := ground1 (dp := dp) (un := un) (gd := gd) B F X T G N U hf hke
  have hs := R.N _ (.head _)
  subst hv
  have hL : (hideAll s.heap [src]).IsList th vs.toArray := ⟨_, hideAll_get _ (N _ hm).1 (by simpa using hne), rfl, _, rfl⟩
  refine one_spec R.C hs.1 hs.2 hL hn hn' ha hb hd hu fun v a' b' ta' tb' n' h' tk' k e h1 h2 h3 => ?_
  exact ret v a' b' ta' tb' n' h' tk' (R.fr h' k) (R.news1 U k e) h1 h2 h3
end
end Mine

-- part MEnc
namespace Mine
open PySem PySem.W PySem.Spec PySem.Calls PyProof.Rows
open Builtin Builtin._codecs

theorem enc_tree (x : PySem.Str) (t u : Tok) : «str.encode» ⟨[.str x t, .str (PySem.Str.ofString "utf-8") u], []⟩ = (do ret (← encodeRoad "str.encode" (.str x t) x (PySem.Str.ofString "utf-8") none)) := by kernel_rfl
theorem meets_enc {x : PySem.Str} {t u : Tok} {b : Array UInt8} (hb : ∀ t, encodeNarrow "str.encode" utf8Codec none (.str x t) x = pure b) :
    Meets («str.encode» ⟨[.str x t, .str (PySem.Str.ofString "utf-8") u], []⟩) (fun _ R s => b.size ≤ sizeLine ∧ R (.ok (.ret (.bytes b s.toks))) { s with toks := s.toks + 1 }) := by
  refine .of_wp fun prog w A R s hS => ?_
  obtain ⟨hsz, h⟩ := hS
  rw [enc_tree, encodeRoad_utf8, hb]
  refine wpAny_bind (wpAny_bind (wpAny_pure ?_))
  exact wpAny_mkBytes (wpAny_pure ⟨_, rfl, h⟩) hsz
section
variable {prog : Program} {w : World} {A : Around} {E : Value → Shared → Prop} {s : Shared}
theorem encode_call {x : PySem.Str} {t u : Tok} {b : Array UInt8} {Q : Value → Shared → Prop} (hb : ∀ t, encodeNarrow "str.encode" utf8Codec none (.str x t) x = pure b) (hsz : b.size ≤ 1000) (h : ∀ t' k, Q (.bytes b t') { s with toks := k }) :
    wpAny (model prog w) A (call (.builtin "str.encode") [.str x t, .str (PySem.Str.ofString "utf-8") u]) Q E s :=
  call_meets F.slot_str_encode (typeIs_str _ _ _) F.entry_str_encode (F.args_str_encode_2 _ _) (meets_enc hb) ⟨by rw [sizeLine_eq]; omega, h _ _⟩
theorem noRefS {x : PySem.Str} {t : Tok} : ∀ a, Value.str x t = .ref a → ∃ o, s.heap.get? a = some o ∧ o.dict = none := fun _ e => nomatch e
theorem encode_method {M : Model} {x : PySem.Str} {t : Tok} {pl : Sem Bool} {Q : Value × List Value → Shared → Prop} (h : Q (.builtin "str.encode", [.str x t]) s) : wpAny M A (getMethod (.str x t) (PySem.Str.ofString "encode") pl) Q E s :=
  getMethod_builtin (typeIs_str _ _ _) F.plainAttrs_str F.slot_str_encode F.type_str_encode noRefS h
end
def asc (x : PySem.Str) : Array UInt8 := x.cps.map Nat.toUInt8
theorem enc_small {n : Int} (h1 : -4 ≤ n) (h2 : n ≤ 5) : ∀ t, encodeNarrow "str.encode" utf8Codec none (.str (PySem.Str.ofString (toString n)) t) (PySem.Str.ofString (toString n)) = pure (asc (PySem.Str.ofString (toString n))) := by
  have : n = -4 ∨ n = -3 ∨ n = -2 ∨ n = -1 ∨ n = 0 ∨ n = 1 ∨ n = 2 ∨ n = 3 ∨ n = 4 ∨ n = 5 := by omega
  rcases this with rfl | rfl | rfl | rfl | rfl | rfl | rfl | rfl | rfl | rfl <;> (intro t; kernel_rfl)
end Mine

-- part MGiven
namespace Mine
open PySem PySem.W PySem.Spec PySem.Calls PyProof.Rows

theorem enc_size {n : Int} (h1 : -4 ≤ n) (h2 : n ≤ 5) : (asc (PySem.Str.ofString (toString n))).size ≤ 1000 := by
  have : n = -4 ∨ n = -3 ∨ n = -2 ∨ n = -1 ∨ n = 0 ∨ n = 1 ∨ n = 2 ∨ n = 3 ∨ n = 4 ∨ n = 5 := by omega
  rcases this with rfl | rfl | rfl | rfl | rfl | rfl | rfl | rfl | rfl | rfl <;> decide +kernel
theorem add_size {n : Int} (h1 : -4 ≤ n) (h2 : n ≤ 5) : (asc (PySem.Str.ofString (toString n))).size + (#[32, 55] : Array UInt8).size ≤ 16777216 := by
  have := enc_size h1 h2
  have e : (#[32, 55] : Array UInt8).size = 2 := rfl
  omega
abbrev gS (n : Int) : PySem.Str := PySem.Str.ofString " " ++ PySem.Str.ofString (toString n) ++ PySem.Str.ofString "x"
abbrev gB (n : Int) : Array UInt8 := asc (PySem.Str.ofString (toString n)) ++ #[32, 55]
/-- what a number is told as -/
inductive Giv : Value → Int → Prop
  | int (n : Int) (t : Tok) : -(2 ^ 63) ≤ n → n < 2 ^ 63 → Giv (.int n t) n
  | str (n : Int) (t : Tok) : -4 ≤ n → n ≤ 5 → Giv (.str (gS n) t) n
  | bytes (n : Int) (t : Tok) : -4 ≤ n → n ≤ 5 → Giv (.bytes (gB n) t) n
abbrev tupO (vs : Array Value) : Obj := { cls := .type "tuple", data := .seq vs }
theorem menu_int {v : Value} {t1 t2 t3 t4 t5 : Tok} (h : v ∈ [Value.int 0 t1, Value.int (2 ^ Int.toNat 63 - 1) t2, Value.int (-2 ^ Int.toNat 63) t3, Value.int 100 t4, Value.int (-100) t5]) : ∃ n t, v = .int n t ∧ -(2 ^ 63) ≤ n ∧ n < 2 ^ 63 := by
  simp only [List.mem_cons, List.not_mem_nil, or_false] at h
  rcases h with rfl | rfl | rfl | rfl | rfl <;> exact ⟨_, _, rfl, by decide, by decide⟩
section
variable {prog : Program} {w : World} {mean : ExcName → Option Value} {mg mb : Str → Option Value} {A A₀ : Around} {base g h h' h₀ : Heap} {outer : List Env} {s : Shared} {news : List (Addr × Obj)} {gf : Obj → List (Addr × Obj)} {src r L : Addr} {o o' : Obj} {m : Str → Option Value} {env : Env} {dp un : Nat} {gd : Option (List Code)} {Q E : Value → Shared → Prop}

local macro_rules | `(tactic| walk_at "call ref") => `(tactic| (k_here; k_dflt (refine' take_K ?k1 ?k7 ?p1 ?p2 ?p3 ?p4 ?kd ?ku ?_; (case k1 => constructor; (iterate 6 k_asm); exact rfl; exact rfl); (case k7 => k_updF); (case p1 => assumption); (case p2 => assumption); (case p3 => omega); (case p4 => omega); (case kd => ktr_room); (case ku => ktr_units)); intro d9 t9 a9 b9 ta9 tb9 n9 h9 tk9 F9 N9 ha9 hb9 hd9 hd9'; (try dsimp only at N9); (try k_sweep)))
local macro_rules | `(tactic| walk_at "call ref") => `(tactic| (k_here; k_dflt (refine' one_K ?k1 ?k7 ?km ?kn ?kv ?kl ?kl2 ?p1 ?p2 ?kd ?ku ?_; (case k1 => constructor; (iterate 6 k_asm); exact rfl; exact rfl); (case k7 => k_updF); (case km => k_mem); (case kn => k_ne); (case kv => exact rfl); (case kl => exact Nat.le_of_ble_eq_true rfl); (case kl2 => exact Nat.le_of_ble_eq_true rfl); (case p1 => assumption); (case p2 => assumption); (case kd => ktr_room); (case ku => ktr_units)); intro v9 a9 b9 ta9 tb9 n9 h9 tk9 F9 N9 ha9 hb9 hv9; (try dsimp only at N9); (try k_sweep)))
local macro_rules | `(tactic| walk_at "getMethod str") => `(tactic| (k_here; with_reducible refine encode_method ?_))
local macro_rules | `(tactic| walk_at "call builtin:str.encode") => `(tactic| (k_here; k_dflt (refine encode_call (enc_small (by omega) (by omega)) (enc_size (by omega) (by omega)) ?_); intro t9 k9))
local macro_rules | `(tactic| walk_at "binaryOp Add bytes bytes") => `(tactic| (k_here; k_dflt (refine KBy.add_bytes (add_size (by omega) (by omega)) ?_); intro t9 k9))
set_option maxHeartbeats 4000000 in
theorem given_spec {src : Addr} {a b : Int} {ta tb : Tok} {n : Nat} (C : Cx w mean mg mb (topA dp un gd outer) base outer g s.heap)
    (hs : s.heap.get? src = some (listOf #[.int a ta, .int b tb] n)) (hg : g.get? src = none)
    (ha : 0 ≤ a) (hb : 0 ≤ b) (hd : dp + 4 < recursionLimit) (hu : un + 60 < cLine)
    (ret : ∀ r x num tn a' b' ta' tb' n' h' tk', g.StaysIn h' → h'.get? src = some (listOf #[.int a' ta', .int b' tb'] n') → g.get? r = none → r ≠ src → h'.get? r = some (tupO #[x, .int num tn]) → Giv x num → 0 ≤ a' → 0 ≤ b' → Q (.ref r) { s with heap := h', toks := tk' }) :
    wpAny (model prog w) (topA dp un gd outer) (call (.ref 105) [.ref src]) Q E s := by
  obtain ⟨B, X, T, G, hk, hz⟩ := id C
  k_with_none
  w_top off
  refine wpAny_call ?_
  k_dflt (refine' enter (news := [(src, listOf #[.int a ta, .int b tb] n)]) C ?kN ?k6 ?k7 ?k8 ?k9 ?kB ?_ ?c2 ?c3 ?c4 ?c5; (case kN => (intro p hp; rcases List.mem_singleton.mp hp with rfl; exact ⟨hs, hg⟩)); (case k6 => k_is); (case k7 => k_is); (case k8 => ktr_room); (case k9 => exact BindsTo.of_eq rfl); (case c5 => decide); (case kB => exact locs rfl); (case c2 => exact rfl); (case c3 => exact rfl); (case c4 => exact rfl); k_whole)
  intro L' h' F' N' l1
  k_lt l1
  (try dsimp only)
  (try k_fold)
  k_steps
  all_goals (try dsimp only)
  all_goals (rename Fr _ _ _ _ => F1; rename News _ _ _ _ => N1)
  · rename (_ ∈ _) => hv
    obtain ⟨n9, t9, rfl, h1, h2⟩ := menu_int hv
    exact ret _ _ _ _ _ _ _ _ _ _ _ F1.keep (N1 (src, _) (by k_mem)).1 (N1 (_, tupO _) (.head _)).2.2 (by k_ne) (N1 (_, tupO _) (.head _)).1 (.int _ _ h1 h2) (by assumption) (by assumption)
  · exact ret _ _ _ _ _ _ _ _ _ _ _ F1.keep (N1 (src, _) (by k_mem)).1 (N1 (_, tupO _) (.head _)).2.2 (by k_ne) (N1 (_, tupO _) (.head _)).1 (.str _ _ (by omega) (by omega)) (by assumption) (by assumption)
  · exact ret _ _ _ _ _ _ _ _ _ _ _ F1.keep (N1 (src, _) (by k_mem)).1 (N1 (_, tupO _) (.head _)).2.2 (by k_ne) (N1 (_, tupO _) (.head _)).1 (.bytes _ _ (by omega) (by omega)) (by assumption) (by assumption)
  · exact ret _ _ _ _ _ _ _ _ _ _ _ F1.keep (N1 (src, _) (by k_mem)).1 (N1 (_, tupO _) (.head _)).2.2 (by k_ne) (N1 (_, tupO _) (.head _)).1 (.int _ _ (by omega) (by omega)) (by assumption) (by assumption)
end
end Mine

-- part MDig
namespace Mine
open PySem PySem.W PySem.Spec PySem.Calls PyProof.Rows

abbrev DG : PySem.Str := PySem.Str.ofString "0123456789"
abbrev WS : PySem.Str := PySem.Str.ofString " \t\n\u000b\u000c\u000d"
abbrev SG : PySem.Str := PySem.Str.ofString "+-"
/-- is the sign at this place one of these -/
def inn (D x : PySem.Str) (i : Int) : Bool := !(Builtin.Str.occurrences D (Txt.item x i) 0 D.length 1).isEmpty
def runN (D x : PySem.Str) : Nat → Int → Int
  | 0, i => i
  | f + 1, i => if inn D x i = true then runN D x f (i + 1) else i
/-- the end of the run of such signs that opens at i -/
def runE (D x : PySem.Str) (i : Int) : Int := runN D x (x.length - i).toNat i
section
variable {D x : PySem.Str} {i j k : Int}
theorem inn_t (hd : (Builtin.Str.occurrences D (Txt.item x i) 0 D.length 1).isEmpty = false) : inn D x i = true := by unfold inn; rw [hd]; rfl
theorem inn_f (hd : (Builtin.Str.occurrences D (Txt.item x i) 0 D.length 1).isEmpty = true) : inn D x i = false := by unfold inn; rw [hd]; rfl
theorem runE_step (h : i < x.length) (hd : (Builtin.Str.occurrences D (Txt.item x i) 0 D.length 1).isEmpty = false) : runE D x (i + 1) = runE D x i := by
  unfold runE
  obtain ⟨f, hf⟩ : ∃ f, (x.length - i : Int).toNat = f + 1 := ⟨(x.length - i : Int).toNat - 1, by omega⟩
  rw [hf, show (x.length - (i + 1) : Int).toNat = f by omega]
  show _ = if inn D x i = true then _ else _
  rw [if_pos (inn_t hd)]
theorem runE_stop (h : i < x.length) (hd : (Builtin.Str.occurrences D (Txt.item x i) 0 D.length 1).isEmpty = true) : runE D x i = i := by
  unfold runE
  obtain ⟨f, hf⟩ : ∃ f, (x.length - i : Int).toNat = f + 1 := ⟨(x.length - i : Int).toNat - 1, by omega⟩
  rw [hf]
  show (if inn D x i = true then _ else _) = _
  rw [if_neg (by rw [inn_f hd]; decide)]
theorem runE_end (h : ¬ i < x.length) : runE D x i = i := by
  unfold runE
  rw [show (x.length - i : Int).toNat = 0 by omega]
  rfl
theorem run_inv (h : i < x.length) (hd : (Builtin.Str.occurrences D (Txt.item x i) 0 D.length 1).isEmpty = false) (e : runE D x i = k) (ej : j = i + 1) : runE D x j = k := by
  subst ej; rw [runE_step h hd, e]
end
section
variable {prog : Program} {w : World} {mean : ExcName → Option Value} {mg mb : Str → Option Value} {A A₀ : Around} {base g h h' h₀ : Heap} {outer : List Env} {s : Shared} {news : List (Addr × Obj)} {gf : Obj → List (Addr × Obj)} {src r L : Addr} {o o' : Obj} {m : Str → Option Value} {env : Env} {dp un : Nat} {gd : Option (List Code)} {Q E : Value → Shared → Prop}

set_option maxHeartbeats 4000000 in
theorem dig_spec {x : PySem.Str} {i : Int} {t0 t1 : Tok} (C : Cx w mean mg mb (topA dp un gd outer) base outer g s.heap) (hx : x.length ≤ 1000) (hi : 0 ≤ i) (hi' : i ≤ x.length)
    (hd : dp + 4 < recursionLimit) (hu : un + 60 < cLine)
    (ret : ∀ k t h' tk', k = runE DG x i → i ≤ k → k ≤ x.length → g.StaysIn h' → Q (.int k t) { s with heap := h', toks := tk' }) :
    wpAny (model prog w) (topA dp un gd outer) (call (.ref 42) [.str x t0, .int i t1]) Q E s := by
  obtain ⟨B, X, T, G, hk, hz⟩ := id C
  k_with_none
  w_top off
  k_with "exec While BoolOp cons nil" => k_while (fun (_ : List Int) k => i ≤ k ∧ k ≤ x.length ∧ runE DG x k = runE DG x i) (fun _ k => (x.length - k).toNat) "at"
  k_with "state" => (first | (refine ⟨Int.le_refl _, hi', rfl⟩) | (refine ⟨by omega, by omega, run_inv ?_ ?_ ?_ rfl⟩ <;> assumption))
  refine wpAny_call ?_
  k_dflt (refine' enter (news := []) C ?kN ?k6 ?k7 ?k8 ?k9 ?kB ?_ ?c2 ?c3 ?c4 ?c5; (case kN => exact List.forall_mem_nil _); (case k6 => k_is); (case k7 => k_is); (case k8 => ktr_room); (case k9 => exact BindsTo.of_eq rfl); (case c5 => decide); (case kB => exact locs rfl); (case c2 => exact rfl); (case c3 => exact rfl); (case c4 => exact rfl); k_whole)
  intro L' h' F' N' l1
  k_lt l1
  (try dsimp only)
  (try k_fold)
  k_steps
  all_goals (try dsimp only)
  all_goals (rename Fr _ _ _ _ => F1; rename runE DG x _ = runE DG x i => e0)
  · rename List.isEmpty _ = true => e1
    exact ret _ _ _ _ ((runE_stop (by assumption) e1).symm.trans e0) (by assumption) (by assumption) F1.keep
  · exact ret _ _ _ _ ((runE_end (by assumption)).symm.trans e0) (by assumption) (by assumption) F1.keep

theorem Gr.news0 (R : Gr w mean mg mb A base outer h₀ L m news [] h g) (k : g.StaysIn h') : News h₀ L h' news := fun p hp => R.nw h' k p hp (by simp)
theorem Gr.fresh0 (R : Gr w mean mg mb A base outer h₀ L m news [] h g) (k : g.StaysIn h') (hr : g.get? r = none) {or : Obj} (er : h'.get? r = some or) : News h₀ L h' ((r, or) :: news) ∧ LCg.Off1 r news := by
  obtain ⟨a1, a2, a3⟩ := R.off r hr (by simp)
  refine ⟨fun p hp => ?_, off1_of a3⟩
  rcases List.mem_cons.mp hp with rfl | hp
  · exact ⟨er, a1, a2⟩
  · exact R.news0 k p hp
theorem ground0 (B : Below A₀ base outer h₀) (F : Fr h₀ L s.heap m) (X : (hd.heap_39 w.params).In h₀) (T : TopM mean mg mb h₀) (G : GlobM mg mb h₀) (N : News h₀ L s.heap news)
    (hf : env.frame = some L) (hke : env.scope.kind = .function) :
    Gr w mean mg mb (topA dp un gd (env :: outer)) base (env :: outer) h₀ L m news [] s.heap s.heap :=
  ground (fp := []) B F X T G N (fun p hp => nomatch hp) rfl hf hke
theorem dig_K {x : PySem.Str} {i : Int} {t0 t1 : Tok} (K : At w mean mg mb A₀ base outer h₀ L s.heap m news env)
    (hx : x.length ≤ 1000) (hi : 0 ≤ i) (hi' : i ≤ x.length) (hd : dp + 4 < recursionLimit) (hu : un + 60 < cLine)
    (ret : ∀ k t h' tk', Fr h₀ L h' m → News h₀ L h' news → k = runE DG x i → i ≤ k → k ≤ x.length → Q (.int k t) { s with heap := h', toks := tk' }) :
    wpAny (model prog w) (topA dp un gd (env :: outer)) (call (.ref 42) [.str x t0, .int i t1]) Q E s := by
  obtain ⟨B, F, X, T, G, N, hf, hke⟩ := K
  have R := ground0 (dp := dp) (un := un) (gd := gd) B F X T G N hf hke
  exact dig_spec R.C hx hi hi' hd hu fun k t h' tk' e h1 h2 st => ret k t h' tk' (R.fr h' st) (R.news0 st) e h1 h2
end
end Mine

-- part MSpan
namespace Mine
open PySem PySem.W PySem.Spec PySem.Calls PyProof.Rows

/-- where the number lies in the text -/
def spanOf (x : PySem.Str) : Option (Int × Int) :=
  let b := runE WS x 0
  let a := if b < x.length then (if inn SG x b = true then b + 1 else b) else b
  let e := runE DG x a
  if e = a then none else some (b, e)
theorem spanOf_is {x : PySem.Str} {b a e : Int} (hb : runE WS x 0 = b) (ha : (if b < x.length then (if inn SG x b = true then b + 1 else b) else b) = a) (he : e = runE DG x a) : spanOf x = if e = a then none else some (b, e) := by
  subst hb ha he
  rfl
theorem span1 {x : PySem.Str} {b e : Int} (h : b < x.length) (w : (Builtin.Str.occurrences WS (Txt.item x b) 0 WS.length 1).isEmpty = true) (e0 : runE WS x b = runE WS x 0)
    (g : (Builtin.Str.occurrences SG (Txt.item x b) 0 SG.length 1).isEmpty = true) (he : e = runE DG x b) : spanOf x = if e = b then none else some (b, e) :=
  spanOf_is (e0.symm.trans (runE_stop h w)) (by rw [if_pos h, inn_f g]; rfl) he
theorem span2 {x : PySem.Str} {b e : Int} (h : b < x.length) (w : (Builtin.Str.occurrences WS (Txt.item x b) 0 WS.length 1).isEmpty = true) (e0 : runE WS x b = runE WS x 0)
    (g : (Builtin.Str.occurrences SG (Txt.item x b) 0 SG.length 1).isEmpty = false) (he : e = runE DG x (b + 1)) : spanOf x = if e = b + 1 then none else some (b, e) :=
  spanOf_is (e0.symm.trans (runE_stop h w)) (by rw [if_pos h, inn_t g]; rfl) he
theorem span3 {x : PySem.Str} {b e : Int} (h : ¬ b < x.length) (e0 : runE WS x b = runE WS x 0) (he : e = runE DG x b) : spanOf x = if e = b then none else some (b, e) :=
  spanOf_is (e0.symm.trans (runE_end h)) (by rw [if_neg h]) he
section
variable {prog : Program} {w : World} {mean : ExcName → Option Value} {mg mb : Str → Option Value} {A A₀ : Around} {base g h h' h₀ : Heap} {outer : List Env} {s : Shared} {news : List (Addr × Obj)} {gf : Obj → List (Addr × Obj)} {src r L : Addr} {o o' : Obj} {m : Str → Option Value} {env : Env} {dp un : Nat} {gd : Option (List Code)} {Q E : Value → Shared → Prop}

local macro_rules | `(tactic| walk_at "call ref") => `(tactic| (k_here; k_dflt (refine' dig_K ?k1 ?p1 ?p2 ?p3 ?kd ?ku ?_; (case k1 => constructor; (iterate 6 k_asm); exact rfl; exact rfl); (case p1 => assumption); (case p2 => omega); (case p3 => omega); (case kd => ktr_room); (case ku => ktr_units)); intro d9 t9 h9 tk9 F9 N9 he9 hd9 hd9'; (try k_sweep)))
set_option maxHeartbeats 4000000 in
theorem span_spec {x : PySem.Str} {t0 : Tok} (C : Cx w mean mg mb (topA dp un gd outer) base outer g s.heap) (hx : x.length ≤ 1000)
    (hd : dp + 6 < recursionLimit) (hu : un + 80 < cLine)
    (retN : spanOf x = none → ∀ h' tk', g.StaysIn h' → Q .none { s with heap := h', toks := tk' })
    (retS : ∀ b e, spanOf x = some (b, e) → 0 ≤ b → b ≤ e → e ≤ x.length → ∀ r tb te h' tk', g.StaysIn h' → g.get? r = none → h'.get? r = some (tupO #[.int b tb, .int e te]) → Q (.ref r) { s with heap := h', toks := tk' }) :
    wpAny (model prog w) (topA dp un gd outer) (call (.ref 49) [.str x t0]) Q E s := by
  obtain ⟨B, X, T, G, hk, hz⟩ := id C
  k_with_none
  w_top off
  k_with "exec While BoolOp cons nil" => k_while (fun (_ : List Int) k => 0 ≤ k ∧ k ≤ x.length ∧ runE WS x k = runE WS x 0) (fun _ k => (x.length - k).toNat) "begin"
  k_with "state" => (first | (refine ⟨Int.le_refl _, by omega, rfl⟩) | (refine ⟨by omega, by omega, run_inv ?_ ?_ ?_ rfl⟩ <;> assumption))
  refine wpAny_call ?_
  k_dflt (refine' enter (news := []) C ?kN ?k6 ?k7 ?k8 ?k9 ?kB ?_ ?c2 ?c3 ?c4 ?c5; (case kN => exact List.forall_mem_nil _); (case k6 => k_is); (case k7 => k_is); (case k8 => ktr_room); (case k9 => exact BindsTo.of_eq rfl); (case c5 => decide); (case kB => exact locs rfl); (case c2 => exact rfl); (case c3 => exact rfl); (case c4 => exact rfl); k_whole)
  intro L' h' F' N' l1
  k_lt l1
  (try dsimp only)
  (try k_fold)
  k_steps
  all_goals (try dsimp only)
  all_goals (rename Fr _ _ _ _ => F1; rename News _ _ _ _ => N1; rename runE WS x _ = runE WS x 0 => e0)
  · exact retN ((span1 (by assumption) (by assumption) e0 (by assumption) (by assumption)).trans (if_pos (by assumption))) _ _ F1.keep
  · exact retS _ _ ((span1 (by assumption) (by assumption) e0 (by assumption) (by assumption)).trans (if_neg (by assumption))) (by omega) (by omega) (by omega) _ _ _ _ _ F1.keep (N1 (_, tupO _) (.head _)).2.2 (N1 (_, tupO _) (.head _)).1
  · exact retN ((span2 (by assumption) (by assumption) e0 (by assumption) (by assumption)).trans (if_pos (by assumption))) _ _ F1.keep
  · exact retS _ _ ((span2 (by assumption) (by assumption) e0 (by assumption) (by assumption)).trans (if_neg (by assumption))) (by omega) (by omega) (by omega) _ _ _ _ _ F1.keep (N1 (_, tupO _) (.head _)).2.2 (N1 (_, tupO _) (.head _)).1
  · exact retN ((span3 (by assumption) e0 (by assumption)).trans (if_pos (by assumption))) _ _ F1.keep
  · exact retS _ _ ((span3 (by assumption) e0 (by assumption)).trans (if_neg (by assumption))) (by omega) (by omega) (by omega) _ _ _ _ _ F1.keep (N1 (_, tupO _) (.head _)).2.2 (N1 (_, tupO _) (.head _)).1
end
end Mine

-- part MNum
namespace Mine
open PySem PySem.W PySem.Spec PySem.Calls PyProof.Rows

def numStep (n c : Int) : Int := if (Builtin.Str.occurrences DG { cps := #[c.toNat] } 0 DG.length 1).isEmpty = true then n else n * 10 + Txt.find DG { cps := #[c.toNat] }
def numF (l : List Int) : Int := l.foldl numStep 0
def numOf (x : PySem.Str) : Int := if (Txt.slice x none (some 1) == PySem.Str.ofString "-") = true then -numF (KStt.codes x) else numF (KStt.codes x)
theorem numF_snoc (l : List Int) (c : Int) : numF (l ++ [c]) = numStep (numF l) c := by simp [numF]
theorem num_t {n : Int} {l : List Int} {c : Nat} (h : n = numF l) (e : (Builtin.Str.occurrences DG { cps := #[c] } 0 DG.length 1).isEmpty = false) : n * 10 + Txt.find DG { cps := #[c] } = numF (l ++ [(c : Int)]) := by
  rw [numF_snoc, ← h]
  show _ = if (Builtin.Str.occurrences DG { cps := #[c] } 0 DG.length 1).isEmpty = true then _ else _
  rw [if_neg (by rw [e]; decide)]
  rfl
theorem num_f {n : Int} {l : List Int} {c : Nat} (h : n = numF l) (e : (Builtin.Str.occurrences DG { cps := #[c] } 0 DG.length 1).isEmpty = true) : n = numF (l ++ [(c : Int)]) := by
  rw [numF_snoc, ← h]
  show _ = if (Builtin.Str.occurrences DG { cps := #[c] } 0 DG.length 1).isEmpty = true then _ else _
  rw [if_pos e]
theorem numOf_t {x : PySem.Str} {n : Int} (h : n = numF (KStt.codes x)) (e : (Txt.slice x none (some 1) == PySem.Str.ofString "-") = true) : numOf x = -n := by
  unfold numOf; rw [if_pos e, h]
theorem numOf_f {x : PySem.Str} {n : Int} (h : n = numF (KStt.codes x)) (e : (Txt.slice x none (some 1) == PySem.Str.ofString "-") = false) : numOf x = n := by
  unfold numOf; rw [if_neg (by rw [e]; decide), h]
section
variable {prog : Program} {w : World} {mean : ExcName → Option Value} {mg mb : Str → Option Value} {A A₀ : Around} {base g h h' h₀ : Heap} {outer : List Env} {s : Shared} {news : List (Addr × Obj)} {gf : Obj → List (Addr × Obj)} {src r L : Addr} {o o' : Obj} {m : Str → Option Value} {env : Env} {dp un : Nat} {gd : Option (List Code)} {Q E : Value → Shared → Prop}

set_option maxHeartbeats 4000000 in
theorem num_spec {x : PySem.Str} {t0 : Tok} (C : Cx w mean mg mb (topA dp un gd outer) base outer g s.heap) (hx : x.length ≤ 1000)
    (hd : dp + 4 < recursionLimit) (hu : un + 60 < cLine)
    (ret : ∀ t h' tk', g.StaysIn h' → Q (.int (numOf x) t) { s with heap := h', toks := tk' }) :
    wpAny (model prog w) (topA dp un gd outer) (call (.ref 56) [.str x t0]) Q E s := by
  obtain ⟨B, X, T, G, hk, hz⟩ := id C
  k_with_none
  w_top off
  k_with "pyIter str" => k_state (fun pre n => n = numF pre) "number"
  k_with "state" => first | exact rfl | exact num_t (by assumption) (by assumption) | exact num_f (by assumption) (by assumption)
  refine wpAny_call ?_
  k_dflt (refine' enter (news := []) C ?kN ?k6 ?k7 ?k8 ?k9 ?kB ?_ ?c2 ?c3 ?c4 ?c5; (case kN => exact List.forall_mem_nil _); (case k6 => k_is); (case k7 => k_is); (case k8 => ktr_room); (case k9 => exact BindsTo.of_eq rfl); (case c5 => decide); (case kB => exact locs rfl); (case c2 => exact rfl); (case c3 => exact rfl); (case c4 => exact rfl); k_whole)
  intro L' h' F' N' l1
  k_lt l1
  (try dsimp only)
  (try k_fold)
  k_steps
  · exfalso
    rename List.isEmpty _ = false => e1
    rename List.isEmpty _ = true => e2
    rw [e2] at e1
    cases e1
  · rename Fr _ _ _ _ => F1
    rename (_ == _) = true => e1

    have e2 := numOf_t (by assumption) e1
    rw [e2] at ret
    exact ret _ _ _ F1.keep
  · rename Fr _ _ _ _ => F1
    rename (_ == _) = false => e1

    have e2 := numOf_f (by assumption) e1
    rw [e2] at ret
    exact ret _ _ _ F1.keep
end
end Mine

-- part MText
namespace Mine
open PySem PySem.W PySem.Spec PySem.Calls PyProof.Rows

/-- an octet below 128 as a sign -/
abbrev chrS (c : UInt8) : PySem.Str := ⟨#[c.toNat]⟩
theorem chr_sum (l : List UInt8) : ((l.map chrS).map (·.length)).sum = l.length := by
  induction l with
  | nil => rfl
  | cons c l ih => simp only [List.map_cons, List.sum_cons, ih, List.length_cons]; show 1 + _ = _; omega
theorem text_turn {l : List UInt8} {ys : List PySem.Str} {k c : Int} (h0 : 0 ≤ k) (hl : ys.length = k.toNat) (he : ys = (l.take k.toNat).map chrS) (h1 : k < (l.toArray.size : Int)) (hc : c = ((l.getD k.toNat 0).toNat : Int)) :
    0 ≤ k + (0 + 1) ∧ k + (0 + 1) ≤ l.length ∧ (ys ++ [(⟨#[c.toNat]⟩ : PySem.Str)]).length = (k + (0 + 1)).toNat ∧ ys ++ [(⟨#[c.toNat]⟩ : PySem.Str)] = (l.take (k + (0 + 1)).toNat).map chrS := by
  rw [List.size_toArray] at h1
  have e : (k + (0 + 1)).toNat = k.toNat + 1 := by omega
  have hlt : k.toNat < l.length := by omega
  refine ⟨by omega, by omega, by rw [List.length_append, hl, e]; rfl, ?_⟩
  rw [e, List.take_succ, List.map_append, ← he, hc]
  congr 1
  simp [List.getD_eq_getElem?_getD, hlt, chrS]
theorem text_meas {l : List UInt8} {k : Int} (h1 : k < (l.toArray.size : Int)) : ((l.length : Int) - (k + (0 + 1))).toNat < ((l.length : Int) - k).toNat := by
  rw [List.size_toArray] at h1
  omega
theorem text_all {l : List UInt8} {ys : List PySem.Str} {k : Int} (he : ys = (l.take k.toNat).map chrS) (h1 : ¬ k < (l.toArray.size : Int)) : ys = l.map chrS := by
  rw [List.size_toArray] at h1
  rw [he, List.take_of_length_le (by omega)]
/-- octets below 128 as a text -/
def textOf (l : List UInt8) : PySem.Str := Txt.join (PySem.Str.ofString "") (l.map chrS)
section
variable {prog : Program} {w : World} {mean : ExcName → Option Value} {mg mb : Str → Option Value} {A A₀ : Around} {base g h h' h₀ : Heap} {outer : List Env} {s : Shared} {news : List (Addr × Obj)} {gf : Obj → List (Addr × Obj)} {src r L : Addr} {o o' : Obj} {m : Str → Option Value} {env : Env} {dp un : Nat} {gd : Option (List Code)} {Q E : Value → Shared → Prop}

theorem item_oct {l : List UInt8} {i : Int} {t ui : Tok} {value slice : Expr} (hfit : l.length ≤ 1000) (hb : ∀ c ∈ l, c.toNat < 128) (h0 : 0 ≤ i) (h1 : i < (l.length : Int))
    (h : ∀ c : Int, c = ((l.getD i.toNat 0).toNat : Int) → 0 ≤ c → c < 128 → Q (.int c s.toks) { s with toks := s.toks + 1 })
    (hs : subscripted slice false (.bytes l.toArray t) (.int i ui) = operate [.bytes l.toArray t, .int i ui] (getItem (.bytes l.toArray t) (.int i ui)) := by with_unfolding_all rfl)
    (ht : ∀ r, letTemporaryGo value (.bytes l.toArray t) r = pure () := by intro _; with_unfolding_all rfl) : wpAny (model prog w) A (subscriptTail value slice (.bytes l.toArray t) (.int i ui)) Q E s := by
  refine KBy.item_N (by omega) h0 h1 (h _ rfl (by omega) ?_) hs ht
  have hl : i.toNat < l.length := by omega
  have : l.getD i.toNat 0 ∈ l := by simp [List.getD_eq_getElem?_getD, hl]
  have := hb _ this
  omega
theorem join_oct {D : Addr} {items : Array Value} {l : List UInt8} {ys : List PySem.Str} {x : PySem.Str} {t : Tok} {n : Nat} (N : News h₀ L s.heap news) (hm : (D, listOf items n) ∈ news) (hi : StrsAre items.toList ys) (hy : ys = l.map chrS) (hsep : x.length ≤ 16) (hw : l.length ≤ 1000)
    (h : ∀ t' k, Q (.str (Txt.join x (l.map chrS)) t') { s with toks := k }) : wpAny (model prog w) A (call (.builtin "str.join") [.str x t, .ref D]) Q E s := by
  subst hy
  exact join_listW ⟨_, (N _ hm).1, rfl, _, rfl⟩ hi hsep (by rw [chr_sum]; simp; omega) h
local macro_rules | `(tactic| walk_at "call builtin:str.join") => `(tactic| (k_here; k_dflt (refine' join_oct ?a ?b ?c ?d ?e ?f ?_; (case a => k_asm); (case b => k_mem); (case c => assumption); (case d => exact text_all (by assumption) (by assumption)); (case e => decide); (case f => assumption)); intro t9 k9))
local macro_rules | `(tactic| walk_at "subscriptTail") => `(tactic| (k_here; (with_reducible show wpAny _ _ (subscriptTail _ _ (Value.bytes (List.toArray _) _) (Value.int _ _)) _ _ _); k_dflt (refine' item_oct ?a ?b ?c ?d ?_; (case a => assumption); (case b => assumption); (case c => omega); (case d => omega)); intro c9 hc9 hc0 hc1))
local macro_rules | `(tactic| walk_at "call ref") => `(tactic| (k_here; k_dflt (refine wpAny_call ?_; (refine' code_def ?k1 ?k2 ?k3 ?k4 ?k5 ?kA ?kF ?kK ?k6 ?k7 ?k8 ?k9 ?kB ?_ ?c2 ?c3 ?c4 ?c5; (case kA => exact rfl); (case kF => exact rfl); (case kK => exact rfl); (case k1 => k_asm); (case k2 => k_asm); (case k3 => k_asm); (case k4 => k_asm); (case k5 => k_asm); (case k6 => k_is); (case k7 => k_is); (case k8 => ktr_room); (case k9 => exact BindsTo.of_eq rfl); (case c5 => decide); (case kB => exact locs rfl); (case c2 => exact rfl); (case c3 => exact rfl); (case c4 => exact rfl); k_whole; intro g' L' h' FG' F' N' B' X' T'; (try dsimp only); (try k_lift B'); (try k_fold)))))
theorem size_none {a b : Int} (h : b ≤ a) : Builtin.Range.rangeSize a b 1 = ((0 : Nat) : Int) := by rw [rangeSize_nat, show (b - a).toNat = 0 by omega]
local macro_rules | `(tactic| walk_at "exec For Name Call cons nil") => `(tactic| (k_here; (rename Fr _ _ _ _ => lF'); (with_unfolding_all refine' For_invVF lF' ?k1 ?k2 ?_; (case k1 => exact rfl); (case k2 => exact rfl); k_whole); l_hasStore))
local macro_rules | `(tactic| walk_at "pyIter ref") => `(tactic| ((with_reducible show wpAny _ _ (pyIter (Value.ref _)) (fun it s₂ => LoopAtV _ _ _ _ _ _ _ _ _ it s₂) _ _); (rename Fr _ _ _ _ => lF'); (rename News _ _ _ _ => lN'); (rename IsRange _ _ _ _ _ _ _ _ => lR'); (with_unfolding_all refine iter_rangeUnr (n := 0) (by rfl) lR' (small_one (by omega) (by omega) (by omega) (by omega)) (size_none (by omega)) lF' lN' ?_); clear lF' lN' lR'; intro i' l1; (try k_lt l1)))
local macro_rules | `(tactic| kst_facts1) => `(tactic| first | exact PyProof.Rows.StrsAre.nil | exact PyProof.Rows.StrsAre.append' (by assumption) (.cons _ _ .nil))
set_option maxHeartbeats 4000000 in
theorem text_spec {l : List UInt8} {t0 : Tok} (C : Cx w mean mg mb (topA dp un gd outer) base outer g s.heap) (hx : l.length ≤ 1000) (hb : ∀ c ∈ l, c.toNat < 128)
    (hd : dp + 6 < recursionLimit) (hu : un + 80 < cLine)
    (ret : ∀ t h' tk', g.StaysIn h' → Q (.str (textOf l) t) { s with heap := h', toks := tk' }) :
    wpAny (model prog w) (topA dp un gd outer) (call (.ref 28) [.bytes l.toArray t0]) Q E s := by
  obtain ⟨B, X, T, G, hk, hz⟩ := id C
  k_with_none
  w_top off
  k_with "exec While Compare cons nil" => k_while (fun (_ : List Int) k (ys : List PySem.Str) => 0 ≤ k ∧ k ≤ l.length ∧ ys.length = k.toNat ∧ ys = (l.take k.toNat).map chrS) (fun _ k _ => (l.length - k : Int).toNat) "at" "signs$"
  k_with "state" => first | exact ⟨Int.le_refl _, by omega, rfl, rfl⟩ | exact text_turn (by assumption) (by assumption) (by assumption) (by assumption) (by assumption)
  k_with "measure" => exact text_meas (by assumption)
  refine wpAny_call ?_
  k_dflt (refine' enter (news := []) C ?kN ?k6 ?k7 ?k8 ?k9 ?kB ?_ ?c2 ?c3 ?c4 ?c5; (case kN => exact List.forall_mem_nil _); (case k6 => k_is); (case k7 => k_is); (case k8 => ktr_room); (case k9 => exact BindsTo.of_eq rfl); (case c5 => decide); (case kB => exact locs rfl); (case c2 => exact rfl); (case c3 => exact rfl); (case c4 => exact rfl); k_whole)
  intro L' h' F' N' l1
  k_lt l1
  (try dsimp only)
  (try k_fold)
  k_steps
  rename Fr _ _ _ _ => F1
  exact ret _ _ _ F1.keep
theorem text_K {l : List UInt8} {t0 : Tok} (K : At w mean mg mb A₀ base outer h₀ L s.heap m news env)
    (hx : l.length ≤ 1000) (hb : ∀ c ∈ l, c.toNat < 128) (hd : dp + 6 < recursionLimit) (hu : un + 80 < cLine)
    (ret : ∀ t h' tk', Fr h₀ L h' m → News h₀ L h' news → Q (.str (textOf l) t) { s with heap := h', toks := tk' }) :
    wpAny (model prog w) (topA dp un gd (env :: outer)) (call (.ref 28) [.bytes l.toArray t0]) Q E s := by
  obtain ⟨B, F, X, T, G, N, hf, hke⟩ := K
  have R := ground0 (dp := dp) (un := un) (gd := gd) B F X T G N hf hke
  exact text_spec R.C hx hb hd hu fun t h' tk' st => ret t h' tk' (R.fr h' st) (R.news0 st)
theorem num_K {x : PySem.Str} {t0 : Tok} (K : At w mean mg mb A₀ base outer h₀ L s.heap m news env)
    (hx : x.length ≤ 1000) (hd : dp + 4 < recursionLimit) (hu : un + 60 < cLine)
    (ret : ∀ t h' tk', Fr h₀ L h' m → News h₀ L h' news → Q (.int (numOf x) t) { s with heap := h', toks := tk' }) :
    wpAny (model prog w) (topA dp un gd (env :: outer)) (call (.ref 56) [.str x t0]) Q E s := by
  obtain ⟨B, F, X, T, G, N, hf, hke⟩ := K
  have R := ground0 (dp := dp) (un := un) (gd := gd) B F X T G N hf hke
  exact num_spec R.C hx hd hu fun t h' tk' st => ret t h' tk' (R.fr h' st) (R.news0 st)
theorem span_K {x : PySem.Str} {t0 : Tok} {b e : Int} (K : At w mean mg mb A₀ base outer h₀ L s.heap m news env)
    (hx : x.length ≤ 1000) (hs : spanOf x = some (b, e)) (hd : dp + 6 < recursionLimit) (hu : un + 80 < cLine)
    (ret : ∀ r tb te h' tk', Fr h₀ L h' m → News h₀ L h' ((r, tupO #[.int b tb, .int e te]) :: news) → LCg.Off1 r news → 0 ≤ b → b ≤ e → e ≤ x.length → Q (.ref r) { s with heap := h', toks := tk' }) :
    wpAny (model prog w) (topA dp un gd (env :: outer)) (call (.ref 49) [.str x t0]) Q E s := by
  obtain ⟨B, F, X, T, G, N, hf, hke⟩ := K
  have R := ground0 (dp := dp) (un := un) (gd := gd) B F X T G N hf hke
  refine span_spec R.C hx hd hu (fun h => by rw [hs] at h; cases h) fun b' e' h1 h2 h3 h4 r tb te h' tk' st hr er => ?_
  obtain ⟨rfl, rfl⟩ : b = b' ∧ e = e' := by rw [hs] at h1; cases h1; exact ⟨rfl, rfl⟩
  obtain ⟨N1, o1⟩ := R.fresh0 st hr er
  exact ret r tb te h' tk' (R.fr h' st) N1 o1 h2 h3 h4
end
end Mine

-- part MInt
namespace Mine
open PySem PySem.W PySem.Spec PySem.Calls PyProof.Rows

/-- the text reads as this number -/
def ReadsAs (x : PySem.Str) (n : Int) : Prop := x.length ≤ 1000 ∧ ∃ b e, spanOf x = some (b, e) ∧ numOf (Txt.slice x (some b) (some e)) = n
theorem reads_s {n : Int} (h1 : -4 ≤ n) (h2 : n ≤ 5) : ReadsAs (gS n) n := by
  have : n = -4 ∨ n = -3 ∨ n = -2 ∨ n = -1 ∨ n = 0 ∨ n = 1 ∨ n = 2 ∨ n = 3 ∨ n = 4 ∨ n = 5 := by omega
  rcases this with rfl | rfl | rfl | rfl | rfl | rfl | rfl | rfl | rfl | rfl
  all_goals (refine ⟨by decide +kernel, ?_⟩; first | exact ⟨1, 3, by decide +kernel, by decide +kernel⟩ | exact ⟨1, 2, by decide +kernel, by decide +kernel⟩)
theorem reads_b {n : Int} (h1 : -4 ≤ n) (h2 : n ≤ 5) : ReadsAs (textOf (gB n).toList) n := by
  have : n = -4 ∨ n = -3 ∨ n = -2 ∨ n = -1 ∨ n = 0 ∨ n = 1 ∨ n = 2 ∨ n = 3 ∨ n = 4 ∨ n = 5 := by omega
  rcases this with rfl | rfl | rfl | rfl | rfl | rfl | rfl | rfl | rfl | rfl
  all_goals (refine ⟨by decide +kernel, ?_⟩; first | exact ⟨0, 2, by decide +kernel, by decide +kernel⟩ | exact ⟨0, 1, by decide +kernel, by decide +kernel⟩)
theorem low_b {n : Int} (h1 : -4 ≤ n) (h2 : n ≤ 5) : (gB n).toList.length ≤ 1000 ∧ ∀ c ∈ (gB n).toList, c.toNat < 128 := by
  have : n = -4 ∨ n = -3 ∨ n = -2 ∨ n = -1 ∨ n = 0 ∨ n = 1 ∨ n = 2 ∨ n = 3 ∨ n = 4 ∨ n = 5 := by omega
  rcases this with rfl | rfl | rfl | rfl | rfl | rfl | rfl | rfl | rfl | rfl <;> exact ⟨by decide +kernel, by decide +kernel⟩
section
variable {prog : Program} {w : World} {mean : ExcName → Option Value} {mg mb : Str → Option Value} {A A₀ : Around} {base g h h' h₀ : Heap} {outer : List Env} {s : Shared} {news : List (Addr × Obj)} {gf : Obj → List (Addr × Obj)} {src r L : Addr} {o o' : Obj} {m : Str → Option Value} {env : Env} {dp un : Nat} {gd : Option (List Code)} {Q E : Value → Shared → Prop}

local macro_rules | `(tactic| walk_at "call ref") => `(tactic| (k_here; k_dflt (refine' text_K ?k1 ?p1 ?p2 ?kd ?ku ?_; (case k1 => constructor; (iterate 6 k_asm); exact rfl; exact rfl); (case p1 => assumption); (case p2 => assumption); (case kd => ktr_room); (case ku => ktr_units)); intro t9 h9 tk9 F9 N9; (try k_sweep)))
local macro_rules | `(tactic| walk_at "call ref") => `(tactic| (k_here; k_dflt (refine' num_K ?k1 ?p1 ?kd ?ku ?_; (case k1 => constructor; (iterate 6 k_asm); exact rfl; exact rfl); (case p1 => omega); (case kd => ktr_room); (case ku => ktr_units)); intro t9 h9 tk9 F9 N9; (try k_sweep)))
local macro_rules | `(tactic| walk_at "call ref") => `(tactic| (k_here; k_dflt (refine' span_K ?k1 ?p1 ?p2 ?kd ?ku ?_; (case k1 => constructor; (iterate 6 k_asm); exact rfl; exact rfl); (case p1 => assumption); (case p2 => assumption); (case kd => ktr_room); (case ku => ktr_units)); intro r9 tb9 te9 h9 tk9 F9 N9 o9 hb9 he9 hx9; (try simp only [LCg.Off1, and_true] at o9); (try k_sweep)))
set_option maxHeartbeats 4000000 in
theorem asint_str {x : PySem.Str} {t0 : Tok} {b e k : Int} (C : Cx w mean mg mb (topA dp un gd outer) base outer g s.heap) (hx : x.length ≤ 1000) (hs : spanOf x = some (b, e)) (hn : numOf (Txt.slice x (some b) (some e)) = k) (hk1 : -(2 ^ 63) ≤ k) (hk2 : k < 2 ^ 63)
    (hd : dp + 8 < recursionLimit) (hu : un + 100 < cLine)
    (ret : ∀ t h' tk', g.StaysIn h' → Q (.int k t) { s with heap := h', toks := tk' }) :
    wpAny (model prog w) (topA dp un gd outer) (call (.ref 63) [.str x t0]) Q E s := by
  obtain ⟨B, X, T, G, hk, hz⟩ := id C
  k_with_none
  w_top off
  refine wpAny_call ?_
  k_dflt (refine' enter (news := []) C ?kN ?k6 ?k7 ?k8 ?k9 ?kB ?_ ?c2 ?c3 ?c4 ?c5; (case kN => exact List.forall_mem_nil _); (case k6 => k_is); (case k7 => k_is); (case k8 => ktr_room); (case k9 => exact BindsTo.of_eq rfl); (case c5 => decide); (case kB => exact locs rfl); (case c2 => exact rfl); (case c3 => exact rfl); (case c4 => exact rfl); k_whole)
  intro L' h' F' N' l1
  k_lt l1
  (try dsimp only)
  (try k_fold)
  k_steps
  rename Fr _ _ _ _ => F1
  have e1 : (if (if numOf (Txt.slice x (some b) (some e)) < 9223372036854775807 then numOf (Txt.slice x (some b) (some e)) else 9223372036854775807) > -9223372036854775808 then if numOf (Txt.slice x (some b) (some e)) < 9223372036854775807 then numOf (Txt.slice x (some b) (some e)) else 9223372036854775807 else -9223372036854775808) = k := by
    rw [hn]
    split <;> (try split) <;> (try split at *) <;> omega
  rw [← e1] at ret
  exact ret _ _ _ F1.keep

set_option maxHeartbeats 4000000 in
theorem asint_bytes {l : List UInt8} {t0 : Tok} {b e k : Int} (C : Cx w mean mg mb (topA dp un gd outer) base outer g s.heap) (hx0 : l.length ≤ 1000) (hb : ∀ c ∈ l, c.toNat < 128) (hx : (textOf l).length ≤ 1000) (hs : spanOf (textOf l) = some (b, e)) (hn : numOf (Txt.slice (textOf l) (some b) (some e)) = k) (hk1 : -(2 ^ 63) ≤ k) (hk2 : k < 2 ^ 63)
    (hd : dp + 8 < recursionLimit) (hu : un + 100 < cLine)
    (ret : ∀ t h' tk', g.StaysIn h' → Q (.int k t) { s with heap := h', toks := tk' }) :
    wpAny (model prog w) (topA dp un gd outer) (call (.ref 63) [.bytes l.toArray t0]) Q E s := by
  obtain ⟨B, X, T, G, hk, hz⟩ := id C
  k_with_none
  w_top off
  refine wpAny_call ?_
  k_dflt (refine' enter (news := []) C ?kN ?k6 ?k7 ?k8 ?k9 ?kB ?_ ?c2 ?c3 ?c4 ?c5; (case kN => exact List.forall_mem_nil _); (case k6 => k_is); (case k7 => k_is); (case k8 => ktr_room); (case k9 => exact BindsTo.of_eq rfl); (case c5 => decide); (case kB => exact locs rfl); (case c2 => exact rfl); (case c3 => exact rfl); (case c4 => exact rfl); k_whole)
  intro L' h' F' N' l1
  k_lt l1
  (try dsimp only)
  (try k_fold)
  k_steps
  rename Fr _ _ _ _ => F1
  have e1 : (if (if numOf (Txt.slice (textOf l) (some b) (some e)) < 9223372036854775807 then numOf (Txt.slice (textOf l) (some b) (some e)) else 9223372036854775807) > -9223372036854775808 then if numOf (Txt.slice (textOf l) (some b) (some e)) < 9223372036854775807 then numOf (Txt.slice (textOf l) (some b) (some e)) else 9223372036854775807 else -9223372036854775808) = k := by
    rw [hn]
    split <;> (try split) <;> (try split at *) <;> omega
  rw [← e1] at ret
  exact ret _ _ _ F1.keep

set_option maxHeartbeats 4000000 in
theorem asint_int {t0 : Tok} {k : Int} (C : Cx w mean mg mb (topA dp un gd outer) base outer g s.heap)
    (hd : dp + 8 < recursionLimit) (hu : un + 100 < cLine)
    (ret : ∀ t h' tk', g.StaysIn h' → Q (.int k t) { s with heap := h', toks := tk' }) :
    wpAny (model prog w) (topA dp un gd outer) (call (.ref 63) [.int k t0]) Q E s := by
  obtain ⟨B, X, T, G, hk, hz⟩ := id C
  k_with_none
  w_top off
  refine wpAny_call ?_
  k_dflt (refine' enter (news := []) C ?kN ?k6 ?k7 ?k8 ?k9 ?kB ?_ ?c2 ?c3 ?c4 ?c5; (case kN => exact List.forall_mem_nil _); (case k6 => k_is); (case k7 => k_is); (case k8 => ktr_room); (case k9 => exact BindsTo.of_eq rfl); (case c5 => decide); (case kB => exact locs rfl); (case c2 => exact rfl); (case c3 => exact rfl); (case c4 => exact rfl); k_whole)
  intro L' h' F' N' l1
  k_lt l1
  (try dsimp only)
  (try k_fold)
  k_steps
  rename Fr _ _ _ _ => F1
  exact ret _ _ _ F1.keep

theorem asint_spec {x : Value} {k : Int} (C : Cx w mean mg mb (topA dp un gd outer) base outer g s.heap) (hx : Giv x k) (hd : dp + 8 < recursionLimit) (hu : un + 100 < cLine)
    (ret : ∀ t h' tk', g.StaysIn h' → Q (.int k t) { s with heap := h', toks := tk' }) :
    wpAny (model prog w) (topA dp un gd outer) (call (.ref 63) [x]) Q E s := by
  cases hx with
  | int _ t h1 h2 => exact asint_int C hd hu ret
  | str _ t h1 h2 =>
    obtain ⟨hl, b, e, hs, hn⟩ := reads_s h1 h2
    exact asint_str C hl hs hn (by omega) (by omega) hd hu ret
  | bytes _ t h1 h2 =>
    obtain ⟨hl, b, e, hs, hn⟩ := reads_b h1 h2
    obtain ⟨l1, l2⟩ := low_b h1 h2
    have e1 : gB k = (gB k).toList.toArray := by simp
    rw [e1]
    exact asint_bytes C l1 l2 hl hs hn (by omega) (by omega) hd hu ret
theorem asint_K {x : Value} {k : Int} (K : At w mean mg mb A₀ base outer h₀ L s.heap m news env)
    (hx : Giv x k) (hd : dp + 8 < recursionLimit) (hu : un + 100 < cLine)
    (ret : ∀ t h' tk', Fr h₀ L h' m → News h₀ L h' news → Q (.int k t) { s with heap := h', toks := tk' }) :
    wpAny (model prog w) (topA dp un gd (env :: outer)) (call (.ref 63) [x]) Q E s := by
  obtain ⟨B, F, X, T, G, N, hf, hke⟩ := K
  have R := ground0 (dp := dp) (un := un) (gd := gd) B F X T G N hf hke
  exact asint_spec R.C hx hd hu fun t h' tk' st => ret t h' tk' (R.fr h' st) (R.news0 st)
end
end Mine

-- part MCell
namespace Mine
open PySem PySem.W PySem.Spec PySem.Calls PyProof.Rows
section
variable {prog : Program} {w : World} {mean : ExcName → Option Value} {mg mb : Str → Option Value} {A A₀ : Around} {base g h₀ : Heap} {outer : List Env} {s : Shared} {news fp : List (Addr × Obj)} {R : Result → Shared → Prop}
  {name qual : Str} {params : Arguments} {body : List Stmt} {scope : Scope} {dV kV doc pm cdv ct oc : Value} {an od : Option Addr} {osl : Array (Option Value)} {f L : Addr} {m : Str → Option Value} {args : Args} {binds : List (Str × Value)} {env : Env}

/-- into a def some of whose names are kept in cells -/
theorem enterC (C : Cx w mean mg mb A base outer g s.heap) (N : ∀ p ∈ news, s.heap.get? p.1 = some p.2 ∧ g.get? p.1 = none)
    (ho : (hd.heap_39 w.params).lookup f = some ⟨oc, od, .func (fnOf name qual params body scope dV kV doc pm an cdv ct), osl⟩) (hcd : codeIn (hd.heap_39 w.params) cdv qual = true) (hroom : A.depth < recursionLimit)
    (hbind : BindsTo s (fnOf name qual params body scope dV kV doc pm an cdv ct) args binds) (hkind : (binds.all fun y => scope.names.lookup y.1 == some .local || scope.names.lookup y.1 == some .cell) = true)
    (hnd : ((cellsFrom 0 scope.names []).map (·.1)).Nodup)
    (h : ∀ L' h₁ tk cells, Fr g L' h₁ (bindL (envOfC qual scope L' f cdv).kindOf binds fun _ => none) → News g L' h₁ (cells ++ news) →
      CellsAre (bindC (envOfC qual scope L' f cdv).kindOf binds fun _ => none) (cellsFrom (L' + 1) scope.names []) cells → (∀ p ∈ news, p.1 < L') →
      wpAny (model prog w) (A.deeper (envOfC qual scope L' f cdv)) (execs body (envOfC qual scope L' f cdv))
        (fun fl s' => R (.ok (.ret (match fl with | .ret v => v | _ => .none))) s')
        (fun e s' => wpAny (model prog w) (A.deeper (envOfC qual scope L' f cdv)) (leaving (envOfC qual scope L' f cdv) e) (fun _ s'' => R (.error e) s'') (fun e' s'' => R (.error e') s'') s')
        { s with heap := h₁, toks := tk })
    (hco : scope.isCoroutine = false) (hgen : scope.isGenerator = false) (hk : scope.kind = .function) : codeAny (model prog w) A (.call (.ref f) args) R s := by
  have kk := kindsX hkind
  refine codeAny_call_function hroom (C.X.keeps C.keep _ _ ho) rfl hco hgen rfl (codeRec_of (C.X.keeps C.keep) hcd) (hbind _ _ _ _ ?_)
  refine wpAny_newFunctionEnv_cells hk (kk _) fun env' he s' x => ?_
  subst he
  refine ⟨(C.T.nolimit.keeps C.keep).keeps x.toInCall.keep, codeAny_func ?_⟩
  obtain ⟨h₁, tk, rfl, _⟩ := x.done
  have k₁ := x.toInCall.keep
  obtain ⟨cells, NC, Y⟩ := Cl.news (h₀ := s.heap) (Nat.le_refl _) fun n c hm => ⟨x.cell n c (lookup_of_mem_nodup (cellsFrom_names scope.names 0 (s.heap.objs.size + 1) [] [] rfl ▸ hnd) hm), x.above n c hm⟩
  refine h s.heap.objs.size h₁ tk cells ⟨x.toInCall.ns, fun b o e => k₁ b o (C.keep b o e), C.size⟩ (fun p hp => ?_) Y (fun p hp => Heap.lt_size (N p hp).1)
  rcases List.mem_append.mp hp with hp | hp
  · refine ⟨(NC p hp).1, (NC p hp).2.1, ?_⟩
    cases q : g.get? p.1 with
    | none => rfl
    | some o => have := C.keep _ _ q; rw [(NC p hp).2.2] at this; cases this
  · exact ⟨k₁ _ _ (N p hp).1, Nat.ne_of_lt (Heap.lt_size (N p hp).1), (N p hp).2⟩
end
end Mine

-- part MPlaces
namespace Mine
open PySem PySem.W PySem.Spec PySem.Calls PyProof.Rows

theorem fold_keep {F : List Int → Int → List Int} {q : Int → Bool} (h : ∀ l k, F l k = if q k = true then l ++ [k] else l) : ∀ (xs acc : List Int), xs.foldl F acc = acc ++ xs.filter q
  | [], acc => by simp
  | x :: xs, acc => by
    rw [List.foldl_cons, fold_keep h xs, h, List.filter_cons]
    cases q x <;> simp
theorem ints_keep {ys : List Value} {F : List Int → Int → List Int} {q : Int → Bool} {n m : Nat} (hI : IntsAre ys (List.foldl F [] (rangeKs 1 n))) (hn : n = m) (h : ∀ l k, F l k = if q k = true then l ++ [k] else l) : IntsAre ys ((rangeKs 1 m).filter q) := by
  rw [fold_keep h, hn] at hI
  simpa using hI
/-- the place at which the part opens, told from the front -/
def first (z a : Int) : Int := if 0 ≤ a then a else z + 1 + a
/-- does the part hold this place -/
def kept (z a : Int) : Option Int → Int → Bool
  | none, k => decide (first z a ≤ k)
  | some c, k => if 0 ≤ c then decide (first z a ≤ k ∧ k < first z a + c) else decide (first z a + c ≤ k ∧ k < first z a)
theorem kept_none {z a f : Int} (hf : first z a = f) (l : List Int) (k : Int) : (if f ≤ k then l ++ [k] else l) = if kept z a none k = true then l ++ [k] else l := by
  subst hf
  unfold kept
  by_cases h : first z a ≤ k <;> simp [h]
theorem kept_some {z a f c : Int} (hf : first z a = f) (l : List Int) (k : Int) :
    (if (if f + c < f then f + c else f) ≤ k ∧ k < (if f < f + c then f + c else f) then l ++ [k] else if (if f + c < f then f + c else f) ≤ k ∧ ¬ k < (if f < f + c then f + c else f) then l else l) = if kept z a (some c) k = true then l ++ [k] else l := by
  have e : (kept z a (some c) k = true) = ((if f + c < f then f + c else f) ≤ k ∧ k < (if f < f + c then f + c else f)) := by
    subst hf
    unfold kept
    dsimp only
    apply propext
    by_cases h : 0 ≤ c
    · rw [if_pos h, if_neg (by omega), decide_eq_true_eq]
      split <;> omega
    · rw [if_neg h, if_pos (by omega), if_neg (by omega), decide_eq_true_eq]
  simp only [e]
  by_cases h : (if f + c < f then f + c else f) ≤ k ∧ k < (if f < f + c then f + c else f)
  · rw [if_pos h, if_pos h]
  · rw [if_neg h, if_neg h]; simp
inductive Many : Value → Option Int → Prop
  | none : Many .none none
  | some (c : Int) (t : Tok) : -(2 ^ 63) ≤ c → c < 2 ^ 63 → Many (.int c t) (some c)
section
variable {prog : Program} {w : World} {mean : ExcName → Option Value} {mg mb : Str → Option Value} {A A₀ : Around} {base g h h' h₀ : Heap} {outer : List Env} {s : Shared} {news : List (Addr × Obj)} {gf : Obj → List (Addr × Obj)} {src r L : Addr} {o o' : Obj} {m : Str → Option Value} {env : Env} {dp un : Nat} {gd : Option (List Code)} {Q E : Value → Shared → Prop}

local macro_rules | `(tactic| k_ne) => `(tactic| (refine neN ?_; (try dsimp only); (with_reducible rename (_ ∧ _ ∧ _) ∧ _ => hA); with_reducible first | exact hA.1.1 | exact hA.1.2.1 | exact hA.1.2.2 | exact hA.2.1.1 | exact hA.2.1.2.1 | exact hA.2.1.2.2 | exact hA.2.2.1.1 | exact hA.2.2.1.2.1 | exact hA.2.2.1.2.2 | exact hA.2.2.2.1 | exact hA.2.2.2.2.1 | exact hA.2.2.2.2.2))
set_option maxHeartbeats 4000000 in
theorem places_none {z a : Int} {t0 t1 : Tok} (C : Cx w mean mg mb (topA dp un gd outer) base outer g s.heap) (hz0 : 0 ≤ z) (hz1 : z ≤ 1000) (ha1 : -(2 ^ 63) ≤ a) (ha2 : a < 2 ^ 63)
    (hd : dp + 4 < recursionLimit) (hu : un + 60 < cLine)
    (ret : ∀ r ys n h' tk', g.StaysIn h' → g.get? r = none → h'.get? r = some (listOf ys.toArray n) → IntsAre ys ((rangeKs 1 z.toNat).filter (kept z a none)) → Q (.ref r) { s with heap := h', toks := tk' }) :
    wpAny (model prog w) (topA dp un gd outer) (call (.ref 115) [.int z t0, .int a t1, .none]) Q E s := by
  obtain ⟨B, X, T, G, hk, hz⟩ := id C
  k_with_none
  w_top off
  refine wpAny_call ?_
  k_dflt (refine' enterC (news := []) C ?kN ?k6 ?k7 ?k8 ?k9 ?kB ?kD ?_ ?c2 ?c3 ?c4; (case kN => exact List.forall_mem_nil _); (case k6 => k_is); (case k7 => k_is); (case k8 => ktr_room); (case k9 => exact BindsTo.of_eq rfl); (case kB => exact rfl); (case kD => decide +kernel); (case c2 => exact rfl); (case c3 => exact rfl); (case c4 => exact rfl); k_whole)
  intro L' h' tk' cells' F' N' Y' l1
  k_lt l1
  k_cells Y'
  (try simp only [List.cons_append, List.nil_append] at N')
  (try dsimp only)
  (try k_fold)
  k_steps
  all_goals (rename Fr _ _ _ _ => F1; rename News _ _ _ _ => N1; rename IntsAre _ _ => hI)
  · exact ret _ _ _ _ _ F1.keep (N1 (_, LCg.lst _) (.head _)).2.2 (N1 (_, LCg.lst _) (.head _)).1 (ints_keep hI (by congr 1; omega) (kept_none (if_pos (by assumption))))
  · exact ret _ _ _ _ _ F1.keep (N1 (_, LCg.lst _) (.head _)).2.2 (N1 (_, LCg.lst _) (.head _)).1 (ints_keep hI (by congr 1; omega) (kept_none (if_neg (by assumption))))

set_option maxHeartbeats 4000000 in
theorem places_some {z a c : Int} {t0 t1 t2 : Tok} (C : Cx w mean mg mb (topA dp un gd outer) base outer g s.heap) (hz0 : 0 ≤ z) (hz1 : z ≤ 1000) (ha1 : -(2 ^ 63) ≤ a) (ha2 : a < 2 ^ 63) (hc1 : -(2 ^ 63) ≤ c) (hc2 : c < 2 ^ 63)
    (hd : dp + 4 < recursionLimit) (hu : un + 60 < cLine)
    (ret : ∀ r ys n h' tk', g.StaysIn h' → g.get? r = none → h'.get? r = some (listOf ys.toArray n) → IntsAre ys ((rangeKs 1 z.toNat).filter (kept z a (some c))) → Q (.ref r) { s with heap := h', toks := tk' }) :
    wpAny (model prog w) (topA dp un gd outer) (call (.ref 115) [.int z t0, .int a t1, .int c t2]) Q E s := by
  obtain ⟨B, X, T, G, hk, hz⟩ := id C
  k_with_none
  w_top off
  refine wpAny_call ?_
  k_dflt (refine' enterC (news := []) C ?kN ?k6 ?k7 ?k8 ?k9 ?kB ?kD ?_ ?c2 ?c3 ?c4; (case kN => exact List.forall_mem_nil _); (case k6 => k_is); (case k7 => k_is); (case k8 => ktr_room); (case k9 => exact BindsTo.of_eq rfl); (case kB => exact rfl); (case kD => decide +kernel); (case c2 => exact rfl); (case c3 => exact rfl); (case c4 => exact rfl); k_whole)
  intro L' h' tk' cells' F' N' Y' l1
  k_lt l1
  k_cells Y'
  (try simp only [List.cons_append, List.nil_append] at N')
  (try dsimp only)
  (try k_fold)
  k_steps
  all_goals (rename Fr _ _ _ _ => F1; rename News _ _ _ _ => N1; rename IntsAre _ _ => hI)
  · exact ret _ _ _ _ _ F1.keep (N1 (_, LCg.lst _) (.head _)).2.2 (N1 (_, LCg.lst _) (.head _)).1 (ints_keep hI (by congr 1; omega) (kept_some (if_pos (by assumption))))
  · exact ret _ _ _ _ _ F1.keep (N1 (_, LCg.lst _) (.head _)).2.2 (N1 (_, LCg.lst _) (.head _)).1 (ints_keep hI (by congr 1; omega) (kept_some (if_neg (by assumption))))

theorem places_K {v : Value} {mo : Option Int} {z a : Int} {t0 t1 : Tok} (K : At w mean mg mb A₀ base outer h₀ L s.heap m news env)
    (hm : Many v mo) (hz0 : 0 ≤ z) (hz1 : z ≤ 1000) (ha1 : -(2 ^ 63) ≤ a) (ha2 : a < 2 ^ 63) (hd : dp + 4 < recursionLimit) (hu : un + 60 < cLine)
    (ret : ∀ r ys n h' tk', Fr h₀ L h' m → News h₀ L h' ((r, listOf ys.toArray n) :: news) → LCg.Off1 r news → IntsAre ys ((rangeKs 1 z.toNat).filter (kept z a mo)) → Q (.ref r) { s with heap := h', toks := tk' }) :
    wpAny (model prog w) (topA dp un gd (env :: outer)) (call (.ref 115) [.int z t0, .int a t1, v]) Q E s := by
  obtain ⟨B, F, X, T, G, N, hf, hke⟩ := K
  have R := ground0 (dp := dp) (un := un) (gd := gd) B F X T G N hf hke
  cases hm with
  | none =>
    refine places_none R.C hz0 hz1 ha1 ha2 hd hu fun r ys n h' tk' st hr er hI => ?_
    obtain ⟨N1, o1⟩ := R.fresh0 st hr er
    exact ret r ys n h' tk' (R.fr h' st) N1 o1 hI
  | some c t h1 h2 =>
    refine places_some R.C hz0 hz1 ha1 ha2 h1 h2 hd hu fun r ys n h' tk' st hr er hI => ?_
    obtain ⟨N1, o1⟩ := R.fresh0 st hr er
    exact ret r ys n h' tk' (R.fr h' st) N1 o1 hI
end
end Mine

-- part MEqSB
namespace Mine
open PySem PySem.W PySem.Spec PySem.Calls PyProof.Rows
theorem str_eq_bytes (a : PySem.Str) (t : Tok) (b : Array UInt8) (u : Tok) : Gives (Builtin.«str.__eq__» ⟨[.str a t, .bytes b u], []⟩) (.val (Value.notImplemented)) :=
  .of_wp fun M A E s Q h => by obtain ⟨hp, g, d, tk, os⟩ := s; wp_walk; exact ⟨_, rfl, h⟩
theorem bytes_eq_str (a : PySem.Str) (t : Tok) (b : Array UInt8) (u : Tok) : Gives (Builtin.«bytes.__eq__» ⟨[.bytes b u, .str a t], []⟩) (.val (Value.notImplemented)) := by
  refine .of_wp fun M A E s Q hq => ?_
  show wpAny M A (isInstance (.str a t) (.type "bytes") >>= fun r => _) _ E s
  refine wpAny_bind (wpAny_isInstance (typeIs_str s a t) F.sub_str_bytes ?_)
  refine wpAny_bind (wpAny_isInstance (typeIs_str s a t) F.sub_str_bytes ?_)
  simp only [Bool.not_false, if_true]
  exact wpAny_bind (wpAny_rule (wpAny_pure ⟨_, rfl, hq⟩))
section
variable {prog : Program} {w : World} {A : Around} {E : Value → Shared → Prop} {s : Shared} {Q : Value → Shared → Prop}
theorem eq_str_bytes {a : PySem.Str} {t : Tok} {b : Array UInt8} {u : Tok} (h : Q (.bool false) s) : wpAny (model prog w) A (compareOp .Eq (.str a t) (.bytes b u)) Q E s := by
  show wpAny _ A (richCompare .Eq _ _) Q E s
  exact EqNone.wpAny_richCompare_eq_decline (k := false) (fun s' => typeIs_str s' a t) (fun s' => typeIs_bytes s' b u) (by decide) F.sub_bytes_str F.slot_str_eq FB.slot_bytes_eq rfl
    (call_gives F.slot_str_eq (typeIs_str s a t) F.entry_str_eq (F.args_str_eq_2 _ _) (str_eq_bytes a t b u)
      ⟨rfl, call_gives FB.slot_bytes_eq (typeIs_bytes s b u) FB.entry_bytes_eq (FB.args_bytes_eq_2 _ _) (bytes_eq_str a t b u) ⟨rfl, h⟩⟩)
theorem int_eq_bytes (a : Int) (t : Tok) (b : Array UInt8) (u : Tok) : Gives (Builtin.«int.__eq__» ⟨[.int a t, .bytes b u], []⟩) (.val (Value.notImplemented)) :=
  .of_wp fun M A E s Q h => by obtain ⟨hp, g, d, tk, os⟩ := s; wp_walk; exact ⟨_, rfl, h⟩
theorem bytes_eq_int (a : Int) (t : Tok) (b : Array UInt8) (u : Tok) : Gives (Builtin.«bytes.__eq__» ⟨[.bytes b u, .int a t], []⟩) (.val (Value.notImplemented)) := by
  refine .of_wp fun M A E s Q hq => ?_
  show wpAny M A (isInstance (.int a t) (.type "bytes") >>= fun r => _) _ E s
  refine wpAny_bind (wpAny_isInstance (typeIs_int s a t) sub_int_bytes ?_)
  refine wpAny_bind (wpAny_isInstance (typeIs_int s a t) sub_int_bytes ?_)
  simp only [Bool.not_false, if_true]
  exact wpAny_bind (wpAny_rule (wpAny_pure ⟨_, rfl, hq⟩))
theorem eq_int_bytes {a : Int} {t : Tok} {b : Array UInt8} {u : Tok} (h : Q (.bool false) s) : wpAny (model prog w) A (compareOp .Eq (.int a t) (.bytes b u)) Q E s := by
  show wpAny _ A (richCompare .Eq _ _) Q E s
  exact EqNone.wpAny_richCompare_eq_decline (k := false) (fun s' => typeIs_int s' a t) (fun s' => typeIs_bytes s' b u) (by decide) F.sub_bytes_int F.slot_int_eq FB.slot_bytes_eq rfl
    (call_gives F.slot_int_eq (typeIs_int s a t) F.entry_int_eq (F.args_int_eq_2 _ _) (int_eq_bytes a t b u)
      ⟨rfl, call_gives FB.slot_bytes_eq (typeIs_bytes s b u) FB.entry_bytes_eq (FB.args_bytes_eq_2 _ _) (bytes_eq_int a t b u) ⟨rfl, h⟩⟩)
end
end Mine

-- part MTail
namespace Mine
open PySem PySem.W PySem.Spec PySem.Calls PyProof.Rows

theorem first_is (z a : Int) : (0 ≤ a ∧ first z a = a) ∨ (a < 0 ∧ first z a = z + 1 + a) := by
  unfold first
  by_cases h : 0 ≤ a
  · exact .inl ⟨h, if_pos h⟩
  · exact .inr ⟨by omega, if_neg h⟩
theorem kept_none_iff {z a k : Int} : kept z a none k = true ↔ first z a ≤ k := by simp [kept]
theorem kept_some_iff {z a c k : Int} : kept z a (some c) k = true ↔ (0 ≤ c ∧ first z a ≤ k ∧ k < first z a + c) ∨ (c < 0 ∧ first z a + c ≤ k ∧ k < first z a) := by
  unfold kept
  dsimp only
  by_cases h : 0 ≤ c
  · rw [if_pos h, decide_eq_true_eq]; omega
  · rw [if_neg h, decide_eq_true_eq]; omega
/-- the cut holds just the places asked -/
def Cut (n a : Int) (mo : Option Int) (lo hi : Int) : Prop := 0 ≤ lo ∧ lo ≤ hi ∧ ∀ k, 1 ≤ k → k ≤ n → ((lo ≤ k - 1 ∧ k - 1 < hi) ↔ kept n a mo k = true)
/-- a value with a length and with parts -/
structure Seqn (prog : Program) (w : World) (vv : Value) (z : Int) (sl : Int → Int → Tok → Value) : Prop where
  len : ∀ {A : Around} {Q E : Value → Shared → Prop} {s : Shared}, (∀ t k, Q (.int z t) { s with toks := k }) → wpAny (model prog w) A (call (.builtin "len") [vv]) Q E s
  cut : ∀ {A : Around} {Q E : Value → Shared → Prop} {s : Shared} {h₀ : Heap} {L : Addr} {m : Str → Option Value} {news : List (Addr × Obj)} {i j : Int} {ui uj : Tok} {nm : Str} {e1 e2 : PySem.Expr} {p1 p2 : Pos},
    Fr h₀ L s.heap m → News h₀ L s.heap news → (∀ h' t' k, Fr h₀ L h' m → News h₀ L h' news → Q (sl i j t') { s with heap := h', toks := k }) →
    wpAny (model prog w) A (subscriptTail (PySem.Expr.Name nm p1) (PySem.Expr.Slice (some e1) (some e2) none p2) vv (.ref s.heap.objs.size)) Q E { s with heap := s.heap.push { cls := .type "slice", data := .fields #[.int i ui, .int j uj, .none] } }
theorem same_obj {α : Type} {x : Option α} {o o' : α} {P : Prop} (h : x = some o) (k : x = some o') (f : o' = o → P) : P := f (Option.some.inj (k.symm.trans h))
section
variable {prog : Program} {w : World} {mean : ExcName → Option Value} {mg mb : Str → Option Value} {A A₀ : Around} {base g h h' h₀ : Heap} {outer : List Env} {s : Shared} {news : List (Addr × Obj)} {gf : Obj → List (Addr × Obj)} {src r L : Addr} {o o' : Obj} {m : Str → Option Value} {env : Env} {dp un : Nat} {gd : Option (List Code)} {Q E : Value → Shared → Prop}

theorem seqn_str {x : PySem.Str} {t : Tok} (hx : x.length ≤ 1000) : Seqn prog w (.str x t) x.length (fun i j t' => .str (Txt.slice x (some i) (some j)) t') where
  len h := P.len_str (by omega) (h _ _)
  cut F N h := slice_strN_ss_len (s := ⟨_, _, _, _, _⟩) F N fun h' t' k F' N' _ => h h' t' k F' N'
theorem bInts_le {l : List UInt8} (h : l.length ≤ 1000) : (KBw.bInts l.toArray).length ≤ 16777216 := by
  rw [KBw.ints_length, List.size_toArray]; omega
theorem seqn_bytes {l : List UInt8} {t : Tok} (hx : l.length ≤ 1000) : Seqn prog w (.bytes l.toArray t) l.length (fun i j t' => .bytes (KBy.picked l.toArray (some i) (some j)) t') where
  len h := len_bytes (by rw [List.size_toArray]; omega) (by simpa using h _ _)
  cut F N h := KBc.slice_K (s := ⟨_, _, _, _, _⟩) F N rfl (by constructor) (by constructor) (bInts_le hx) fun h' t' k F' N' _ => h h' t' k F' N'
theorem Fr.congr {m' : Str → Option Value} (F : Fr h₀ L h m) (e : ∀ y, m y = m' y) : Fr h₀ L h m' :=
  ⟨let ⟨o, es, ep, a, b, k, f⟩ := F.ns; ⟨o, es, ep, a, b, k, fun y => (f y).trans (e y)⟩, F.keep, F.above⟩
/-- two numbers that stand for the places asked, told from the front -/
def Mid (z a c p q : Int) : Prop := 0 ≤ p ∧ 0 ≤ q ∧ (0 ≤ c → ∀ k, 1 ≤ k → ((p < k ∧ k ≤ p + q) ↔ (first z a ≤ k ∧ k < first z a + c))) ∧ (c < 0 → ∀ k, 1 ≤ k → ((p < k + q ∧ k ≤ p) ↔ (first z a + c ≤ k ∧ k < first z a)))
theorem cut_fore {z a c p q hi : Int} (M : Mid z a c p q) (hc : ¬ c < 0) (hh : hi = p + q) : Cut z a (some c) p hi := by
  subst hh
  refine ⟨M.1, by have := M.2.1; omega, fun k h1 _ => ?_⟩
  have := M.2.2.1 (by omega) k h1
  rw [kept_some_iff]
  omega
theorem cut_back {z a c p q lo hi : Int} (M : Mid z a c p q) (hc : c < 0) (hh : hi = p) (hl : lo = if p - q < 0 then 0 else p - q) : Cut z a (some c) lo hi := by
  subst hh hl
  have hp := M.1
  have hq := M.2.1
  refine ⟨by split <;> omega, by split <;> omega, fun k h1 _ => ?_⟩
  have := M.2.2.2 hc k h1
  rw [kept_some_iff]
  split <;> omega
local macro_rules | `(tactic| walk_at "call builtin:len") => `(tactic| (k_here; k_dflt (refine Seqn.len (by assumption) ?_); intro t9 k9))
local macro_rules | `(tactic| walk_at "subscriptTail") => `(tactic| (k_here; k_dflt (refine' Seqn.cut (s := ⟨_, _, _, _, _⟩) ?a ?b ?c ?_; (case a => assumption); (case b => k_asm); (case c => k_asm)); intro h9 t9 k9 F9 N9))
set_option maxHeartbeats 4000000 in
theorem part_tail2 {oc ct cdv dV kV doc pm : Value} {od an : Option Addr} {osl : Array (Option Value)} {name qual : Str} {params : Arguments} {body : List Stmt} {scope : Scope} {vv : Value} {z a c p q : Int} {tp tq : Tok} {sl : Int → Int → Tok → Value} {P : Flow → Shared → Prop}
    (ho : (hd.heap_39 w.params).lookup 77 = some ⟨oc, od, .func (fnOf name qual params body scope dV kV doc pm an cdv ct), osl⟩)
    (S : Seqn prog w vv z sl) (B : Below A₀ base outer g) (X : (hd.heap_39 w.params).In g) (T : TopM mean mg mb g) (G : GlobM mg mb g) (F₀ : Fr g L s.heap m) (N : News g L s.heap [])
    (hv : m (Str.ofString "value") = some vv) (hs : m (Str.ofString "start") = some (.int p tp)) (hm : m (Str.ofString "many") = some (.int q tq)) (hb : m (Str.ofString "is_back") = some (.bool (decide (c < 0))))
    (M : Mid z a c p q) (hd : dp + 10 < recursionLimit) (hu : un + 120 < cLine)
    (ret : ∀ lo hi t h' tk', g.StaysIn h' → Cut z a (some c) lo hi → P (.ret (sl lo hi t)) { s with heap := h', toks := tk' }) :
    wpAny (model prog w) ((topA dp un gd outer).deeper (envOf qual scope L 77 cdv)) (execs (body.drop 7) (envOf qual scope L 77 cdv)) P E s := by
  have F : Fr g L s.heap (fun y => if y = Str.ofString "is_back" then some (.bool (decide (c < 0))) else if y = Str.ofString "many" then some (.int q tq) else if y = Str.ofString "start" then some (.int p tp) else if y = Str.ofString "value" then some vv else m y) :=
    Fr.congr F₀ fun y => by
      split
      · subst y; exact hb
      split
      · subst y; exact hm
      split
      · subst y; exact hs
      split
      · subst y; exact hv
      rfl
  clear hv hs hm hb F₀
  refine' same_obj ho ?k6 ?_; (case k6 => k_is)
  intro e
  cases e
  clear ho
  k_with_none
  w_top off
  dsimp only [List.drop]
  k_steps
  all_goals (rename Fr _ _ _ _ => F1)
  · exact ret _ _ _ _ _ F1.keep (cut_back M (by assumption) (by have := M.1; split <;> omega) (by rw [if_pos (by assumption)]))
  · exact ret _ _ _ _ _ F1.keep (cut_back M (by assumption) (by have := M.2.1; split <;> omega) (by rw [if_neg (by assumption)]))
  · exact ret _ _ _ _ _ F1.keep (cut_fore M (by assumption) (by have := M.2.1; split <;> omega))

theorem mid_out {z a c : Int} (h : a < 0) (h1 : a + z < 0) : Mid z a c 0 (if (if c < 0 then -c else c) + (a + z) > 0 then (if c < 0 then -c else c) + (a + z) else 0) := by
  have hf : first z a = z + 1 + a := if_neg (by omega)
  refine ⟨by omega, by split <;> omega, fun hc k hk => ?_, fun hc k hk => ?_⟩
  · rw [hf, if_neg (show ¬ c < 0 by omega)]
    split <;> omega
  · rw [hf]
    omega
theorem mid_in {z a c : Int} (h : a < 0) (h1 : ¬ a + z < 0) : Mid z a c (a + z) (if c < 0 then -c else c) := by
  have hf : first z a = z + 1 + a := if_neg (by omega)
  refine ⟨by omega, by split <;> omega, fun hc k hk => ?_, fun hc k hk => ?_⟩
  · rw [hf, if_neg (show ¬ c < 0 by omega)]
    omega
  · rw [hf, if_pos hc]
    omega
theorem mid_pos {z a c : Int} (h : a > 0) : Mid z a c (a - 1) (if c < 0 then -c else c) := by
  have hf : first z a = a := if_pos (by omega)
  refine ⟨by omega, by split <;> omega, fun hc k hk => ?_, fun hc k hk => ?_⟩
  · rw [hf, if_neg (show ¬ c < 0 by omega)]
    omega
  · rw [hf, if_pos hc]
    omega
theorem mid_zero {z a c : Int} (h : ¬ a < 0) (h1 : ¬ a > 0) (h2 : (if c < 0 then -c else c) > 0) : Mid z a c a ((if c < 0 then -c else c) - 1) := by
  have hf : first z a = a := if_pos (by omega)
  refine ⟨by omega, by omega, fun hc k hk => ?_, fun hc k hk => ?_⟩
  · rw [hf, if_neg (show ¬ c < 0 by omega)]
    omega
  · rw [hf]
    omega
theorem mid_none {z a c : Int} (h : ¬ a < 0) (h1 : ¬ a > 0) (h2 : ¬ (if c < 0 then -c else c) > 0) : Mid z a c a (if c < 0 then -c else c) := by
  have hf : first z a = a := if_pos (by omega)
  have hc : c = 0 := by
    split at h2 <;> omega
  subst hc
  refine ⟨by omega, by decide, fun hc k hk => ?_, fun hc k hk => ?_⟩
  · rw [hf, if_neg (by decide)]
    omega
  · omega
set_option maxHeartbeats 4000000 in
theorem part_tail {oc ct cdv dV kV doc pm : Value} {od an : Option Addr} {osl : Array (Option Value)} {name qual : Str} {params : Arguments} {body : List Stmt} {scope : Scope} {vv : Value} {z a c : Int} {ta tc : Tok} {sl : Int → Int → Tok → Value} {P : Flow → Shared → Prop}
    (ho : (hd.heap_39 w.params).lookup 77 = some ⟨oc, od, .func (fnOf name qual params body scope dV kV doc pm an cdv ct), osl⟩)
    (S : Seqn prog w vv z sl) (B : Below A₀ base outer g) (X : (hd.heap_39 w.params).In g) (T : TopM mean mg mb g) (G : GlobM mg mb g)
    (F₀ : Fr g L s.heap m) (N : News g L s.heap [])
    (hv : m (Str.ofString "value") = some vv) (hs : m (Str.ofString "start") = some (.int a ta)) (hm : m (Str.ofString "many") = some (.int c tc))
    (hd : dp + 10 < recursionLimit) (hu : un + 120 < cLine)
    (ret : ∀ lo hi t h' tk', g.StaysIn h' → Cut z a (some c) lo hi → P (.ret (sl lo hi t)) { s with heap := h', toks := tk' }) :
    wpAny (model prog w) ((topA dp un gd outer).deeper (envOf qual scope L 77 cdv)) (execs (body.drop 4) (envOf qual scope L 77 cdv)) P E s := by
  have F : Fr g L s.heap (fun y => if y = Str.ofString "many" then some (.int c tc) else if y = Str.ofString "start" then some (.int a ta) else if y = Str.ofString "value" then some vv else m y) :=
    Fr.congr F₀ fun y => by
      split
      · subst y; exact hm
      split
      · subst y; exact hs
      split
      · subst y; exact hv
      rfl
  clear hv hs hm F₀
  have end' := fun (s : Shared) (m : Str → Option Value) (p q : Int) (tp tq : Tok) F₀ N hv hs hm hb M ret => part_tail2 (A₀ := A₀) (base := base) (outer := outer) (gd := gd) (dp := dp) (un := un) (mean := mean) (mg := mg) (mb := mb) (P := P) (E := E) (L := L) (s := s) (m := m) (a := a) (c := c) (p := p) (q := q) (tp := tp) (tq := tq) ho S B X T G F₀ N hv hs hm hb M hd hu ret
  revert end'
  refine' same_obj ho ?k6 ?_; (case k6 => k_is)
  intro e
  cases e
  clear ho
  k_with_none
  w_top off
  dsimp only [List.drop]
  intro end'
  repeat' ((fail_if_success (with_reducible show wpAny _ _ (execs (PySem.Stmt.If (PySem.Expr.Name _ _) _ _ _ :: _) _) _ _ _)); first | (k_unfold; (try dsimp only)) | walk1 | (dsimp only; walk1) | (leave1; (try dsimp only)))
  all_goals (rename Fr _ _ _ _ => F1; rename News _ _ _ _ => N1)
  · exact end' ⟨_, _, _, _, _⟩ _ _ _ _ _ F1 N1 rfl rfl rfl rfl (mid_out (by assumption) (by assumption)) fun lo hi t h' tk' k C => ret lo hi t h' tk' k C
  · exact end' ⟨_, _, _, _, _⟩ _ _ _ _ _ F1 N1 rfl rfl rfl rfl (mid_in (by assumption) (by assumption)) fun lo hi t h' tk' k C => ret lo hi t h' tk' k C
  · exact end' ⟨_, _, _, _, _⟩ _ _ _ _ _ F1 N1 rfl rfl rfl rfl (mid_pos (by assumption)) fun lo hi t h' tk' k C => ret lo hi t h' tk' k C
  · exact end' ⟨_, _, _, _, _⟩ _ _ _ _ _ F1 N1 rfl rfl rfl rfl (mid_zero (by assumption) (by assumption) (by assumption)) fun lo hi t h' tk' k C => ret lo hi t h' tk' k C
  · exact end' ⟨_, _, _, _, _⟩ _ _ _ _ _ F1 N1 rfl rfl rfl rfl (mid_none (by assumption) (by assumption) (by assumption)) fun lo hi t h' tk' k C => ret lo hi t h' tk' k C
end
end Mine

-- part MMid
namespace Mine
open PySem PySem.W PySem.Spec PySem.Calls PyProof.Rows

/-- the numbers behind the value in part_of's list -/
inductive ArgsOf : List Value → Int → Option Int → Prop
  | one {v : Value} {a : Int} : Giv v a → ArgsOf [v] a none
  | two {v y : Value} {a c : Int} : Giv v a → Giv y c → ArgsOf [v, y] a (some c)
theorem Giv.lo {v : Value} {a : Int} (h : Giv v a) : -(2 ^ 63) ≤ a ∧ a < 2 ^ 63 := by
  cases h with
  | int _ _ h1 h2 => exact ⟨h1, h2⟩
  | str _ _ h1 h2 => omega
  | bytes _ _ h1 h2 => omega
theorem ArgsOf.lo {l : List Value} {a : Int} {mo : Option Int} (h : ArgsOf l a mo) : -(2 ^ 63) ≤ a ∧ a < 2 ^ 63 := by
  cases h with
  | one h => exact h.lo
  | two h _ => exact h.lo
theorem ArgsOf.len {l : List Value} {a : Int} {mo : Option Int} (h : ArgsOf l a mo) : l.length ≤ 2 := by
  cases h <;> simp
theorem Cut.none {z a lo hi : Int} (h : Cut z a (some (z + (if a < 0 then -a else a) + 1)) lo hi) (hz : 0 ≤ z) : Cut z a none lo hi := by
  refine ⟨h.1, h.2.1, fun k h1 h2 => ?_⟩
  have h3 := h.2.2 k h1 h2
  rw [kept_some_iff] at h3
  rw [h3, kept_none_iff]
  have := first_is z a
  split <;> omega
section
variable {prog : Program} {w : World} {mean : ExcName → Option Value} {mg mb : Str → Option Value} {A A₀ : Around} {base g h h' h₀ : Heap} {outer : List Env} {s : Shared} {news : List (Addr × Obj)} {gf : Obj → List (Addr × Obj)} {src r L : Addr} {o o' : Obj} {m : Str → Option Value} {env : Env} {dp un : Nat} {gd : Option (List Code)} {Q E : Value → Shared → Prop}

theorem len_lit {l : Addr} {vs : List Value} {n : Nat} (F : Fr h₀ L s.heap m) (hl : h₀.IsList l vs.toArray) (hn : vs.length = n) (hz : n ≤ 1000) (h : Q (.int (n : Int) (s.toks + 1)) { s with toks := s.toks + 1 + 1 }) :
    wpAny (model prog w) A (call (.builtin "len") [.ref l]) Q E s := len_base F hl (by omega) (by rw [hn]; exact h)
theorem item_at {value slice : Expr} {l : Addr} {vs : List Value} {k : Int} {u : Tok} {v : Value} (F : Fr h₀ L s.heap m) (hl : h₀.IsList l vs.toArray) (h0 : 0 ≤ k) (hk : k < 2 ^ 63) (hv : vs[k.toNat]? = some v) (h : Q v s)
    (hs : subscripted slice false (.ref l) (.int k u) = operate [.ref l, .int k u] (getItem (.ref l) (.int k u)) := by with_unfolding_all rfl) :
    wpAny (model prog w) A (subscriptTail value slice (.ref l) (.int k u)) Q E s := by
  have hL := stays_list F.keep hl
  exact tail_any hL.typeIs slot_list_getitem.lookup (wpAny_getItem_list hL h0 hk (x := v) (by simpa using hv) h) hs

local macro_rules | `(tactic| walk_at "call builtin:len") => `(tactic| (k_here; (with_reducible show wpAny _ _ (call (Value.builtin "len") [Value.ref _]) _ _ _); k_dflt (refine' len_lit (n := 2) ?a ?b ?c ?d ?_; (case a => k_asm); (case b => assumption); (case c => exact rfl); (case d => decide))))
local macro_rules | `(tactic| walk_at "call builtin:len") => `(tactic| (k_here; (with_reducible show wpAny _ _ (call (Value.builtin "len") [Value.ref _]) _ _ _); k_dflt (refine' len_lit (n := 3) ?a ?b ?c ?d ?_; (case a => k_asm); (case b => assumption); (case c => exact rfl); (case d => decide))))
local macro_rules | `(tactic| walk_at "subscriptTail") => `(tactic| (k_here; k_dflt (refine' item_at ?a ?b ?c ?d ?e ?_; (case a => k_asm); (case b => assumption); (case c => decide); (case d => decide); (case e => rfl))))
local macro_rules | `(tactic| walk_at "call ref") => `(tactic| (k_here; k_dflt (refine' asint_K ?k1 ?p1 ?kd ?ku ?_; (case k1 => constructor; (iterate 6 k_asm); exact rfl; exact rfl); (case p1 => assumption); (case kd => ktr_room); (case ku => ktr_units)); intro t9 h9 tk9 F9 N9; (try k_sweep)))
local macro_rules | `(tactic| walk_at "call builtin:len") => `(tactic| (k_here; k_dflt (refine Seqn.len (by assumption) ?_); intro t9 k9))
set_option maxHeartbeats 4000000 in
theorem part_mid1 {oc ct cdv dV kV doc pm : Value} {od an : Option Addr} {osl : Array (Option Value)} {name qual : Str} {params : Arguments} {body : List Stmt} {scope : Scope} {ar : Addr} {v0 v vv : Value} {z a : Int} {sl : Int → Int → Tok → Value} {P : Flow → Shared → Prop}
    (ho : (hd.heap_39 w.params).lookup 77 = some ⟨oc, od, .func (fnOf name qual params body scope dV kV doc pm an cdv ct), osl⟩)
    (S : Seqn prog w vv z sl) (B : Below A₀ base outer g) (X : (hd.heap_39 w.params).In g) (T : TopM mean mg mb g) (G : GlobM mg mb g)
    (F₀ : Fr g L s.heap m) (N : News g L s.heap [])
    (hv : m (Str.ofString "value") = some vv) (hr : m (Str.ofString "arguments") = some (.ref ar)) (hL : g.IsList ar [v0, v].toArray) (hv1 : Giv v a) (hz : 0 ≤ z)
    (hd : dp + 10 < recursionLimit) (hu : un + 120 < cLine)
    (ret : ∀ lo hi t h' tk', g.StaysIn h' → Cut z a none lo hi → P (.ret (sl lo hi t)) { s with heap := h', toks := tk' }) :
    wpAny (model prog w) ((topA dp un gd outer).deeper (envOf qual scope L 77 cdv)) (execs (body.drop 2) (envOf qual scope L 77 cdv)) P E s := by
  have F : Fr g L s.heap (fun y => if y = Str.ofString "value" then some vv else if y = Str.ofString "arguments" then some (.ref ar) else m y) :=
    Fr.congr F₀ fun y => by
      split
      · subst y; exact hv
      split
      · subst y; exact hr
      rfl
  clear hv hr F₀
  have end' := fun (s : Shared) (m : Str → Option Value) (c : Int) (ta tc : Tok) F₀ N hv hs hm ret => part_tail (A₀ := A₀) (base := base) (outer := outer) (gd := gd) (dp := dp) (un := un) (mean := mean) (mg := mg) (mb := mb) (P := P) (E := E) (L := L) (s := s) (m := m) (a := a) (c := c) (ta := ta) (tc := tc) ho S B X T G F₀ N hv hs hm hd hu ret
  revert end'
  refine' same_obj ho ?k6 ?_; (case k6 => k_is)
  intro e
  cases e
  clear ho
  k_with_none
  w_top off
  dsimp only [List.drop]
  intro end'
  repeat' ((fail_if_success (with_reducible show wpAny _ _ (execs (PySem.Stmt.Assign [PySem.Expr.Name _ _] (PySem.Expr.Compare _ _ _ _) _ :: _) _) _ _ _)); first | (k_unfold; (try dsimp only)) | walk1 | (dsimp only; walk1) | (leave1; (try dsimp only)))
  all_goals (rename Fr _ _ _ _ => F1; rename News _ _ _ _ => N1)
  exact end' ⟨_, _, _, _, _⟩ _ _ _ _ F1 N1 rfl rfl rfl fun lo hi t h' tk' k C => ret lo hi t h' tk' k (C.none hz)
set_option maxHeartbeats 4000000 in
theorem part_mid2 {oc ct cdv dV kV doc pm : Value} {od an : Option Addr} {osl : Array (Option Value)} {name qual : Str} {params : Arguments} {body : List Stmt} {scope : Scope} {ar : Addr} {v0 v y vv : Value} {z a c : Int} {sl : Int → Int → Tok → Value} {P : Flow → Shared → Prop}
    (ho : (hd.heap_39 w.params).lookup 77 = some ⟨oc, od, .func (fnOf name qual params body scope dV kV doc pm an cdv ct), osl⟩)
    (S : Seqn prog w vv z sl) (B : Below A₀ base outer g) (X : (hd.heap_39 w.params).In g) (T : TopM mean mg mb g) (G : GlobM mg mb g)
    (F₀ : Fr g L s.heap m) (N : News g L s.heap [])
    (hv : m (Str.ofString "value") = some vv) (hr : m (Str.ofString "arguments") = some (.ref ar)) (hL : g.IsList ar [v0, v, y].toArray) (hv1 : Giv v a) (hv2 : Giv y c)
    (hd : dp + 10 < recursionLimit) (hu : un + 120 < cLine)
    (ret : ∀ lo hi t h' tk', g.StaysIn h' → Cut z a (some c) lo hi → P (.ret (sl lo hi t)) { s with heap := h', toks := tk' }) :
    wpAny (model prog w) ((topA dp un gd outer).deeper (envOf qual scope L 77 cdv)) (execs (body.drop 2) (envOf qual scope L 77 cdv)) P E s := by
  have F : Fr g L s.heap (fun y => if y = Str.ofString "value" then some vv else if y = Str.ofString "arguments" then some (.ref ar) else m y) :=
    Fr.congr F₀ fun y => by
      split
      · subst y; exact hv
      split
      · subst y; exact hr
      rfl
  clear hv hr F₀
  have end' := fun (s : Shared) (m : Str → Option Value) (ta tc : Tok) F₀ N hv hs hm ret => part_tail (A₀ := A₀) (base := base) (outer := outer) (gd := gd) (dp := dp) (un := un) (mean := mean) (mg := mg) (mb := mb) (P := P) (E := E) (L := L) (s := s) (m := m) (a := a) (c := c) (ta := ta) (tc := tc) ho S B X T G F₀ N hv hs hm hd hu ret
  revert end'
  refine' same_obj ho ?k6 ?_; (case k6 => k_is)
  intro e
  cases e
  clear ho
  k_with_none
  w_top off
  dsimp only [List.drop]
  intro end'
  repeat' ((fail_if_success (with_reducible show wpAny _ _ (execs (PySem.Stmt.Assign [PySem.Expr.Name _ _] (PySem.Expr.Compare _ _ _ _) _ :: _) _) _ _ _)); first | (k_unfold; (try dsimp only)) | walk1 | (dsimp only; walk1) | (leave1; (try dsimp only)))
  all_goals (rename Fr _ _ _ _ => F1; rename News _ _ _ _ => N1)
  exact end' ⟨_, _, _, _, _⟩ _ _ _ F1 N1 rfl rfl rfl fun lo hi t h' tk' k C => ret lo hi t h' tk' k C
end
end Mine

-- part MHead
namespace Mine
open PySem PySem.W PySem.Spec PySem.Calls PyProof.Rows

section
variable {prog : Program} {w : World} {mean : ExcName → Option Value} {mg mb : Str → Option Value} {A A₀ : Around} {base g h h' h₀ : Heap} {outer : List Env} {s : Shared} {news : List (Addr × Obj)} {gf : Obj → List (Addr × Obj)} {src r L : Addr} {o o' : Obj} {m : Str → Option Value} {env : Env} {dp un : Nat} {gd : Option (List Code)} {Q E : Value → Shared → Prop}

local macro_rules | `(tactic| walk_at "compareOp Eq str bytes") => `(tactic| (k_here; with_reducible refine eq_str_bytes ?_))
local macro_rules | `(tactic| walk_at "subscriptTail") => `(tactic| (k_here; k_dflt (refine' item_at ?a ?b ?c ?d ?e ?_; (case a => k_asm); (case b => assumption); (case c => decide); (case d => decide); (case e => rfl))))
local macro_rules | `(tactic| walk_at "call ref") => `(tactic| (k_here; k_dflt (refine wpAny_call ?_; (refine' code_def ?k1 ?k2 ?k3 ?k4 ?k5 ?kA ?kF ?kK ?k6 ?k7 ?k8 ?k9 ?kB ?_ ?c2 ?c3 ?c4 ?c5; (case kA => exact rfl); (case kF => exact rfl); (case kK => exact rfl); (case k1 => k_asm); (case k2 => k_asm); (case k3 => k_asm); (case k4 => k_asm); (case k5 => k_asm); (case k6 => k_is); (case k7 => k_is); (case k8 => ktr_room); (case k9 => exact BindsTo.of_eq rfl); (case c5 => decide); (case kB => exact locs rfl); (case c2 => exact rfl); (case c3 => exact rfl); (case c4 => exact rfl); k_whole; intro g' L' h' FG' F' N' B' X' T'; (try dsimp only); (try k_lift B'); (try k_fold)))))
/-- from the number on: one or two numbers -/
theorem part_mid {oc ct cdv dV kV doc pm : Value} {od an : Option Addr} {osl : Array (Option Value)} {name qual : Str} {params : Arguments} {body : List Stmt} {scope : Scope} {ar : Addr} {v0 vv : Value} {rest : List Value} {z a : Int} {mo : Option Int} {sl : Int → Int → Tok → Value} {P : Flow → Shared → Prop}
    (ho : (hd.heap_39 w.params).lookup 77 = some ⟨oc, od, .func (fnOf name qual params body scope dV kV doc pm an cdv ct), osl⟩)
    (S : Seqn prog w vv z sl) (B : Below A₀ base outer g) (X : (hd.heap_39 w.params).In g) (T : TopM mean mg mb g) (G : GlobM mg mb g)
    (F₀ : Fr g L s.heap m) (N : News g L s.heap [])
    (hv : m (Str.ofString "value") = some vv) (hr : m (Str.ofString "arguments") = some (.ref ar)) (hL : g.IsList ar (v0 :: rest).toArray) (hA : ArgsOf rest a mo) (hz : 0 ≤ z)
    (hd : dp + 10 < recursionLimit) (hu : un + 120 < cLine)
    (ret : ∀ lo hi t h' tk', g.StaysIn h' → Cut z a mo lo hi → P (.ret (sl lo hi t)) { s with heap := h', toks := tk' }) :
    wpAny (model prog w) ((topA dp un gd outer).deeper (envOf qual scope L 77 cdv)) (execs (body.drop 2) (envOf qual scope L 77 cdv)) P E s := by
  cases hA with
  | one h1 => exact part_mid1 ho S B X T G F₀ N hv hr hL h1 hz hd hu ret
  | two h1 h2 => exact part_mid2 ho S B X T G F₀ N hv hr hL h1 h2 hd hu ret
set_option maxHeartbeats 4000000 in
theorem part_str {oc ct cdv dV kV doc pm : Value} {od an : Option Addr} {osl : Array (Option Value)} {name qual : Str} {params : Arguments} {body : List Stmt} {scope : Scope} {ar : Addr} {x : PySem.Str} {t0 : Tok} {rest : List Value} {a : Int} {mo : Option Int} {P : Flow → Shared → Prop}
    (ho : (hd.heap_39 w.params).lookup 77 = some ⟨oc, od, .func (fnOf name qual params body scope dV kV doc pm an cdv ct), osl⟩)
    (B : Below A₀ base outer g) (X : (hd.heap_39 w.params).In g) (T : TopM mean mg mb g) (G : GlobM mg mb g)
    (F₀ : Fr g L s.heap m) (N : News g L s.heap [])
    (hr : m (Str.ofString "arguments") = some (.ref ar)) (hL : g.IsList ar (Value.str x t0 :: rest).toArray) (hA : ArgsOf rest a mo) (hx : x.length ≤ 1000)
    (hd : dp + 10 < recursionLimit) (hu : un + 120 < cLine)
    (ret : ∀ lo hi t h' tk', g.StaysIn h' → Cut (x.length : Nat) a mo lo hi → P (.ret (.str (Txt.slice x (some lo) (some hi)) t)) { s with heap := h', toks := tk' }) :
    wpAny (model prog w) ((topA dp un gd outer).deeper (envOf qual scope L 77 cdv)) (execs body (envOf qual scope L 77 cdv)) P E s := by
  have F : Fr g L s.heap (fun y => if y = Str.ofString "arguments" then some (.ref ar) else m y) :=
    Fr.congr F₀ fun y => by
      split
      · subst y; exact hr
      rfl
  clear hr F₀
  have end' := fun (s : Shared) (m : Str → Option Value) t F₀ N hv hr ret => part_mid (prog := prog) (A₀ := A₀) (base := base) (outer := outer) (gd := gd) (dp := dp) (un := un) (mean := mean) (mg := mg) (mb := mb) (P := P) (E := E) (L := L) (s := s) (m := m) (a := a) ho (seqn_str (x := x) hx (t := t)) B X T G F₀ N hv hr hL hA (Int.natCast_nonneg _) hd hu ret
  revert end'
  refine' same_obj ho ?k6 ?_; (case k6 => k_is)
  intro e
  cases e
  clear ho
  k_with_none
  w_top off
  dsimp only [List.drop]
  intro end'
  repeat' ((fail_if_success (with_reducible show wpAny _ _ (execs (PySem.Stmt.Assign [PySem.Expr.Name _ _] (PySem.Expr.Call _ _ _ _) _ :: _) _) _ _ _)); first | (k_unfold; (try dsimp only)) | walk1 | (dsimp only; walk1) | (leave1; (try dsimp only)))
  all_goals (rename Fr _ _ _ _ => F1; rename News _ _ _ _ => N1)
  exact end' ⟨_, _, _, _, _⟩ _ _ F1 N1 rfl rfl fun lo hi t h' tk' k C => ret lo hi t h' tk' k C
set_option maxHeartbeats 4000000 in
theorem part_int {oc ct cdv dV kV doc pm : Value} {od an : Option Addr} {osl : Array (Option Value)} {name qual : Str} {params : Arguments} {body : List Stmt} {scope : Scope} {ar : Addr} {n : Int} {t0 : Tok} {rest : List Value} {a : Int} {mo : Option Int} {P : Flow → Shared → Prop}
    (ho : (hd.heap_39 w.params).lookup 77 = some ⟨oc, od, .func (fnOf name qual params body scope dV kV doc pm an cdv ct), osl⟩)
    (B : Below A₀ base outer g) (X : (hd.heap_39 w.params).In g) (T : TopM mean mg mb g) (G : GlobM mg mb g)
    (F₀ : Fr g L s.heap m) (N : News g L s.heap [])
    (hr : m (Str.ofString "arguments") = some (.ref ar)) (hL : g.IsList ar (Value.int n t0 :: rest).toArray) (hA : ArgsOf rest a mo) (hn1 : -(2 ^ 63) ≤ n) (hn2 : n < 2 ^ 63) (hx : (PySem.Str.ofString (toString n)).length ≤ 1000)
    (hd : dp + 10 < recursionLimit) (hu : un + 120 < cLine)
    (ret : ∀ lo hi t h' tk', g.StaysIn h' → Cut ((PySem.Str.ofString (toString n)).length : Nat) a mo lo hi → P (.ret (.str (Txt.slice (PySem.Str.ofString (toString n)) (some lo) (some hi)) t)) { s with heap := h', toks := tk' }) :
    wpAny (model prog w) ((topA dp un gd outer).deeper (envOf qual scope L 77 cdv)) (execs body (envOf qual scope L 77 cdv)) P E s := by
  have F : Fr g L s.heap (fun y => if y = Str.ofString "arguments" then some (.ref ar) else m y) :=
    Fr.congr F₀ fun y => by
      split
      · subst y; exact hr
      rfl
  clear hr F₀
  have end' := fun (s : Shared) (m : Str → Option Value) t F₀ N hv hr ret => part_mid (prog := prog) (A₀ := A₀) (base := base) (outer := outer) (gd := gd) (dp := dp) (un := un) (mean := mean) (mg := mg) (mb := mb) (P := P) (E := E) (L := L) (s := s) (m := m) (a := a) ho (seqn_str (x := PySem.Str.ofString (toString n)) hx (t := t)) B X T G F₀ N hv hr hL hA (Int.natCast_nonneg _) hd hu ret
  revert end'
  refine' same_obj ho ?k6 ?_; (case k6 => k_is)
  intro e
  cases e
  clear ho
  k_with_none
  w_top off
  dsimp only [List.drop]
  intro end'
  repeat' ((fail_if_success (with_reducible show wpAny _ _ (execs (PySem.Stmt.Assign [PySem.Expr.Name _ _] (PySem.Expr.Call _ _ _ _) _ :: _) _) _ _ _)); first | (k_unfold; (try dsimp only)) | walk1 | (dsimp only; walk1) | (leave1; (try dsimp only)))
  all_goals (rename Fr _ _ _ _ => F1; rename News _ _ _ _ => N1)
  exact end' ⟨_, _, _, _, _⟩ _ _ F1 N1 rfl rfl fun lo hi t h' tk' k C => ret lo hi t h' tk' k C
set_option maxHeartbeats 4000000 in
theorem part_bytes {oc ct cdv dV kV doc pm : Value} {od an : Option Addr} {osl : Array (Option Value)} {name qual : Str} {params : Arguments} {body : List Stmt} {scope : Scope} {ar : Addr} {l : List UInt8} {t0 : Tok} {rest : List Value} {a : Int} {mo : Option Int} {P : Flow → Shared → Prop}
    (ho : (hd.heap_39 w.params).lookup 77 = some ⟨oc, od, .func (fnOf name qual params body scope dV kV doc pm an cdv ct), osl⟩)
    (B : Below A₀ base outer g) (X : (hd.heap_39 w.params).In g) (T : TopM mean mg mb g) (G : GlobM mg mb g)
    (F₀ : Fr g L s.heap m) (N : News g L s.heap [])
    (hr : m (Str.ofString "arguments") = some (.ref ar)) (hL : g.IsList ar (Value.bytes l.toArray t0 :: rest).toArray) (hA : ArgsOf rest a mo) (hx : l.length ≤ 1000) (hp : 0 < l.length)
    (hd : dp + 10 < recursionLimit) (hu : un + 120 < cLine)
    (ret : ∀ lo hi t h' tk', g.StaysIn h' → Cut (l.length : Nat) a mo lo hi → P (.ret (.bytes (KBy.picked l.toArray (some lo) (some hi)) t)) { s with heap := h', toks := tk' }) :
    wpAny (model prog w) ((topA dp un gd outer).deeper (envOf qual scope L 77 cdv)) (execs body (envOf qual scope L 77 cdv)) P E s := by
  have F : Fr g L s.heap (fun y => if y = Str.ofString "arguments" then some (.ref ar) else m y) :=
    Fr.congr F₀ fun y => by
      split
      · subst y; exact hr
      rfl
  clear hr F₀
  have end' := fun (s : Shared) (m : Str → Option Value) t F₀ N hv hr ret => part_mid (prog := prog) (A₀ := A₀) (base := base) (outer := outer) (gd := gd) (dp := dp) (un := un) (mean := mean) (mg := mg) (mb := mb) (P := P) (E := E) (L := L) (s := s) (m := m) (a := a) ho (seqn_bytes (l := l) hx (t := t)) B X T G F₀ N hv hr hL hA (Int.natCast_nonneg _) hd hu ret
  revert end'
  refine' same_obj ho ?k6 ?_; (case k6 => k_is)
  intro e
  cases e
  clear ho
  k_with_none
  w_top off
  dsimp only [List.drop]
  intro end'
  repeat' ((fail_if_success (with_reducible show wpAny _ _ (execs (PySem.Stmt.Assign [PySem.Expr.Name _ _] (PySem.Expr.Call _ _ _ _) _ :: _) _) _ _ _)); first | (k_unfold; (try dsimp only)) | walk1 | (dsimp only; walk1) | (leave1; (try dsimp only)))
  · exact absurd (by assumption) (by cases l <;> simp at *)
  all_goals (rename Fr _ _ _ _ => F1; rename News _ _ _ _ => N1)
  exact end' ⟨_, _, _, _, _⟩ _ _ F1 N1 rfl rfl fun lo hi t h' tk' k C => ret lo hi t h' tk' k C
set_option maxHeartbeats 4000000 in
theorem part_empty {oc ct cdv dV kV doc pm : Value} {od an : Option Addr} {osl : Array (Option Value)} {name qual : Str} {params : Arguments} {body : List Stmt} {scope : Scope} {ar : Addr} {t0 : Tok} {rest : List Value} {P : Flow → Shared → Prop}
    (ho : (hd.heap_39 w.params).lookup 77 = some ⟨oc, od, .func (fnOf name qual params body scope dV kV doc pm an cdv ct), osl⟩)
    (B : Below A₀ base outer g) (X : (hd.heap_39 w.params).In g) (T : TopM mean mg mb g) (G : GlobM mg mb g)
    (F₀ : Fr g L s.heap m) (N : News g L s.heap [])
    (hr : m (Str.ofString "arguments") = some (.ref ar)) (hL : g.IsList ar (Value.bytes #[] t0 :: rest).toArray)
    (hd : dp + 10 < recursionLimit) (hu : un + 120 < cLine)
    (ret : ∀ h' tk', g.StaysIn h' → P (.ret .none) { s with heap := h', toks := tk' }) :
    wpAny (model prog w) ((topA dp un gd outer).deeper (envOf qual scope L 77 cdv)) (execs body (envOf qual scope L 77 cdv)) P E s := by
  have F : Fr g L s.heap (fun y => if y = Str.ofString "arguments" then some (.ref ar) else m y) :=
    Fr.congr F₀ fun y => by
      split
      · subst y; exact hr
      rfl
  clear hr F₀
  refine' same_obj ho ?k6 ?_; (case k6 => k_is)
  intro e
  cases e
  clear ho
  k_with_none
  w_top off
  k_steps
  rename Fr _ _ _ _ => F1
  exact ret _ _ F1.keep
end
end Mine

-- part MRight
namespace Mine
open PySem PySem.W PySem.Spec PySem.Calls PyProof.Rows

section
variable {prog : Program} {w : World} {mean : ExcName → Option Value} {mg mb : Str → Option Value} {A A₀ : Around} {base g h h' h₀ : Heap} {outer : List Env} {s : Shared} {news : List (Addr × Obj)} {gf : Obj → List (Addr × Obj)} {src r L : Addr} {o o' : Obj} {m : Str → Option Value} {env : Env} {dp un : Nat} {gd : Option (List Code)} {Q E : Value → Shared → Prop}


set_option maxHeartbeats 4000000 in
/-- part_of entered, whatever its list holds -/
theorem part_enter {ar : Addr} (C : Cx w mean mg mb (topA dp un gd outer) base outer g s.heap) (hd : dp + 10 < recursionLimit)
    (K : ∀ {oc ct cdv dV kV doc pm : Value} {od an : Option Addr} {osl : Array (Option Value)} {name qual : Str} {params : Arguments} {body : List Stmt} {scope : Scope} {P : Flow → Shared → Prop} {E' : Value → Shared → Prop} {L : Addr} {m : Str → Option Value} {h : Heap} {tk : Nat},
      (Mine.hd.heap_39 w.params).lookup 77 = some ⟨oc, od, .func (fnOf name qual params body scope dV kV doc pm an cdv ct), osl⟩ → Fr g L h m → News g L h [] → m (Str.ofString "arguments") = some (.ref ar) →
      (∀ v s', Q v s' → P (.ret v) s') → wpAny (model prog w) ((topA dp un gd outer).deeper (envOf qual scope L 77 cdv)) (execs body (envOf qual scope L 77 cdv)) P E' { s with heap := h, toks := tk }) :
    wpAny (model prog w) (topA dp un gd outer) (call (.ref 77) [.ref ar]) Q E s := by
  refine wpAny_call ?_
  k_dflt (refine' enter (news := []) C ?kN ?k6 ?k7 ?k8 ?k9 ?kB ?_ ?c2 ?c3 ?c4 ?c5; (case kN => exact List.forall_mem_nil _); (case k6 => k_is); (case k7 => k_is); (case k8 => ktr_room); (case k9 => exact BindsTo.of_eq rfl); (case c5 => decide); (case kB => exact locs rfl); (case c2 => exact rfl); (case c3 => exact rfl); (case c4 => exact rfl); k_whole)
  intro L' h' F' N' l1
  refine' K ?hoo F' N' rfl fun v s' q => q
  case hoo => k_is

theorem add_one {l b : Addr} {v : Value} {rest : List Value} {n : Nat} (F : Fr h₀ L s.heap m) (N : News h₀ L s.heap news) (hl : (l, listOf #[v] n) ∈ news) (hb : h₀.IsList b rest.toArray) (hz : rest.length ≤ 2)
    (h : ∀ q h', Fr h₀ L h' m → News h₀ L h' ((q, ({ cls := .type "list", data := .seq (v :: rest).toArray } : Obj)) :: news) → (∀ p ∈ news, p.1 < q) → Q (.ref q) { s with heap := h' }) :
    wpAny (model prog w) A (binaryOp .Add (.ref l) (.ref b)) Q E s := by
  refine add_arrays (its := #[v]) (its2 := rest.toArray) (hsz := by rw [sizeLine_eq]; simp; omega) F N ⟨_, (N _ hl).1, rfl, _, rfl⟩ (stays_list F.keep hb) fun h' F' N' => ?_
  exact h _ _ F' (by simpa using N') fun p hp => Heap.lt_size (N p hp).1

theorem part_str_K {ar : Addr} {x : PySem.Str} {t0 : Tok} {rest : List Value} {a : Int} {mo : Option Int} {n : Nat} (K : At w mean mg mb A₀ base outer h₀ L s.heap m news env)
    (hm : (ar, ({ cls := .type "list", data := .seq (Value.str x t0 :: rest).toArray n } : Obj)) ∈ news) (hx : x.length ≤ 1000) (hr : ArgsOf rest a mo) (hd : dp + 10 < recursionLimit) (hu : un + 120 < cLine)
    (ret : ∀ lo hi t h' tk', Fr h₀ L h' m → News h₀ L h' news → Cut x.length a mo lo hi → Q (.str (Txt.slice x (some lo) (some hi)) t) { s with heap := h', toks := tk' }) :
    wpAny (model prog w) (topA dp un gd (env :: outer)) (call (.ref 77) [.ref ar]) Q E s := by
  obtain ⟨B, F, X, T, G, N, hf, hke⟩ := K
  have R := ground0 (dp := dp) (un := un) (gd := gd) B F X T G N hf hke
  have hl : s.heap.IsList ar (Value.str x t0 :: rest).toArray := ⟨_, (N _ hm).1, rfl, _, rfl⟩
  exact part_enter R.C hd fun ho F' N' hm' up => part_str ho R.C.B R.C.X R.C.T R.C.G F' N' hm' hl hr hx hd hu fun lo hi t h' tk' st hc => up _ _ (ret lo hi t h' tk' (R.fr h' st) (R.news0 st) hc)
theorem part_int_K {ar : Addr} {k : Int} {t0 : Tok} {rest : List Value} {a : Int} {mo : Option Int} {n : Nat} (K : At w mean mg mb A₀ base outer h₀ L s.heap m news env)
    (hm : (ar, ({ cls := .type "list", data := .seq (Value.int k t0 :: rest).toArray n } : Obj)) ∈ news) (hn1 : -(2 ^ 63) ≤ k) (hn2 : k < 2 ^ 63) (hx : (PySem.Str.ofString (toString k)).length ≤ 1000) (hr : ArgsOf rest a mo) (hd : dp + 10 < recursionLimit) (hu : un + 120 < cLine)
    (ret : ∀ lo hi t h' tk', Fr h₀ L h' m → News h₀ L h' news → Cut (PySem.Str.ofString (toString k)).length a mo lo hi → Q (.str (Txt.slice (PySem.Str.ofString (toString k)) (some lo) (some hi)) t) { s with heap := h', toks := tk' }) :
    wpAny (model prog w) (topA dp un gd (env :: outer)) (call (.ref 77) [.ref ar]) Q E s := by
  obtain ⟨B, F, X, T, G, N, hf, hke⟩ := K
  have R := ground0 (dp := dp) (un := un) (gd := gd) B F X T G N hf hke
  have hl : s.heap.IsList ar (Value.int k t0 :: rest).toArray := ⟨_, (N _ hm).1, rfl, _, rfl⟩
  exact part_enter R.C hd fun ho F' N' hm' up => part_int ho R.C.B R.C.X R.C.T R.C.G F' N' hm' hl hr hn1 hn2 hx hd hu fun lo hi t h' tk' st hc => up _ _ (ret lo hi t h' tk' (R.fr h' st) (R.news0 st) hc)
theorem part_bytes_K {ar : Addr} {l : List UInt8} {t0 : Tok} {rest : List Value} {a : Int} {mo : Option Int} {n : Nat} (K : At w mean mg mb A₀ base outer h₀ L s.heap m news env)
    (hm : (ar, ({ cls := .type "list", data := .seq (Value.bytes l.toArray t0 :: rest).toArray n } : Obj)) ∈ news) (hx : l.length ≤ 1000) (hp : 0 < l.length) (hr : ArgsOf rest a mo) (hd : dp + 10 < recursionLimit) (hu : un + 120 < cLine)
    (ret : ∀ lo hi t h' tk', Fr h₀ L h' m → News h₀ L h' news → Cut l.length a mo lo hi → Q (.bytes (KBy.picked l.toArray (some lo) (some hi)) t) { s with heap := h', toks := tk' }) :
    wpAny (model prog w) (topA dp un gd (env :: outer)) (call (.ref 77) [.ref ar]) Q E s := by
  obtain ⟨B, F, X, T, G, N, hf, hke⟩ := K
  have R := ground0 (dp := dp) (un := un) (gd := gd) B F X T G N hf hke
  have hl : s.heap.IsList ar (Value.bytes l.toArray t0 :: rest).toArray := ⟨_, (N _ hm).1, rfl, _, rfl⟩
  exact part_enter R.C hd fun ho F' N' hm' up => part_bytes ho R.C.B R.C.X R.C.T R.C.G F' N' hm' hl hr hx hp hd hu fun lo hi t h' tk' st hc => up _ _ (ret lo hi t h' tk' (R.fr h' st) (R.news0 st) hc)
theorem part_empty_K {ar : Addr} {t0 : Tok} {rest : List Value} {n : Nat} (K : At w mean mg mb A₀ base outer h₀ L s.heap m news env)
    (hm : (ar, ({ cls := .type "list", data := .seq (Value.bytes #[] t0 :: rest).toArray n } : Obj)) ∈ news) (hd : dp + 10 < recursionLimit) (hu : un + 120 < cLine)
    (ret : ∀ h' tk', Fr h₀ L h' m → News h₀ L h' news → Q .none { s with heap := h', toks := tk' }) :
    wpAny (model prog w) (topA dp un gd (env :: outer)) (call (.ref 77) [.ref ar]) Q E s := by
  obtain ⟨B, F, X, T, G, N, hf, hke⟩ := K
  have R := ground0 (dp := dp) (un := un) (gd := gd) B F X T G N hf hke
  have hl : s.heap.IsList ar (Value.bytes #[] t0 :: rest).toArray := ⟨_, (N _ hm).1, rfl, _, rfl⟩
  exact part_enter R.C hd fun ho F' N' hm' up => part_empty ho R.C.B R.C.X R.C.T R.C.G F' N' hm' hl hd hu fun h' tk' st => up _ _ (ret h' tk' (R.fr h' st) (R.news0 st))
end
end Mine

-- part MComp
namespace Mine
open PySem PySem.W PySem.Spec PySem.Calls PyProof.Rows
section
variable {prog : Program} {w : World} {A : Around} {h₀ : Heap} {L : Addr} {m : Str → Option Value} {env : Env} {elt : Expr} {x : Str} {scope : Scope} {cl : List (Str × Addr)} {s : Shared} {S : List (Addr × Obj) → Prop} {P : Nat → Value → Prop} {Fin : List Value → List (Addr × Obj) → Prop}

/-- an end that the walk leaves as it is -/
def Held (P : Prop) : Prop := P
theorem Held.mk {P : Prop} (h : P) : Held P := h
/-- a comprehension whose turns carry a state along the ledger -/
theorem comp_st {σ : Type} {n : Nat} (nw : σ → List (Addr × Obj)) (J : σ → Prop) (Res : Nat → Value → Prop) (hS : ∀ c, S (nw c)) {c₀ : σ} (hJ : J c₀)
    (step : ∀ c i v I oI C oC D ys m₂ h tk (E' : Value → Shared → Prop), J c → i < n → P i v → LCg.NsObj oC m₂ → m₂ x = some v → Fr h₀ L h m → News h₀ L h ((I, oI) :: (C, oC) :: (D, LCg.lst ys) :: nw c) → LCg.Off3 I C D (nw c) → ((@Ne Nat I C) ∧ (@Ne Nat I D) ∧ (@Ne Nat C D)) →
      wpAny (model prog w) A (eval elt (compEnvC scope cl C env)) (fun y s₂ => Held (∃ c', J c' ∧ Res i y ∧ LCg.Off3 I C D (nw c') ∧ ∃ h' tk', s₂ = { s with heap := h', toks := tk' } ∧ Fr h₀ L h' m ∧ News h₀ L h' ((I, oI) :: (C, oC) :: (D, LCg.lst ys) :: nw c'))) E' { s with heap := h, toks := tk })
    (fin : ∀ c ys, J c → ys.length = n → (∀ i (h : i < ys.length), Res i ys[i]) → Fin ys (nw c)) : LCg.CompRest prog w A h₀ L m env elt x scope cl s S P Fin n 0 [] (nw c₀) := by
  have all : ∀ (k i : Nat) (ys : List Value) (c : σ), J c → i + k = n → ys.length = i → (∀ j (h : j < ys.length), Res j ys[j]) → LCg.CompRest prog w A h₀ L m env elt x scope cl s S P Fin k i ys (nw c) := by
    intro k
    induction k with
    | zero => intro i ys c hc hi hl hr; exact LCg.CompRest.zero (fin c ys hc (by omega) hr)
    | succ k ih =>
      intro i ys c hc hi hl hr
      refine LCg.CompRest.succ fun v I oI C oC D m₂ h tk E' hv hC hx F N off ne => ?_
      refine wpAny_mono (step c i v I oI C oC D ys m₂ h tk E' hc (by omega) hv hC hx F N off ne) (fun y s₂ hy => ?_) fun _ _ e => e
      obtain ⟨c', hc', hres, off', h', tk', rfl, F', N'⟩ := hy
      refine LCg.CompEnd.intro F' N' (nw c') (fun p hp => hp) off' (hS c') (ih (i + 1) (ys ++ [y]) c' hc' (by omega) (by simp [hl]) fun j hj => ?_)
      by_cases e : j < ys.length
      · rw [List.getElem_append_left e]; exact hr j e
      · have ej : j = ys.length := by simp at hj; omega
        subst ej
        simp only [List.getElem_append_right (Nat.le_refl _), Nat.sub_self, List.getElem_cons_zero]
        rw [hl]; exact hres
  exact all n 0 [] c₀ hJ (by omega) rfl fun j h => absurd h (Nat.not_lt_zero _)

/-- a comprehension whose turns leave the ledger as it was -/
theorem comp_all {n : Nat} {news : List (Addr × Obj)} (Res : Nat → Value → Prop) (hS : S news)
    (step : ∀ i v I oI C oC D ys m₂ h tk (E' : Value → Shared → Prop), i < n → P i v → LCg.NsObj oC m₂ → m₂ x = some v → Fr h₀ L h m → News h₀ L h ((I, oI) :: (C, oC) :: (D, LCg.lst ys) :: news) → LCg.Off3 I C D news → ((@Ne Nat I C) ∧ (@Ne Nat I D) ∧ (@Ne Nat C D)) →
      wpAny (model prog w) A (eval elt (compEnvC scope cl C env)) (fun y s₂ => Held (Res i y ∧ ∃ h' tk', s₂ = { s with heap := h', toks := tk' } ∧ Fr h₀ L h' m ∧ News h₀ L h' ((I, oI) :: (C, oC) :: (D, LCg.lst ys) :: news))) E' { s with heap := h, toks := tk })
    (fin : ∀ ys, ys.length = n → (∀ i (h : i < ys.length), Res i ys[i]) → Fin ys news) : LCg.CompRest prog w A h₀ L m env elt x scope cl s S P Fin n 0 [] news := by
  refine comp_st (σ := Unit) (nw := fun _ => news) (J := fun _ => True) (c₀ := ()) Res (fun _ => hS) trivial (fun c i v I oI C oC D ys m₂ h tk E' _ hi hv hC hx F N off ne => ?_) fun _ ys _ hl hr => fin ys hl hr
  refine wpAny_mono (step i v I oI C oC D ys m₂ h tk E' hi hv hC hx F N off ne) (fun y s₂ hy => ?_) fun _ _ e => e
  exact ⟨(), trivial, hy.1, off, hy.2⟩
end
end Mine

-- part MLaw
namespace Mine
open PySem PySem.W PySem.Spec PySem.Calls PyProof.Rows

theorem take_clip {α : Type} (l : List α) (a b : Nat) : (l.drop a).take (b - a) = (l.drop (min a l.length)).take (min b l.length - min a l.length) := by
  by_cases ha : a ≤ l.length
  · rw [Nat.min_eq_left ha]
    by_cases hb : b ≤ l.length
    · rw [Nat.min_eq_left hb]
    · rw [Nat.min_eq_right (by omega), List.take_of_length_le (by rw [List.length_drop]; omega), List.take_of_length_le (by rw [List.length_drop]; omega)]
  · rw [Nat.min_eq_right (by omega : l.length ≤ a), List.drop_of_length_le (by omega), List.drop_of_length_le (Nat.le_refl _)]
    simp
theorem min_nat {a : Int} {n : Nat} (h : 0 ≤ a) : min a (n : Int) = ((min a.toNat n : Nat) : Int) := by
  obtain ⟨k, rfl⟩ := Int.eq_ofNat_of_zero_le h
  rw [Int.toNat_natCast]
  omega
theorem slice_is {x : PySem.Str} {lo hi : Int} (h0 : 0 ≤ lo) (h1 : lo ≤ hi) : Txt.slice x (some lo) (some hi) = ⟨((x.cps.toList.drop lo.toNat).take (hi.toNat - lo.toNat)).toArray⟩ := by
  have e : Txt.slice x (some lo) (some hi) = Txt.slice x (some (min lo x.length)) (some (min hi x.length)) := by
    have k : Builtin.Str.strSliceIndices (some lo) (some hi) 1 x.length = Builtin.Str.strSliceIndices (some (min lo x.length)) (some (min hi x.length)) 1 x.length := by
      have a1 : ¬ lo < 0 := by omega
      have a2 : ¬ hi < 0 := by omega
      have a3 : ¬ min lo (x.length : Int) < 0 := by omega
      have a4 : ¬ min hi (x.length : Int) < 0 := by omega
      have a5 : (1 : Int) > 0 := by decide
      simp only [Builtin.Str.strSliceIndices, a1, a2, a3, a4, a5, if_false, if_true]
      congr 1 <;> rw [Int.min_assoc, Int.min_self]
    unfold Txt.slice
    rw [k]
  rw [e, beq_iff_eq.mp (slice_closesL (x := x) (i := min lo x.length) (j := min hi x.length) (by omega) (by omega) (by omega)), take_clip x.cps.toList lo.toNat hi.toNat]
  have el : x.cps.toList.length = x.length := by simp [PySem.Str.length]
  rw [el, min_nat h0, min_nat (Int.le_trans h0 h1), Int.toNat_natCast, Int.toNat_sub]
theorem picked_is {l : List UInt8} {lo hi : Int} (h0 : 0 ≤ lo) (h1 : lo ≤ hi) : KBy.picked l.toArray (some lo) (some hi) = ((l.drop lo.toNat).take (hi.toNat - lo.toNat)).toArray := by
  rw [KBc.picked_eq]
  have c : ∀ i : Int, 0 ≤ i → clipAt l.toArray.size i = min i.toNat l.length := fun i hi => by
    have := clipAt_cast l.toArray.size i
    rw [List.size_toArray] at this ⊢
    have n : ¬ i < 0 := by omega
    simp only [n, if_false] at this
    rw [min_nat hi] at this
    exact_mod_cast this.trans (Int.max_eq_right (Int.natCast_nonneg _))
  simp only [Option.elim]
  rw [c lo h0, c hi (by omega)]
  show ((l.drop _).take _).toArray = _
  rw [← take_clip]

/-- the places between two bounds hold what a cut holds -/
theorem pick_cut {α : Type} (d : α) : ∀ (l : List α) (c lo hi : Int), ((rangeKs c l.length).filter fun k => decide (lo + c ≤ k ∧ k < hi + c)).map (fun k => l.getD (k - c).toNat d) = (l.drop lo.toNat).take (hi.toNat - lo.toNat)
  | [], c, lo, hi => by simp [rangeKs]
  | x :: l, c, lo, hi => by
    have ih := pick_cut d l (c + 1) (lo - 1) (hi - 1)
    have e1 : lo - 1 + (c + 1) = lo + c := by omega
    have e2 : hi - 1 + (c + 1) = hi + c := by omega
    rw [e1, e2] at ih
    rw [List.length_cons, kll_cons, List.filter_cons]
    have tail : ((rangeKs (c + 1) l.length).filter fun k => decide (lo + c ≤ k ∧ k < hi + c)).map (fun k => (x :: l).getD (k - c).toNat d) = ((rangeKs (c + 1) l.length).filter fun k => decide (lo + c ≤ k ∧ k < hi + c)).map (fun k => l.getD (k - (c + 1)).toNat d) := by
      apply List.map_congr_left
      intro k hk
      have hm := mem_rangeKs (List.mem_filter.mp hk).1
      have e : (k - c).toNat = (k - (c + 1)).toNat + 1 := by omega
      rw [e]
      rfl
    by_cases hh : lo + c ≤ c ∧ c < hi + c
    · rw [if_pos (by simpa using hh), List.map_cons, tail, ih]
      have z : (c - c).toNat = 0 := by omega
      have a1 : lo.toNat = 0 := by omega
      have a2 : (lo - 1).toNat = 0 := by omega
      obtain ⟨h', e⟩ : ∃ h', hi.toNat = h' + 1 := ⟨hi.toNat - 1, by omega⟩
      have a3 : (hi - 1).toNat = h' := by omega
      rw [z, a1, a2, a3, e]
      rfl
    · rw [if_neg (by simpa using hh), tail, ih]
      by_cases h1 : lo ≤ 0
      · have a1 : lo.toNat = 0 := by omega
        have a2 : (lo - 1).toNat = 0 := by omega
        have a3 : hi.toNat = 0 := by omega
        have a4 : (hi - 1).toNat = 0 := by omega
        rw [a1, a2, a3, a4]; rfl
      · obtain ⟨k, e⟩ : ∃ k, lo.toNat = k + 1 := ⟨lo.toNat - 1, by omega⟩
        have a1 : (lo - 1).toNat = k := by omega
        rw [e, a1, List.drop_succ_cons]
        congr 1
        omega
theorem cut_is {α : Type} (d : α) {l : List α} {a lo hi : Int} {mo : Option Int} {n : Nat} (hn : l.length = n) (h : Cut n a mo lo hi) :
    ((rangeKs 1 n).filter (kept n a mo)).map (fun k => l.getD (k - 1).toNat d) = (l.drop lo.toNat).take (hi.toNat - lo.toNat) := by
  subst hn
  rw [← pick_cut d l 1 lo hi]
  congr 1
  apply List.filter_congr
  intro k hk
  have hm := mem_rangeKs hk
  have := h.2.2 k (by omega) (by omega)
  rw [Bool.eq_iff_iff, ← this, decide_eq_true_eq]
  omega
theorem join_list_signs (l : List Nat) : Txt.join (PySem.Str.ofString "") (l.map fun c => (⟨#[c]⟩ : PySem.Str)) = ⟨l.toArray⟩ := by
  have e : PySem.Str.ofString "" = ⟨#[]⟩ := by decide +kernel
  have h := join_nil_signs ⟨l.toArray⟩
  rw [e]
  unfold Txt.join
  rw [StrLaws.glued_eq_join]
  exact h
theorem sum_ones {α : Type} {f : α → Nat} : ∀ (l : List α), (∀ x ∈ l, f x = 1) → (l.map f).sum = l.length
  | [], _ => rfl
  | x :: l, h => by
    rw [List.map_cons, List.sum_cons, h x (.head _), sum_ones l fun y hy => h y (.tail _ hy), List.length_cons]; omega
theorem signs_part (x : PySem.Str) (a b : Nat) : ((signs x).drop a).take b = ((x.cps.toList.drop a).take b).map fun c => (⟨#[c]⟩ : PySem.Str) := by
  unfold signs
  rw [List.map_take, List.map_drop]
section
variable {prog : Program} {w : World} {A : Around} {E : Value → Shared → Prop} {s : Shared} {Q : Value → Shared → Prop} {h₀ : Heap} {L : Addr} {news : List (Addr × Obj)}
theorem join_part {D : Addr} {ys : List Value} {x : PySem.Str} {a b n : Nat} {t : Tok} (N : News h₀ L s.heap news) (hm : (D, listOf ys.toArray n) ∈ news) (hK : StrsAre ys (((signs x).drop a).take b)) (hx : x.length ≤ 1000)
    (h : ∀ t' k, Q (.str ⟨((x.cps.toList.drop a).take b).toArray⟩ t') { s with toks := k }) : wpAny (model prog w) A (call (.builtin "str.join") [.str (PySem.Str.ofString "") t, .ref D]) Q E s := by
  rw [signs_part] at hK
  have hl : ((x.cps.toList.drop a).take b).length ≤ 1000 := by
    have : x.cps.toList.length = x.length := by simp [PySem.Str.length]
    rw [List.length_take, List.length_drop]; omega
  refine join_listW (items := ys.toArray) (ys := ((x.cps.toList.drop a).take b).map fun c => (⟨#[c]⟩ : PySem.Str)) ⟨_, (N _ hm).1, rfl, _, rfl⟩ hK (by decide) ?_ fun t' k => ?_
  · rw [sum_ones _ (fun y hy => by obtain ⟨c, _, rfl⟩ := List.mem_map.mp hy; rfl)]
    simp only [List.length_map]
    omega
  · rw [join_list_signs]
    exact h t' k
end
theorem strs_of {ys : List Value} {n : Nat} {f : Nat → PySem.Str} (hl : ys.length = n) (h : ∀ i (hi : i < ys.length), ∃ t, ys[i] = .str (f i) t) : StrsAre ys ((List.range n).map f) := by
  subst hl
  induction ys generalizing f with
  | nil => exact .nil
  | cons y ys ih =>
    obtain ⟨t, e⟩ := h 0 (by simp)
    simp only [List.getElem_cons_zero] at e
    subst e
    rw [List.length_cons, List.range_succ_eq_map, List.map_cons, List.map_map]
    exact .cons _ _ (ih fun i hi => by
      have := h (i + 1) (by simpa using hi)
      simpa using this)
theorem ints_of {ys : List Value} {n : Nat} {f : Nat → Int} (hl : ys.length = n) (h : ∀ i (hi : i < ys.length), ∃ t, ys[i] = .int (f i) t) : IntsAre ys ((List.range n).map f) := by
  subst hl
  induction ys generalizing f with
  | nil => exact .nil
  | cons y ys ih =>
    obtain ⟨t, e⟩ := h 0 (by simp)
    simp only [List.getElem_cons_zero] at e
    subst e
    rw [List.length_cons, List.range_succ_eq_map, List.map_cons, List.map_map]
    exact .cons _ _ (ih fun i hi => by
      have := h (i + 1) (by simpa using hi)
      simpa using this)
theorem range_getD {β : Type} (F : Int → β) (l : List Int) : (List.range l.length).map (fun i => F (l.getD i 0)) = l.map F := by
  apply List.ext_getElem
  · simp
  · intro i h1 h2
    simp only [List.length_map] at h2
    simp [List.getD_eq_getElem?_getD, h2]
end Mine

-- part MRightS
namespace Mine
open PySem PySem.W PySem.Spec PySem.Calls PyProof.Rows

/-- the places kept, of a row of so many -/
abbrev plc (n : Nat) (a : Int) (mo : Option Int) : List Int := (rangeKs 1 n).filter (kept n a mo)
theorem plc_mem {n : Nat} {a k : Int} {mo : Option Int} (h : k ∈ plc n a mo) : 1 ≤ k ∧ k ≤ n := by
  have := mem_rangeKs (List.mem_filter.mp h).1
  omega
theorem plc_len (n : Nat) (a : Int) (mo : Option Int) : (plc n a mo).length ≤ n := by
  have := List.length_filter_le (kept n a mo) (rangeKs 1 n)
  rw [rangeKs_length] at this
  exact this
theorem plc_at {ys : List Value} {n i : Nat} {a : Int} {mo : Option Int} {v : Value} (hI : IntsAre ys (plc n a mo)) (h : ys.toArray[i]? = some v) : ∃ k t, v = .int k t ∧ (plc n a mo).getD i 0 = k ∧ 1 ≤ k ∧ k ≤ n := by
  obtain ⟨k, t, rfl, hk⟩ := IntsAre.at hI i v (by simpa using h)
  exact ⟨k, t, rfl, by simp [List.getD_eq_getElem?_getD, hk], plc_mem (List.mem_of_getElem? hk)⟩
theorem row_at {vs : List Value} {x : PySem.Str} {k : Int} (h : StrsAre vs (signs x)) (h1 : 1 ≤ k) (h2 : k ≤ vs.length) : ∃ t, vs[(k - 1).toNat]? = some (.str ((signs x).getD (k - 1).toNat PySem.Str.empty) t) := by
  have hl := h.length
  have hlt : (k - 1).toNat < (signs x).length := by omega
  exact StrsAre.get h (k - 1).toNat _ (by rw [List.getD_eq_getElem?_getD, List.getElem?_eq_getElem hlt]; rfl)
section
variable {prog : Program} {w : World} {mean : ExcName → Option Value} {mg mb : Str → Option Value} {A A₀ : Around} {base g h h' h₀ : Heap} {outer : List Env} {s : Shared} {news : List (Addr × Obj)} {gf : Obj → List (Addr × Obj)} {src r L : Addr} {o o' : Obj} {m : Str → Option Value} {env : Env} {dp un : Nat} {gd : Option (List Code)} {Q E : Value → Shared → Prop}

local macro_rules | `(tactic| walk_at "compareOp Eq str bytes") => `(tactic| (k_here; with_reducible refine eq_str_bytes ?_))
local macro_rules | `(tactic| walk_at "binaryOp Add ref ref") => `(tactic| (k_here; k_dflt (refine' add_one ?a ?b ?c ?d ?e ?_; (case a => k_asm); (case b => k_asm); (case c => k_mem); (case d => assumption); (case e => assumption)); intro q9 h9 F9 N9 l9; (try k_lt l9); (try k_sweep)))
local macro_rules | `(tactic| walk_at "call builtin:len") => `(tactic| (k_here; (with_reducible show wpAny _ _ (call (Value.builtin "len") [Value.ref _]) _ _ _); k_dflt (refine len_base (by k_asm) (by assumption) (by assumption) ?_)))
local macro_rules | `(tactic| walk_at "call ref") => `(tactic| (k_here; k_dflt (refine' part_str_K ?k1 ?km ?p1 ?p2 ?kd ?ku ?_; (case k1 => constructor; (iterate 6 k_asm); exact rfl; exact rfl); (case km => k_mem); (case p1 => assumption); (case p2 => assumption); (case kd => ktr_room); (case ku => ktr_units)); intro lo9 hi9 t9 h9 tk9 F9 N9 hc9; (try k_sweep)))
local macro_rules | `(tactic| walk_at "call ref") => `(tactic| (k_here; k_dflt (refine' places_K ?k1 ?p1 ?p2 ?p3 ?p4 ?p5 ?kd ?ku ?_; (case k1 => constructor; (iterate 6 k_asm); exact rfl; exact rfl); (case p1 => assumption); (case p2 => omega); (case p3 => omega); (case p4 => exact (ArgsOf.lo (by assumption)).1); (case p5 => exact (ArgsOf.lo (by assumption)).2); (case kd => ktr_room); (case ku => ktr_units)); intro r9 ys9 n9 h9 tk9 F9 N9 o9 hI9; (try simp only [LCg.Off1, and_true] at o9); (try k_sweep)))
local macro_rules | `(tactic| walk_at "exec Assign cons ListComp") => `(tactic| (k_here; k_dflt (refine LCg.Assign_ListComp_U (F₀ := by k_asm) (by rfl) (by with_unfolding_all rfl) (by with_unfolding_all rfl) (by decide) (by rfl) (by decide) (by rfl) (by rfl) (by rfl) ?_)))
local macro_rules | `(tactic| walk_at "subscriptTail") => `(tactic| (k_here; k_dflt (refine' item_at ?a ?b ?c ?d ?e ?_; (case a => k_asm); (case b => assumption); (case c => omega); (case d => omega); (case e => assumption))))
local macro_rules | `(tactic| walk_at "call builtin:str.join") => `(tactic| (k_here; k_dflt (refine' join_part ?a ?b ?c ?d ?_; (case a => k_asm); (case b => k_mem); (case c => assumption); (case d => assumption)); intro t9 k9))
set_option maxHeartbeats 4000000 in
theorem right_str {rw ag : Addr} {x : PySem.Str} {t0 t1 : Tok} {vs rest : List Value} {a : Int} {mo : Option Int} {y : Value} (C : Cx w mean mg mb (topA dp un gd outer) base outer g s.heap) (hx : x.length ≤ 1000)
    (hr : g.IsList rw vs.toArray) (hs : StrsAre vs (signs x)) (hvl : vs.length ≤ 1000) (hag : g.IsList ag rest.toArray) (har : ArgsOf rest a mo) (hal : rest.length ≤ 2) (hy : Many y mo)
    (hd : dp + 12 < recursionLimit) (hu : un + 140 < cLine)
    (ret : ∀ h' tk', g.StaysIn h' → Q (.bool true) { s with heap := h', toks := tk' }) :
    wpAny (model prog w) (topA dp un gd outer) (call (.ref 120) [.str x t0, .ref rw, .ref ag, .int a t1, y]) Q E s := by
  obtain ⟨B, X, T, G, hk, hz⟩ := id C
  k_with_none
  w_top off
  refine wpAny_call ?_
  k_dflt (refine' enterC (news := []) C ?kN ?k6 ?k7 ?k8 ?k9 ?kB ?kD ?_ ?c2 ?c3 ?c4; (case kN => exact List.forall_mem_nil _); (case k6 => k_is); (case k7 => k_is); (case k8 => ktr_room); (case k9 => exact BindsTo.of_eq rfl); (case kB => exact rfl); (case kD => decide +kernel); (case c2 => exact rfl); (case c3 => exact rfl); (case c4 => exact rfl); k_whole)
  intro L' h' tk' cells' F' N' Y' l1
  k_lt l1
  k_cells Y'
  (try simp only [List.cons_append, List.nil_append] at N')
  (try dsimp only)
  (try k_fold)
  k_steps
  have hvx : vs.length = x.length := by rw [hs.length, signs_length]
  rename IntsAre _ _ => hI
  have hI2 : IntsAre _ (plc vs.length a mo) := hI
  refine LCg.CompSrc.ledger (by rfl) (by k_asm) (by k_asm) (by k_mem) ?hsz ?_
  case hsz => rw [sizeLine_eq, List.size_toArray, hI2.length]; exact Nat.le_trans (plc_len _ _ _) (by omega)
  intro g2
  refine comp_all (Res := fun i y => ∃ t, y = .str ((fun k : Int => (signs x).getD (k - 1).toNat PySem.Str.empty) ((plc vs.length a mo).getD i 0)) t) ?hS ?step ?fin
  case hS => exact Or.inr ⟨_, by k_mem, rfl, _, rfl⟩
  case step =>
    intro i v I oI C oC D ys m₂ h tk E' hi hv hC hx2 F N off ne
    obtain ⟨k, t, rfl, hk, hk1, hk2⟩ := plc_at hI2 hv
    obtain ⟨t2, hrow⟩ := row_at hs hk1 hk2
    simp only [LCg.Off3, and_true] at off
    (try k_fold)
    k_steps
    exact Held.mk ⟨⟨_, by rw [hk]⟩, _, _, rfl, by k_asm, by k_asm⟩
  case fin =>
    intro ysK hl hres
    have hK := strs_of hl hres
    rw [List.size_toArray, hI2.length, range_getD (fun k : Int => (signs x).getD (k - 1).toNat PySem.Str.empty), cut_is PySem.Str.empty (l := signs x) (n := vs.length) hs.length.symm (by rw [hvx]; assumption)] at hK
    clear hI hI2 hl hres
    intro D h tk F N o1
    (try simp only [LCg.Off1, and_true] at o1)
    (try dsimp only)
    (try k_fold)
    k_steps
    rename Cut _ _ _ _ _ => hc
    rw [slice_is hc.1 hc.2.1, beq_self_eq_true]
    exact ret _ _ (Fr.keep (by k_asm))
end
end Mine

-- part MRightI
namespace Mine
open PySem PySem.W PySem.Spec PySem.Calls PyProof.Rows
local macro_rules | `(tactic| walk_at "pad 0") => `(tactic| skip)

section
variable {prog : Program} {w : World} {mean : ExcName → Option Value} {mg mb : Str → Option Value} {A A₀ : Around} {base g h h' h₀ : Heap} {outer : List Env} {s : Shared} {news : List (Addr × Obj)} {gf : Obj → List (Addr × Obj)} {src r L : Addr} {o o' : Obj} {m : Str → Option Value} {env : Env} {dp un : Nat} {gd : Option (List Code)} {Q E : Value → Shared → Prop}

local macro_rules | `(tactic| walk_at "compareOp Eq int bytes") => `(tactic| (k_here; with_reducible refine eq_int_bytes ?_))
local macro_rules | `(tactic| walk_at "binaryOp Add ref ref") => `(tactic| (k_here; k_dflt (refine' add_one ?a ?b ?c ?d ?e ?_; (case a => k_asm); (case b => k_asm); (case c => k_mem); (case d => assumption); (case e => assumption)); intro q9 h9 F9 N9 l9; (try k_lt l9); (try k_sweep)))
local macro_rules | `(tactic| walk_at "call builtin:len") => `(tactic| (k_here; (with_reducible show wpAny _ _ (call (Value.builtin "len") [Value.ref _]) _ _ _); k_dflt (refine len_base (by k_asm) (by assumption) (by assumption) ?_)))
local macro_rules | `(tactic| walk_at "call ref") => `(tactic| (k_here; k_dflt (refine' part_int_K ?k1 ?km ?q1 ?q2 ?p1 ?p2 ?kd ?ku ?_; (case k1 => constructor; (iterate 6 k_asm); exact rfl; exact rfl); (case km => k_mem); (case q1 => assumption); (case q2 => assumption); (case p1 => assumption); (case p2 => assumption); (case kd => ktr_room); (case ku => ktr_units)); intro lo9 hi9 t9 h9 tk9 F9 N9 hc9; (try k_sweep)))
local macro_rules | `(tactic| walk_at "call ref") => `(tactic| (k_here; k_dflt (refine' places_K ?k1 ?p1 ?p2 ?p3 ?p4 ?p5 ?kd ?ku ?_; (case k1 => constructor; (iterate 6 k_asm); exact rfl; exact rfl); (case p1 => assumption); (case p2 => omega); (case p3 => omega); (case p4 => exact (ArgsOf.lo (by assumption)).1); (case p5 => exact (ArgsOf.lo (by assumption)).2); (case kd => ktr_room); (case ku => ktr_units)); intro r9 ys9 n9 h9 tk9 F9 N9 o9 hI9; (try simp only [LCg.Off1, and_true] at o9); (try k_sweep)))
local macro_rules | `(tactic| walk_at "exec Assign cons ListComp") => `(tactic| (k_here; k_dflt (refine LCg.Assign_ListComp_U (F₀ := by k_asm) (by rfl) (by with_unfolding_all rfl) (by with_unfolding_all rfl) (by decide) (by rfl) (by decide) (by rfl) (by rfl) (by rfl) ?_)))
local macro_rules | `(tactic| walk_at "subscriptTail") => `(tactic| (k_here; k_dflt (refine' item_at ?a ?b ?c ?d ?e ?_; (case a => k_asm); (case b => assumption); (case c => omega); (case d => omega); (case e => assumption))))
local macro_rules | `(tactic| walk_at "call builtin:str.join") => `(tactic| (k_here; k_dflt (refine' join_part ?a ?b ?c ?d ?_; (case a => k_asm); (case b => k_mem); (case c => assumption); (case d => assumption)); intro t9 k9))
set_option maxHeartbeats 4000000 in
theorem right_int {rw ag : Addr} {n : Int} {t0 t1 : Tok} {vs rest : List Value} {a : Int} {mo : Option Int} {y : Value} (C : Cx w mean mg mb (topA dp un gd outer) base outer g s.heap) (hn1 : -(2 ^ 63) ≤ n) (hn2 : n < 2 ^ 63) (hx : (PySem.Str.ofString (toString n)).length ≤ 1000)
    (hr : g.IsList rw vs.toArray) (hs : StrsAre vs (signs (PySem.Str.ofString (toString n)))) (hvl : vs.length ≤ 1000) (hag : g.IsList ag rest.toArray) (har : ArgsOf rest a mo) (hal : rest.length ≤ 2) (hy : Many y mo)
    (hd : dp + 12 < recursionLimit) (hu : un + 140 < cLine)
    (ret : ∀ h' tk', g.StaysIn h' → Q (.bool true) { s with heap := h', toks := tk' }) :
    wpAny (model prog w) (topA dp un gd outer) (call (.ref 120) [.int n t0, .ref rw, .ref ag, .int a t1, y]) Q E s := by
  obtain ⟨B, X, T, G, hk, hz⟩ := id C
  k_with_none
  w_top off
  refine wpAny_call ?_
  k_dflt (refine' enterC (news := []) C ?kN ?k6 ?k7 ?k8 ?k9 ?kB ?kD ?_ ?c2 ?c3 ?c4; (case kN => exact List.forall_mem_nil _); (case k6 => k_is); (case k7 => k_is); (case k8 => ktr_room); (case k9 => exact BindsTo.of_eq rfl); (case kB => exact rfl); (case kD => decide +kernel); (case c2 => exact rfl); (case c3 => exact rfl); (case c4 => exact rfl); k_whole)
  intro L' h' tk' cells' F' N' Y' l1
  k_lt l1
  k_cells Y'
  (try simp only [List.cons_append, List.nil_append] at N')
  (try dsimp only)
  (try k_fold)
  k_steps
  have hvx : vs.length = (PySem.Str.ofString (toString n)).length := by rw [hs.length, signs_length]
  rename IntsAre _ _ => hI
  have hI2 : IntsAre _ (plc vs.length a mo) := hI
  refine LCg.CompSrc.ledger (by rfl) (by k_asm) (by k_asm) (by k_mem) ?hsz ?_
  case hsz => rw [sizeLine_eq, List.size_toArray, hI2.length]; exact Nat.le_trans (plc_len _ _ _) (by omega)
  intro g2
  refine comp_all (Res := fun i y => ∃ t, y = .str ((fun k : Int => (signs (PySem.Str.ofString (toString n))).getD (k - 1).toNat PySem.Str.empty) ((plc vs.length a mo).getD i 0)) t) ?hS ?step ?fin
  case hS => exact Or.inr ⟨_, by k_mem, rfl, _, rfl⟩
  case step =>
    intro i v I oI C oC D ys m₂ h tk E' hi hv hC hx2 F N off ne
    obtain ⟨k, t, rfl, hk, hk1, hk2⟩ := plc_at hI2 hv
    obtain ⟨t2, hrow⟩ := row_at hs hk1 hk2
    simp only [LCg.Off3, and_true] at off
    (try k_fold)
    k_steps
    exact Held.mk ⟨⟨_, by rw [hk]⟩, _, _, rfl, by k_asm, by k_asm⟩
  case fin =>
    intro ysK hl hres
    have hK := strs_of hl hres
    rw [List.size_toArray, hI2.length, range_getD (fun k : Int => (signs (PySem.Str.ofString (toString n))).getD (k - 1).toNat PySem.Str.empty), cut_is PySem.Str.empty (l := signs (PySem.Str.ofString (toString n))) (n := vs.length) hs.length.symm (by rw [hvx]; assumption)] at hK
    clear hI hI2 hl hres
    intro D h tk F N o1
    (try simp only [LCg.Off1, and_true] at o1)
    (try dsimp only)
    (try k_fold)
    k_steps
    rename Cut _ _ _ _ _ => hc
    rw [slice_is hc.1 hc.2.1, beq_self_eq_true]
    exact ret _ _ (Fr.keep (by k_asm))
end
end Mine

-- part MRightB
namespace Mine
open PySem PySem.W PySem.Spec PySem.Calls PyProof.Rows

/-- octets as ints -/
abbrev octs (l : List UInt8) : List Int := l.map fun c => (c.toNat : Int)
theorem brow_at {vs : List Value} {l : List UInt8} {k : Int} (h : IntsAre vs (octs l)) (h1 : 1 ≤ k) (h2 : k ≤ vs.length) : ∃ t, vs[(k - 1).toNat]? = some (.int ((octs l).getD (k - 1).toNat 0) t) := by
  have hlt : (k - 1).toNat < vs.length := by omega
  obtain ⟨t, e⟩ := IntsAre.int_at h (k - 1).toNat vs[(k - 1).toNat] (by simp [hlt])
  exact ⟨t, by rw [List.getElem?_eq_getElem hlt, e]⟩
theorem octs_back (l : List UInt8) : (octs l).map (fun n : Int => n.toNat.toUInt8) = l := by
  rw [List.map_map]
  conv => rhs; rw [← List.map_id l]
  apply List.map_congr_left
  intro c _
  simp
theorem octs_part (l : List UInt8) (a b : Nat) : ((octs l).drop a).take b = octs ((l.drop a).take b) := by
  show _ = List.map _ _
  rw [List.map_take, List.map_drop]
theorem octs_in {l : List UInt8} : ∀ n ∈ octs l, 0 ≤ n ∧ n < 256 := by
  intro n hn
  obtain ⟨c, _, rfl⟩ := List.mem_map.mp hn
  have := c.toNat_lt
  omega
section
variable {prog : Program} {w : World} {mean : ExcName → Option Value} {mg mb : Str → Option Value} {A A₀ : Around} {base g h h' h₀ : Heap} {outer : List Env} {s : Shared} {news : List (Addr × Obj)} {gf : Obj → List (Addr × Obj)} {src r L : Addr} {o o' : Obj} {m : Str → Option Value} {env : Env} {dp un : Nat} {gd : Option (List Code)} {Q E : Value → Shared → Prop}

local macro_rules | `(tactic| walk_at "binaryOp Add ref ref") => `(tactic| (k_here; k_dflt (refine' add_one ?a ?b ?c ?d ?e ?_; (case a => k_asm); (case b => k_asm); (case c => k_mem); (case d => assumption); (case e => assumption)); intro q9 h9 F9 N9 l9; (try k_lt l9); (try k_sweep)))
local macro_rules | `(tactic| walk_at "call builtin:len") => `(tactic| (k_here; (with_reducible show wpAny _ _ (call (Value.builtin "len") [Value.ref _]) _ _ _); k_dflt (refine len_base (by k_asm) (by assumption) (by assumption) ?_)))
local macro_rules | `(tactic| walk_at "call ref") => `(tactic| (k_here; k_dflt (refine' part_bytes_K ?k1 ?km ?p1 ?q1 ?p2 ?kd ?ku ?_; (case k1 => constructor; (iterate 6 k_asm); exact rfl; exact rfl); (case km => k_mem); (case q1 => assumption); (case p1 => assumption); (case p2 => assumption); (case kd => ktr_room); (case ku => ktr_units)); intro lo9 hi9 t9 h9 tk9 F9 N9 hc9; (try k_sweep)))
local macro_rules | `(tactic| walk_at "call ref") => `(tactic| (k_here; k_dflt (refine' places_K ?k1 ?p1 ?p2 ?p3 ?p4 ?p5 ?kd ?ku ?_; (case k1 => constructor; (iterate 6 k_asm); exact rfl; exact rfl); (case p1 => assumption); (case p2 => omega); (case p3 => omega); (case p4 => exact (ArgsOf.lo (by assumption)).1); (case p5 => exact (ArgsOf.lo (by assumption)).2); (case kd => ktr_room); (case ku => ktr_units)); intro r9 ys9 n9 h9 tk9 F9 N9 o9 hI9; (try simp only [LCg.Off1, and_true] at o9); (try k_sweep)))
local macro_rules | `(tactic| walk_at "exec Assign cons ListComp") => `(tactic| (k_here; k_dflt (refine LCg.Assign_ListComp_U (F₀ := by k_asm) (by rfl) (by with_unfolding_all rfl) (by with_unfolding_all rfl) (by decide) (by rfl) (by decide) (by rfl) (by rfl) (by rfl) ?_)))
local macro_rules | `(tactic| walk_at "subscriptTail") => `(tactic| (k_here; k_dflt (refine' item_at ?a ?b ?c ?d ?e ?_; (case a => k_asm); (case b => assumption); (case c => omega); (case d => omega); (case e => assumption))))
theorem bytes_part {D : Addr} {ys : List Value} {l : List UInt8} {a b n : Nat} (F : Fr h₀ L s.heap m) (N : News h₀ L s.heap news) (hm : (D, listOf ys.toArray n) ∈ news) (hK : IntsAre ys (((octs l).drop a).take b)) (hx : l.length ≤ 1000) (hh : A.handled = none)
    (h : ∀ h' t k, Fr h₀ L h' m → News h₀ L h' news → Q (.bytes ((l.drop a).take b).toArray t) { s with heap := h', toks := k }) : wpAny (model prog w) A (call (.type "bytes") [.ref D]) Q E s := by
  rw [octs_part] at hK
  refine bytes_K F N ⟨_, (N _ hm).1, rfl, _, rfl⟩ hK octs_in ?_ hh fun h' t k F' N' _ => ?_
  · rw [hK.length, sizeLine_eq]
    simp only [List.length_map, List.length_take, List.length_drop]
    omega
  · rw [octs_back]
    exact h h' t k F' N'
local macro_rules | `(tactic| walk_at "call type:bytes") => `(tactic| (k_here; k_dflt (refine' bytes_part ?a ?b ?c ?d ?e ?f ?_; (case a => k_asm); (case b => k_asm); (case c => k_mem); (case d => assumption); (case e => assumption); (case f => exact rfl)); intro h9 t9 k9 F9 N9; (try k_sweep)))
local macro_rules | `(tactic| walk_at "call builtin:str.join") => `(tactic| (k_here; k_dflt (refine' join_part ?a ?b ?c ?d ?_; (case a => k_asm); (case b => k_mem); (case c => assumption); (case d => assumption)); intro t9 k9))
set_option maxHeartbeats 4000000 in
theorem right_bytes {rw ag : Addr} {l : List UInt8} {t0 t1 : Tok} {vs rest : List Value} {a : Int} {mo : Option Int} {y : Value} (C : Cx w mean mg mb (topA dp un gd outer) base outer g s.heap) (hx : l.length ≤ 1000) (hp : 0 < l.length)
    (hr : g.IsList rw vs.toArray) (hs : IntsAre vs (octs l)) (hvl : vs.length ≤ 1000) (hag : g.IsList ag rest.toArray) (har : ArgsOf rest a mo) (hal : rest.length ≤ 2) (hy : Many y mo)
    (hd : dp + 12 < recursionLimit) (hu : un + 140 < cLine)
    (ret : ∀ h' tk', g.StaysIn h' → Q (.bool true) { s with heap := h', toks := tk' }) :
    wpAny (model prog w) (topA dp un gd outer) (call (.ref 120) [.bytes l.toArray t0, .ref rw, .ref ag, .int a t1, y]) Q E s := by
  obtain ⟨B, X, T, G, hk, hz⟩ := id C
  k_with_none
  w_top off
  refine wpAny_call ?_
  k_dflt (refine' enterC (news := []) C ?kN ?k6 ?k7 ?k8 ?k9 ?kB ?kD ?_ ?c2 ?c3 ?c4; (case kN => exact List.forall_mem_nil _); (case k6 => k_is); (case k7 => k_is); (case k8 => ktr_room); (case k9 => exact BindsTo.of_eq rfl); (case kB => exact rfl); (case kD => decide +kernel); (case c2 => exact rfl); (case c3 => exact rfl); (case c4 => exact rfl); k_whole)
  intro L' h' tk' cells' F' N' Y' l1
  k_lt l1
  k_cells Y'
  (try simp only [List.cons_append, List.nil_append] at N')
  (try dsimp only)
  (try k_fold)
  k_steps
  · exact absurd (by assumption) (by cases l <;> simp at *)
  have hvx : vs.length = l.length := by rw [hs.length, List.length_map]
  rename IntsAre _ (List.filter _ _) => hI
  have hI2 : IntsAre _ (plc vs.length a mo) := hI
  refine LCg.CompSrc.ledger (by rfl) (by k_asm) (by k_asm) (by k_mem) ?hsz ?_
  case hsz => rw [sizeLine_eq, List.size_toArray, hI2.length]; exact Nat.le_trans (plc_len _ _ _) (by omega)
  intro g2
  refine comp_all (Res := fun i y => ∃ t, y = .int ((fun k : Int => (octs l).getD (k - 1).toNat 0) ((plc vs.length a mo).getD i 0)) t) ?hS ?step ?fin
  case hS => exact Or.inr ⟨_, by k_mem, rfl, _, rfl⟩
  case step =>
    intro i v I oI C oC D ys m₂ h tk E' hi hv hC hx2 F N off ne
    obtain ⟨k, t, rfl, hk, hk1, hk2⟩ := plc_at hI2 hv
    obtain ⟨t2, hrow⟩ := brow_at hs hk1 hk2
    simp only [LCg.Off3, and_true] at off
    (try k_fold)
    k_steps
    exact Held.mk ⟨⟨_, by rw [hk]⟩, _, _, rfl, by k_asm, by k_asm⟩
  case fin =>
    intro ysK hl hres
    have hK := ints_of hl hres
    rw [List.size_toArray, hI2.length, range_getD (fun k : Int => (octs l).getD (k - 1).toNat 0), cut_is (0 : Int) (l := octs l) (n := vs.length) hs.length.symm (by rw [hvx]; assumption)] at hK
    clear hI hI2 hl hres
    intro D h tk F N o1
    (try simp only [LCg.Off1, and_true] at o1)
    (try dsimp only)
    (try k_fold)
    k_steps
    rename Cut _ _ _ _ _ => hc
    rw [picked_is hc.1 hc.2.1]
    show Q (Value.bool (_ == _)) _
    rw [beq_self_eq_true]
    exact ret _ _ (Fr.keep (by k_asm))

local macro_rules | `(tactic| walk_at "call ref") => `(tactic| (k_here; k_dflt (refine' part_empty_K ?k1 ?km ?kd ?ku ?_; (case k1 => constructor; (iterate 6 k_asm); exact rfl; exact rfl); (case km => k_mem); (case kd => ktr_room); (case ku => ktr_units)); intro h9 tk9 F9 N9; (try k_sweep)))
set_option maxHeartbeats 4000000 in
theorem right_empty {rw ag : Addr} {t0 t1 : Tok} {rest : List Value} {a : Int} {y : Value} (C : Cx w mean mg mb (topA dp un gd outer) base outer g s.heap)
    (hag : g.IsList ag rest.toArray) (hal : rest.length ≤ 2)
    (hd : dp + 12 < recursionLimit) (hu : un + 140 < cLine)
    (ret : ∀ h' tk', g.StaysIn h' → Q (.bool true) { s with heap := h', toks := tk' }) :
    wpAny (model prog w) (topA dp un gd outer) (call (.ref 120) [.bytes #[] t0, .ref rw, .ref ag, .int a t1, y]) Q E s := by
  obtain ⟨B, X, T, G, hk, hz⟩ := id C
  k_with_none
  w_top off
  refine wpAny_call ?_
  k_dflt (refine' enterC (news := []) C ?kN ?k6 ?k7 ?k8 ?k9 ?kB ?kD ?_ ?c2 ?c3 ?c4; (case kN => exact List.forall_mem_nil _); (case k6 => k_is); (case k7 => k_is); (case k8 => ktr_room); (case k9 => exact BindsTo.of_eq rfl); (case kB => exact rfl); (case kD => decide +kernel); (case c2 => exact rfl); (case c3 => exact rfl); (case c4 => exact rfl); k_whole)
  intro L' h' tk' cells' F' N' Y' l1
  k_lt l1
  k_cells Y'
  (try simp only [List.cons_append, List.nil_append] at N')
  (try dsimp only)
  (try k_fold)
  k_steps
  exact ret _ _ (Fr.keep (by k_asm))
end
end Mine

-- part MRightK
namespace Mine
open PySem PySem.W PySem.Spec PySem.Calls PyProof.Rows

/-- a value beside its signs or octets in a row -/
inductive Val : Value → List Value → Prop
  | str (x : PySem.Str) (t : Tok) (vs : List Value) : x.length ≤ 1000 → StrsAre vs (signs x) → Val (.str x t) vs
  | int (n : Int) (t : Tok) (vs : List Value) : -(2 ^ 63) ≤ n → n < 2 ^ 63 → (PySem.Str.ofString (toString n)).length ≤ 1000 → StrsAre vs (signs (PySem.Str.ofString (toString n))) → Val (.int n t) vs
  | bytes (l : List UInt8) (t : Tok) (vs : List Value) : l.length ≤ 1000 → IntsAre vs (octs l) → Val (.bytes l.toArray t) vs
section
variable {prog : Program} {w : World} {mean : ExcName → Option Value} {mg mb : Str → Option Value} {A A₀ : Around} {base g h h' h₀ : Heap} {outer : List Env} {s : Shared} {news : List (Addr × Obj)} {gf : Obj → List (Addr × Obj)} {src r L : Addr} {o o' : Obj} {m : Str → Option Value} {env : Env} {dp un : Nat} {gd : Option (List Code)} {Q E : Value → Shared → Prop}

theorem right_spec {rw ag : Addr} {v : Value} {t1 : Tok} {vs rest : List Value} {a : Int} {mo : Option Int} {y : Value} (C : Cx w mean mg mb (topA dp un gd outer) base outer g s.heap)
    (hr : g.IsList rw vs.toArray) (hv : Val v vs) (hag : g.IsList ag rest.toArray) (har : ArgsOf rest a mo) (hy : Many y mo)
    (hd : dp + 12 < recursionLimit) (hu : un + 140 < cLine)
    (ret : ∀ h' tk', g.StaysIn h' → Q (.bool true) { s with heap := h', toks := tk' }) :
    wpAny (model prog w) (topA dp un gd outer) (call (.ref 120) [v, .ref rw, .ref ag, .int a t1, y]) Q E s := by
  cases hv with
  | str x t _ h1 h2 => exact right_str C h1 hr h2 (by rw [h2.length, signs_length]; exact h1) hag har har.len hy hd hu ret
  | int n t _ h1 h2 h3 h4 => exact right_int C h1 h2 h3 hr h4 (by rw [h4.length, signs_length]; exact h3) hag har har.len hy hd hu ret
  | bytes l t _ h1 h2 =>
    cases l with
    | nil => exact right_empty C hag har.len hd hu ret
    | cons c l => exact right_bytes C h1 (by simp) hr h2 (by rw [h2.length, List.length_map]; exact h1) hag har har.len hy hd hu ret
theorem right_K {rw ag : Addr} {v : Value} {t1 : Tok} {vs rest : List Value} {a : Int} {mo : Option Int} {y : Value} {n k : Nat} {its : Array Value} (K : At w mean mg mb A₀ base outer h₀ L s.heap m news env)
    (hm1 : (rw, listOf vs.toArray n) ∈ news) (hm2 : (ag, listOf its k) ∈ news) (hits : its = rest.toArray) (hv : Val v vs) (har : ArgsOf rest a mo) (hy : Many y mo) (hd : dp + 12 < recursionLimit) (hu : un + 140 < cLine)
    (ret : ∀ h' tk', Fr h₀ L h' m → News h₀ L h' news → Q (.bool true) { s with heap := h', toks := tk' }) :
    wpAny (model prog w) (topA dp un gd (env :: outer)) (call (.ref 120) [v, .ref rw, .ref ag, .int a t1, y]) Q E s := by
  obtain ⟨B, F, X, T, G, N, hf, hke⟩ := K
  have R := ground0 (dp := dp) (un := un) (gd := gd) B F X T G N hf hke
  subst hits
  exact right_spec R.C ⟨_, (N _ hm1).1, rfl, _, rfl⟩ hv ⟨_, (N _ hm2).1, rfl, _, rfl⟩ har hy hd hu fun h' tk' st => ret h' tk' (R.fr h' st) (R.news0 st)
end
end Mine

-- part MIter
namespace Mine
open PySem PySem.W PySem.Spec PySem.Calls PyProof.Rows
section
variable {prog : Program} {w : World} {A : Around} {E : Value → Shared → Prop} {s : Shared} {h₀ : Heap} {L : Addr} {m : Str → Option Value} {env : Env} {elt iter : Expr} {x : Str} {px : Pos} {scope : Scope} {cl : List (Str × Addr)} {pos : Pos} {Q : Value → Shared → Prop}

/-- the block of a comprehension over a fresh iterator -/
theorem comp_over {s₁ : Shared} {o : Obj} {n : Nat} {P : Nat → Value → Prop} {St : Nat → Heap → Prop} {news : List (Addr × Obj)} (W : Walks prog w A s₁.heap.objs.size [s₁.heap.objs.size] [s₁.heap.objs.size] n P St) (hsz : n ≤ sizeLine)
    (hIo : ∀ i h, St i h → ∃ o, h.get? s₁.heap.objs.size = some o) (hSt : ∀ i (h h' : Heap) o, St i h → h.get? s₁.heap.objs.size = some o → h'.get? s₁.heap.objs.size = some o → St i h')
    (hcell : ∀ y ∈ scope.names, y.2 ≠ .cell) (hkind : scope.kind = .function) (hx : scope.names.lookup x = some .local) (hst : St 0 (s₁.heap.push o)) (F : Fr h₀ L s₁.heap m) (N : News h₀ L s₁.heap news)
    (R : LCg.CompRest prog w A h₀ L m env elt x scope cl { s₁ with heap := s₁.heap.push o } (fun _ => True) P (LCg.FinE h₀ L m { s₁ with heap := s₁.heap.push o } Q) n 0 [] news) :
    wpAny (model prog w) A (newList []) (fun acc s₃ => wpAny (model prog w) A (newFunctionEnv scope env.globals cl [] env.qual none .none (some env)) (fun cenv s₄ =>
      codeAny (model prog w) A (.compStart (.ListComp elt [⟨.Name x px, iter, [], 0⟩] scope pos) 0 (.ref s₁.heap.objs.size) acc { cenv with scope := relabel scope env })
        (compPost (model prog w) A E none Q acc cenv.locals) s₄) E s₃) E { s₁ with heap := s₁.heap.push o } := by
  refine LCg.block_U (RR := fun acc C => compPost (model prog w) A E none Q acc C) W hsz hIo (fun i h h' o nw st e e' _ _ _ => hSt i h h' o st e e') hcell hkind hx hst (fun b hb => ?_)
    (F.keeps fun _ _ e => Heap.get?_push_of_some _ e) (N.grown fun _ _ e => Heap.get?_push_of_some _ e) (Nat.ne_of_lt F.ns.lt) (next_is_new F) (fun p hp => Nat.ne_of_lt (Heap.lt_size (N p hp).1)) trivial R ?_
  · rw [List.mem_singleton.mp hb]
    show s₁.heap.objs.size < (s₁.heap.push _).objs.size
    rw [Heap.size_push]; exact Nat.lt_succ_self _
  · intro D C h tk m' ys news' F' N' o1 hn hC₀ hD₀ hCL hDL hCD offC fin
    refine ⟨m', hn, fun h'' hs'' => fin D h'' tk (F'.change hs'' hCL hC₀) (fun p hp => ?_) o1⟩
    refine ⟨hs''.extBut _ _ ?_ (N' p hp).1, (N' p hp).2⟩
    rcases List.mem_cons.mp hp with rfl | hp
    · exact Ne.symm hCD
    · exact offC p hp
theorem comp_bytes (_F₀ : Fr h₀ L s.heap m) (hclos : closureFor scope env = pure cl) (hcell : ∀ y ∈ scope.names, y.2 ≠ .cell) (hkind : scope.kind = .function)
    (hnames : ∀ y ∈ scope.names, y.2 = .local → scope.names.lookup y.1 = some .local) (hx : scope.names.lookup x = some .local)
    (h : wpAny (model prog w) A (eval iter env) (fun xv s₁ => Held (∃ b t news, xv = .bytes b t ∧ A.handled = none ∧ Fr h₀ L s₁.heap m ∧ News h₀ L s₁.heap news ∧ b.size ≤ 1000 ∧
      ∀ g, LCg.CompRest prog w A h₀ L m env elt x scope cl { s₁ with heap := g } (fun _ => True) (fun i v => ∃ c u, b[i]? = some c ∧ v = .int (c.toNat : Int) u) (LCg.FinE h₀ L m { s₁ with heap := g } Q) b.size 0 [] news)) E s)
    (hs : ∀ x, foldedSetIterable iter env x = pure x := by intro _; rfl) :
    wpAny (model prog w) A (eval (.ListComp elt [⟨.Name x px, iter, [], 0⟩] scope pos) env) Q E s := by
  rw [eval_ListComp]
  refine wpAny_comprehension_free (use := none) rfl hs hclos hkind hnames (wpAny_mono h (fun xv s₁ h₁ => ?_) fun _ _ e => e)
  obtain ⟨b, t, news, rfl, hh, F, N, hsz, R⟩ := h₁
  refine KBw.pyIter_bytes ?_
  exact comp_over (KBw.walks hh _ b t) (by rw [sizeLine_eq]; omega) (fun i h st => by obtain ⟨o, e, _⟩ := st; exact ⟨o, e⟩)
    (fun i h h' o st e e' => by obtain ⟨o', q, r⟩ := st; rw [e] at q; cases q; exact ⟨o, e', r⟩) hcell hkind hx ⟨_, Heap.get?_push_size _ rfl, rfl, rfl⟩ F N (R _)
theorem comp_text (_F₀ : Fr h₀ L s.heap m) (hclos : closureFor scope env = pure cl) (hcell : ∀ y ∈ scope.names, y.2 ≠ .cell) (hkind : scope.kind = .function)
    (hnames : ∀ y ∈ scope.names, y.2 = .local → scope.names.lookup y.1 = some .local) (hx : scope.names.lookup x = some .local)
    (h : wpAny (model prog w) A (eval iter env) (fun xv s₁ => Held (∃ y t news, xv = .str y t ∧ A.handled = none ∧ Fr h₀ L s₁.heap m ∧ News h₀ L s₁.heap news ∧ y.length ≤ 1000 ∧
      ∀ g, LCg.CompRest prog w A h₀ L m env elt x scope cl { s₁ with heap := g } (fun _ => True) (SignAt y) (LCg.FinE h₀ L m { s₁ with heap := g } Q) y.cps.size 0 [] news)) E s)
    (hs : ∀ x, foldedSetIterable iter env x = pure x := by intro _; rfl) :
    wpAny (model prog w) A (eval (.ListComp elt [⟨.Name x px, iter, [], 0⟩] scope pos) env) Q E s := by
  rw [eval_ListComp]
  refine wpAny_comprehension_free (use := none) rfl hs hclos hkind hnames (wpAny_mono h (fun xv s₁ h₁ => ?_) fun _ _ e => e)
  obtain ⟨y, t, news, rfl, hh, F, N, hsz, R⟩ := h₁
  have hz : y.cps.size ≤ sizeLine := by rw [sizeLine_eq]; have : y.cps.size = y.length := rfl; omega
  cases ha : y.cps.all (· < 128)
  · refine wpAny_pyIter_wide ha ?_
    exact comp_over (Walks.strWide hh _ y t) hz (fun i h st => by obtain ⟨o, e, _⟩ := st; exact ⟨o, e⟩)
      (fun i h h' o st e e' => by obtain ⟨o', q, r⟩ := st; rw [e] at q; cases q; exact ⟨o, e', r⟩) hcell hkind hx ⟨_, Heap.get?_push_size _ rfl, rfl, rfl⟩ F N (R _)
  · refine wpAny_pyIter_ascii ha ?_
    exact comp_over (Walks.strAscii hh _ y t) hz (fun i h st => by obtain ⟨o, e, _⟩ := st; exact ⟨o, e⟩)
      (fun i h h' o st e e' => by obtain ⟨o', q, r⟩ := st; rw [e] at q; cases q; exact ⟨o, e', r⟩) hcell hkind hx ⟨_, Heap.get?_push_size _ rfl, rfl, rfl⟩ F N (R _)
end

theorem UpdF.self {d : Addr} {o : Obj} {l : List (Addr × Obj)} {gf : Obj → List (Addr × Obj)} (U : UpdF d o l gf) : l = gf o := by
  obtain ⟨pre, post, rfl, hg, _⟩ := U.split
  rw [hg]
theorem UpdF.off {d : Addr} {o : Obj} {l : List (Addr × Obj)} {gf : Obj → List (Addr × Obj)} (U : UpdF d o l gf) {I C D : Addr} {o1 o2 : Obj} (h : LCg.Off3 I C D (gf o1)) : LCg.Off3 I C D (gf o2) := by
  obtain ⟨pre, post, rfl, hg, _⟩ := U.split
  rw [hg] at h ⊢
  have hm := LCg.Off3.mem h
  refine LCg.Off3.of fun p hp => ?_
  rcases List.mem_append.mp hp with hp | hp
  · exact hm p (List.mem_append_left _ hp)
  · rcases List.mem_cons.mp hp with rfl | hp
    · exact hm (d, o1) (List.mem_append_right _ (.head _))
    · exact hm p (List.mem_append_right _ (.tail _ hp))
section
variable {prog : Program} {w : World} {A : Around} {h₀ : Heap} {L : Addr} {m : Str → Option Value} {env : Env} {elt : Expr} {x : Str} {scope : Scope} {cl : List (Str × Addr)} {s : Shared} {S : List (Addr × Obj) → Prop} {P : Nat → Value → Prop} {Fin : List Value → List (Addr × Obj) → Prop}
/-- a comprehension whose turns draw from the source -/
theorem comp_src {n : Nat} {src : Addr} {a b : Int} {ta tb : Tok} {k : Nat} {news : List (Addr × Obj)} {gf : Obj → List (Addr × Obj)} (U : UpdF src (listOf #[.int a ta, .int b tb] k) news gf) (ha : 0 ≤ a) (hb : 0 ≤ b) (Res : Nat → Value → Prop) (hS : ∀ l, S l)
    (step : ∀ (a b : Int) (ta tb : Tok) (k i : Nat) v I oI C oC D ys m₂ h tk (E' : Value → Shared → Prop), 0 ≤ a → 0 ≤ b → i < n → P i v → LCg.NsObj oC m₂ → m₂ x = some v → Fr h₀ L h m → News h₀ L h ((I, oI) :: (C, oC) :: (D, LCg.lst ys) :: gf (listOf #[.int a ta, .int b tb] k)) → LCg.Off3 I C D (gf (listOf #[.int a ta, .int b tb] k)) → ((@Ne Nat I C) ∧ (@Ne Nat I D) ∧ (@Ne Nat C D)) →
      wpAny (model prog w) A (eval elt (compEnvC scope cl C env)) (fun y s₂ => Held (∃ (a' b' : Int) (ta' tb' : Tok) (k' : Nat), 0 ≤ a' ∧ 0 ≤ b' ∧ Res i y ∧ ∃ h' tk', s₂ = { s with heap := h', toks := tk' } ∧ Fr h₀ L h' m ∧ News h₀ L h' ((I, oI) :: (C, oC) :: (D, LCg.lst ys) :: gf (listOf #[.int a' ta', .int b' tb'] k')))) E' { s with heap := h, toks := tk })
    (fin : ∀ (a b : Int) (ta tb : Tok) (k : Nat) ys, 0 ≤ a → 0 ≤ b → ys.length = n → (∀ i (h : i < ys.length), Res i ys[i]) → Fin ys (gf (listOf #[.int a ta, .int b tb] k))) : LCg.CompRest prog w A h₀ L m env elt x scope cl s S P Fin n 0 [] news := by
  rw [UpdF.self U]
  refine comp_st (σ := Int × Int × Tok × Tok × Nat) (nw := fun c => gf (listOf #[.int c.1 c.2.2.1, .int c.2.1 c.2.2.2.1] c.2.2.2.2)) (J := fun c => 0 ≤ c.1 ∧ 0 ≤ c.2.1) (c₀ := (a, b, ta, tb, k)) Res (fun _ => hS _) ⟨ha, hb⟩ ?_ ?_
  · rintro ⟨a, b, ta, tb, k⟩ i v I oI C oC D ys m₂ h tk E' ⟨h1, h2⟩ hi hv hC hx F N off ne
    refine wpAny_mono (step a b ta tb k i v I oI C oC D ys m₂ h tk E' h1 h2 hi hv hC hx F N off ne) (fun y s₂ hy => ?_) fun _ _ e => e
    obtain ⟨a', b', ta', tb', k', h1', h2', hr, h', tk', e, F', N'⟩ := hy
    exact ⟨(a', b', ta', tb', k'), ⟨h1', h2'⟩, hr, UpdF.off U off, h', tk', e, F', N'⟩
  · rintro ⟨a, b, ta, tb, k⟩ ys ⟨h1, h2⟩ hl hr
    exact fin a b ta tb k ys h1 h2 hl hr
end
end Mine

-- part MVal0
namespace Mine
open PySem PySem.W PySem.Spec PySem.Calls PyProof.Rows
theorem Held.out {P : Prop} (h : Held P) : P := h
theorem signs_exist {ys : List Value} (h : ∀ i (hi : i < ys.length), ∃ c t, ys[i] = .str ⟨#[c]⟩ t) : ∃ cs : List Nat, cs.length = ys.length ∧ StrsAre ys (cs.map fun c => (⟨#[c]⟩ : PySem.Str)) := by
  induction ys with
  | nil => exact ⟨[], rfl, .nil⟩
  | cons y ys ih =>
    obtain ⟨c, t, e⟩ := h 0 (by simp)
    simp only [List.getElem_cons_zero] at e
    subst e
    obtain ⟨cs, h1, h2⟩ := ih fun i hi => by
      have := h (i + 1) (by simpa using hi)
      simpa using this
    exact ⟨c :: cs, by simp [h1], .cons _ _ h2⟩
theorem signs_all {ys : List Value} {y : PySem.Str} (hl : ys.length = y.cps.size) (h : ∀ i (hi : i < ys.length), SignAt y i ys[i]) : StrsAre ys (signs y) := by
  have := strs_of (f := fun i => (signs y).getD i PySem.Str.empty) hl fun i hi => by
    obtain ⟨c, u, h1, h2⟩ := h i hi
    exact ⟨u, by rw [h2, signs_getD (by show i < y.cps.size; omega)]; simp [h1]⟩
  have e : (List.range y.cps.size).map (fun i => (signs y).getD i PySem.Str.empty) = signs y := by
    apply List.ext_getElem
    · simp [signs]
    · intro i h1 h2
      simp only [List.length_map, List.length_range] at h1
      simp [List.getD_eq_getElem?_getD, h2]
  rwa [e] at this
theorem octs_all {ys : List Value} {l : List UInt8} (hl : ys.length = l.toArray.size) (h : ∀ i (hi : i < ys.length), ∃ c u, l.toArray[i]? = some c ∧ ys[i] = .int (c.toNat : Int) u) : IntsAre ys (octs l) := by
  rw [List.size_toArray] at hl
  have := ints_of (f := fun i => (octs l).getD i 0) hl fun i hi => by
    obtain ⟨c, u, h1, h2⟩ := h i hi
    refine ⟨u, ?_⟩
    rw [h2]
    have h1' : l[i]? = some c := by simpa using h1
    simp [List.getD_eq_getElem?_getD, h1']
  have e : (List.range l.length).map (fun i => (octs l).getD i 0) = octs l := by
    apply List.ext_getElem
    · simp
    · intro i h1 h2
      simp only [List.length_map, List.length_range] at h1
      simp [List.getD_eq_getElem?_getD, h1]
  rwa [e] at this
theorem signs6 {v : Value} {t1 t2 t3 t4 t5 t6 : Tok} (h : v ∈ [Value.str (PySem.Str.ofString "a") t1, Value.str (PySem.Str.ofString "b") t2, Value.str (PySem.Str.ofString "c") t3, Value.str (PySem.Str.ofString "\x00") t4, Value.str (PySem.Str.ofString "é") t5, Value.str { cps := #[Int.toNat 128512] } t6]) : ∃ c t, v = .str ⟨#[c]⟩ t := by
  simp only [List.mem_cons, List.not_mem_nil, or_false] at h
  rcases h with rfl | rfl | rfl | rfl | rfl | rfl
  · exact ⟨97, t1, by rw [show PySem.Str.ofString "a" = ⟨#[97]⟩ from by decide +kernel]⟩
  · exact ⟨98, t2, by rw [show PySem.Str.ofString "b" = ⟨#[98]⟩ from by decide +kernel]⟩
  · exact ⟨99, t3, by rw [show PySem.Str.ofString "c" = ⟨#[99]⟩ from by decide +kernel]⟩
  · exact ⟨0, t4, by rw [show PySem.Str.ofString "\x00" = ⟨#[0]⟩ from by decide +kernel]⟩
  · exact ⟨233, t5, by rw [show PySem.Str.ofString "é" = ⟨#[233]⟩ from by decide +kernel]⟩
  · exact ⟨128512, t6, rfl⟩
theorem menu_val {v : Value} {t1 t2 t3 t4 t5 : Tok} (h : v ∈ [Value.int 0 t1, Value.int (-7) t2, Value.int 12345 t3, Value.int (2 ^ Int.toNat 63 - 1) t4, Value.int (-2 ^ Int.toNat 63) t5]) : ∃ n t, v = .int n t ∧ -(2 ^ 63) ≤ n ∧ n < 2 ^ 63 ∧ (PySem.Str.ofString (toString n)).length ≤ 1000 := by
  simp only [List.mem_cons, List.not_mem_nil, or_false] at h
  rcases h with rfl | rfl | rfl | rfl | rfl <;> exact ⟨_, _, rfl, by decide, by decide, by decide +kernel⟩
section
variable {prog : Program} {w : World} {mean : ExcName → Option Value} {mg mb : Str → Option Value} {A A₀ : Around} {base g h h' h₀ : Heap} {outer : List Env} {s : Shared} {news : List (Addr × Obj)} {gf : Obj → List (Addr × Obj)} {src r L : Addr} {o o' : Obj} {m : Str → Option Value} {env : Env} {dp un : Nat} {gd : Option (List Code)} {Q E : Value → Shared → Prop}
theorem join_sig {D : Addr} {ys : List Value} {cs : List Nat} {n : Nat} {t : Tok} (N : News h₀ L s.heap news) (hm : (D, listOf ys.toArray n) ∈ news) (hK : StrsAre ys (cs.map fun c => (⟨#[c]⟩ : PySem.Str))) (hx : cs.length ≤ 1000)
    (h : ∀ t' k, Q (.str ⟨cs.toArray⟩ t') { s with toks := k }) : wpAny (model prog w) A (call (.builtin "str.join") [.str (PySem.Str.ofString "") t, .ref D]) Q E s := by
  refine join_listW (items := ys.toArray) (ys := cs.map fun c => (⟨#[c]⟩ : PySem.Str)) ⟨_, (N _ hm).1, rfl, _, rfl⟩ hK (by decide) ?_ fun t' k => ?_
  · rw [sum_ones _ (fun y hy => by obtain ⟨c, _, rfl⟩ := List.mem_map.mp hy; rfl)]
    simp only [List.length_map]
    omega
  · rw [join_list_signs]
    exact h t' k
theorem bytes_any {D : Addr} {ys : List Value} {ns : List Int} {n : Nat} (F : Fr h₀ L s.heap m) (N : News h₀ L s.heap news) (hm : (D, listOf ys.toArray n) ∈ news) (hK : IntsAre ys ns) (hr : ∀ k ∈ ns, 0 ≤ k ∧ k < 256) (hx : ns.length ≤ 1000) (hh : A.handled = none)
    (h : ∀ (l : List UInt8) h' t k, l.length ≤ 1000 → Fr h₀ L h' m → News h₀ L h' news → Q (.bytes l.toArray t) { s with heap := h', toks := k }) : wpAny (model prog w) A (call (.type "bytes") [.ref D]) Q E s := by
  refine bytes_K F N ⟨_, (N _ hm).1, rfl, _, rfl⟩ hK hr ?_ hh fun h' t k F' N' _ => ?_
  · rw [hK.length, sizeLine_eq]; omega
  · exact h _ h' t k (by rw [List.length_map]; exact hx) F' N'
end
section
variable {prog : Program} {w : World} {A : Around} {h₀ : Heap} {L : Addr} {m : Str → Option Value} {env : Env} {elt : Expr} {x : Str} {scope : Scope} {cl : List (Str × Addr)} {s : Shared} {S : List (Addr × Obj) → Prop} {P : Nat → Value → Prop} {Fin : List Value → List (Addr × Obj) → Prop}
/-- a comprehension that keeps its members -/
theorem comp_same {n : Nat} {news : List (Addr × Obj)} (hS : S news)
    (step : ∀ i v I oI C oC D ys m₂ h tk (E' : Value → Shared → Prop), i < n → P i v → LCg.NsObj oC m₂ → m₂ x = some v → Fr h₀ L h m → News h₀ L h ((I, oI) :: (C, oC) :: (D, LCg.lst ys) :: news) → LCg.Off3 I C D news → ((@Ne Nat I C) ∧ (@Ne Nat I D) ∧ (@Ne Nat C D)) →
      wpAny (model prog w) A (eval elt (compEnvC scope cl C env)) (fun y s₂ => Held (P i y ∧ ∃ h' tk', s₂ = { s with heap := h', toks := tk' } ∧ Fr h₀ L h' m ∧ News h₀ L h' ((I, oI) :: (C, oC) :: (D, LCg.lst ys) :: news))) E' { s with heap := h, toks := tk })
    (fin : ∀ ys, ys.length = n → (∀ i (h : i < ys.length), P i ys[i]) → Fin ys news) : LCg.CompRest prog w A h₀ L m env elt x scope cl s S P Fin n 0 [] news := comp_all P hS step fin
end
end Mine

-- part MValue
namespace Mine
open PySem PySem.W PySem.Spec PySem.Calls PyProof.Rows

theorem v_len {d : Int} {n : Nat} (h : n = (d - 0).toNat) (h0 : 0 ≤ d) : d = n := by omega
theorem v_fit {d : Int} (h : d < 7) : (d - 0).toNat ≤ 16777216 := by omega
theorem v_fit4 {d : Int} : ((if 4 < d then 4 else d) - 0).toNat ≤ 16777216 := by split <;> omega
theorem v_cs {d : Int} {n c : Nat} (h : n = (d - 0).toNat) (hc : c = n) (h7 : d < 7) : c ≤ 1000 := by omega
theorem v_at {d : Int} {n i : Nat} (h : n = (d - 0).toNat) (h0 : 0 ≤ d) : 64 * (0 + (i : Int)) + d = 64 * (i : Int) + n := by omega
theorem v_oct {n i : Nat} {d : Int} (h : n = (d - 0).toNat) (h7 : d < 7) (hi : i < ((if 4 < (n : Int) then 4 else (n : Int)) - 0).toNat) : 0 ≤ 64 * (i : Int) + n ∧ 64 * (i : Int) + n < 256 := by
  split at hi <;> omega
theorem v_many {n : Nat} : ((if 4 < (n : Int) then 4 else (n : Int)) - 0).toNat ≤ 1000 := by split <;> omega
theorem v_small {d : Int} (h0 : 0 ≤ d) (h7 : d < 7) : Builtin.Range.small 0 d 1 = true := small_one (by omega) (by omega) (by omega) (by omega)
theorem v_small4 {d : Int} (h0 : 0 ≤ d) : Builtin.Range.small 0 (if 4 < d then 4 else d) 1 = true := by
  split
  · exact small_one (by omega) (by omega) (by omega) (by omega)
  · exact small_one (by omega) (by omega) (by omega) (by omega)
section
variable {prog : Program} {w : World} {mean : ExcName → Option Value} {mg mb : Str → Option Value} {A A₀ : Around} {base g h h' h₀ : Heap} {outer : List Env} {s : Shared} {news : List (Addr × Obj)} {gf : Obj → List (Addr × Obj)} {src r L : Addr} {o o' : Obj} {m : Str → Option Value} {env : Env} {dp un : Nat} {gd : Option (List Code)} {Q E : Value → Shared → Prop}

local macro_rules | `(tactic| walk_at "call ref") => `(tactic| (k_here; k_dflt (refine' take_K ?k1 ?k7 ?p1 ?p2 ?p3 ?p4 ?kd ?ku ?_; (case k1 => constructor; (iterate 6 k_asm); exact rfl; exact rfl); (case k7 => k_updF); (case p1 => assumption); (case p2 => assumption); (case p3 => omega); (case p4 => omega); (case kd => ktr_room); (case ku => ktr_units)); intro d9 t9 a9 b9 ta9 tb9 n9 h9 tk9 F9 N9 ha9 hb9 hd9 hd9'; (try dsimp only at N9); (try k_sweep)))
local macro_rules | `(tactic| walk_at "call ref") => `(tactic| (k_here; k_dflt (refine' one_K ?k1 ?k7 ?km ?kn ?kv ?kl ?kl2 ?p1 ?p2 ?kd ?ku ?_; (case k1 => constructor; (iterate 6 k_asm); exact rfl; exact rfl); (case k7 => k_updF); (case km => k_mem); (case kn => k_ne); (case kv => exact rfl); (case kl => exact Nat.le_of_ble_eq_true rfl); (case kl2 => exact Nat.le_of_ble_eq_true rfl); (case p1 => assumption); (case p2 => assumption); (case kd => ktr_room); (case ku => ktr_units)); intro v9 a9 b9 ta9 tb9 n9 h9 tk9 F9 N9 ha9 hb9 hv9; (try dsimp only at N9); (try k_sweep); (try (obtain ⟨z9, t9, e9, hz1, hz2, hz3⟩ := menu_val hv9; subst e9; clear hv9))))
local macro_rules | `(tactic| walk_at "call builtin:str.join") => `(tactic| (k_here; k_dflt (refine' join_sig ?a ?b ?c ?d ?_; (case a => k_asm); (case b => k_mem); (case c => assumption); (case d => exact v_cs (by assumption) (by assumption) (by assumption))); intro t9 k9))
local macro_rules | `(tactic| walk_at "call type:bytes") => `(tactic| (k_here; k_dflt (refine' bytes_any ?a ?b ?c ?d ?e ?f ?g ?_; (case a => k_asm); (case b => k_asm); (case c => k_mem); (case d => assumption); (case e => assumption); (case f => assumption); (case g => exact rfl)); intro l9 h9 t9 k9 hl9 F9 N9; (try k_sweep)))
local macro_rules | `(tactic| walk_at "eval ListComp") => `(tactic| (k_here; (with_reducible show wpAny _ _ (eval (PySem.Expr.ListComp (PySem.Expr.Name _ _) [{ target := _, iter := PySem.Expr.Name _ _, ifs := _, is_async := _ }] _ _) _) _ _ _); k_dflt (refine comp_bytes (by k_asm) (by with_unfolding_all rfl) (by decide) (by rfl) (by decide) (by rfl) ?_)))
local macro_rules | `(tactic| walk_at "eval ListComp") => `(tactic| (k_here; (with_reducible show wpAny _ _ (eval (PySem.Expr.ListComp (PySem.Expr.Name _ _) [{ target := _, iter := PySem.Expr.Call _ _ _ _, ifs := _, is_async := _ }] _ _) _) _ _ _); k_dflt (refine comp_text (by k_asm) (by with_unfolding_all rfl) (by decide) (by rfl) (by decide) (by rfl) ?_)))
local macro_rules | `(tactic| walk_at "eval ListComp") => `(tactic| (k_here; (with_reducible show wpAny _ _ (eval (PySem.Expr.ListComp (PySem.Expr.BinOp _ _ _ _) _ _ _) _) _ _ _); k_dflt (refine LCg.ListComp_U (F₀ := by k_asm) (by with_unfolding_all rfl) (by decide) (by rfl) (by decide) (by rfl) ?_)))
local macro_rules | `(tactic| walk_at "exec Assign cons ListComp") => `(tactic| (k_here; k_dflt (refine LCg.Assign_ListComp_U (F₀ := by k_asm) (by rfl) (by with_unfolding_all rfl) (by with_unfolding_all rfl) (by decide) (by rfl) (by decide) (by rfl) (by rfl) (by rfl) ?_)))
local macro_rules | `(tactic| walk_at "binaryOp Pow int int") => `(tactic| (k_here; (with_reducible refine pow_int_small ?kb1 ?kb2 ?kb3 ?_); (case kb1 => decide); (case kb2 => decide); (case kb3 => decide)))
local macro_rules | `(tactic| walk_at "CompSrc") => `(tactic| (k_here; refine Held.out ?_))
set_option maxHeartbeats 4000000 in
theorem value_spec {src : Addr} {a b : Int} {ta tb : Tok} {n : Nat} (C : Cx w mean mg mb (topA dp un gd outer) base outer g s.heap)
    (hs : s.heap.get? src = some (listOf #[.int a ta, .int b tb] n)) (hg : g.get? src = none)
    (ha : 0 ≤ a) (hb : 0 ≤ b) (hd : dp + 4 < recursionLimit) (hu : un + 60 < cLine)
    (ret : ∀ r v rw vs k a' b' ta' tb' n' h' tk', g.StaysIn h' → h'.get? src = some (listOf #[.int a' ta', .int b' tb'] n') → g.get? r = none → r ≠ src → g.get? rw = none → rw ≠ src → h'.get? r = some (tupO #[v, .ref rw]) → h'.get? rw = some (listOf vs.toArray k) → Val v vs → 0 ≤ a' → 0 ≤ b' → Q (.ref r) { s with heap := h', toks := tk' }) :
    wpAny (model prog w) (topA dp un gd outer) (call (.ref 110) [.ref src]) Q E s := by
  obtain ⟨B, X, T, G, hk, hz⟩ := id C
  k_with_none
  w_top off
  refine wpAny_call ?_
  k_dflt (refine' enterC (news := [(src, listOf #[.int a ta, .int b tb] n)]) C ?kN ?k6 ?k7 ?k8 ?k9 ?kB ?kD ?_ ?c2 ?c3 ?c4; (case kN => (intro p hp; rcases List.mem_singleton.mp hp with rfl; exact ⟨hs, hg⟩)); (case k6 => k_is); (case k7 => k_is); (case k8 => ktr_room); (case k9 => exact BindsTo.of_eq rfl); (case kB => exact rfl); (case kD => decide +kernel); (case c2 => exact rfl); (case c3 => exact rfl); (case c4 => exact rfl); k_whole)
  intro L' h' tk' cells' F' N' Y' l1
  k_lt l1
  k_cells Y'
  (try simp only [List.cons_append, List.nil_append] at N')
  (try dsimp only)
  (try k_fold)
  k_steps
  refine Held.mk ?_
  refine LCg.CompSrc.range (by rfl) (by k_asm) (by k_asm) (by assumption) (v_small (by assumption) (by assumption)) (rangeSize_nat _ _) (v_fit (by assumption)) ?_
  intro g2
  refine' comp_src (src := src) (Res := fun _ y => ∃ c t, y = .str ⟨#[c]⟩ t) ?U ?ha ?hb (fun _ => trivial) ?step ?fin
  case U => k_updF
  case ha => assumption
  case hb => assumption
  case step =>
    intro a3 b3 ta3 tb3 k3 i v I oI C oC D ys m₂ h tk E' ha3 hb3 hi hv hC hx F N off ne
    (try dsimp only at N off)
    obtain ⟨t9, rfl⟩ := hv
    simp only [LCg.Off3, and_true] at off
    (try k_fold)
    k_steps
    refine Held.mk ⟨_, _, _, _, _, ?hA3, ?hB3, signs6 (by assumption), _, _, rfl, by k_asm, cb_drop (by k_asm) (by lcg_sub)⟩ <;> assumption
  case fin =>
    intro a3 b3 ta3 tb3 k3 ysK ha3 hb3 hl hres
    obtain ⟨cs, hcl, hK⟩ := signs_exist hres
    (try dsimp only)
    intro D h tk F N o1
    (try simp only [LCg.Off1, and_true] at o1)
    (try dsimp only)
    (try k_fold)
    repeat' (first | (k_unfold; (try dsimp only)) | (walk1) | (dsimp only; walk1) | fail "no step")
    · rename Fr _ _ _ _ => F1
      rename News _ _ _ _ => N1
      exact ret _ _ _ _ _ _ _ _ _ _ _ _ F1.keep (N1 (src, _) (by k_mem)).1 (N1 (_, _) (.head _)).2.2 (by k_ne) (N1 (D, _) (by k_mem)).2.2 (by k_ne) (N1 (_, _) (.head _)).1 (N1 (D, _) (by k_mem)).1 (Val.str _ _ _ (by show cs.toArray.size ≤ 1000; rw [List.size_toArray]; exact v_cs hl hcl (by assumption)) hK) (by assumption) (by assumption)
    · refine Held.mk ?_
      refine LCg.CompSrc.range (by rfl) (by k_asm) (by k_asm) (by assumption) (v_small4 (by assumption)) (rangeSize_nat _ _) v_fit4 ?_
      intro g3
      refine comp_all (Res := fun i y => ∃ t, y = .int (64 * (i : Int) + ysK.length) t) trivial ?step ?fin
      case step =>
        intro i v I oI C oC D ys m₂ h tk E' hi hv hC hx2 F N off ne
        obtain ⟨t9, rfl⟩ := hv
        (try dsimp only at N off)
        simp only [LCg.Off3, and_true] at off
        (try k_fold)
        repeat' (first | (k_unfold; (try dsimp only)) | (walk1) | (dsimp only; walk1) | fail "no step")

        refine Held.mk ⟨⟨_, congrArg (fun z => Value.int z _) (v_at hl (by assumption))⟩, _, _, rfl, by k_asm, by k_asm⟩

        done
      case fin =>
        intro ysM hlM hresM
        have hKM := ints_of (f := fun i : Nat => 64 * (i : Int) + ysK.length) hlM hresM
        have hrM : ∀ k ∈ (List.range ((if 4 < (ysK.length : Int) then 4 else (ysK.length : Int)) - 0).toNat).map (fun i : Nat => 64 * (i : Int) + ysK.length), 0 ≤ k ∧ k < 256 := by
          intro k hk
          obtain ⟨i, hi, rfl⟩ := List.mem_map.mp hk
          exact v_oct hl (by assumption) (List.mem_range.mp hi)
        have hxM : ((List.range ((if 4 < (ysK.length : Int) then 4 else (ysK.length : Int)) - 0).toNat).map (fun i : Nat => 64 * (i : Int) + ysK.length)).length ≤ 1000 := by
          rw [List.length_map, List.length_range]
          exact v_many
        have hKM' : IntsAre ysM ((List.range ((if 4 < (ysK.length : Int) then 4 else (ysK.length : Int)) - 0).toNat).map (fun i : Nat => 64 * (i : Int) + ysK.length)) := by
          refine cast (congrArg (fun z : Int => IntsAre ysM ((List.range ((if 4 < z then 4 else z) - 0).toNat).map (fun i : Nat => 64 * (i : Int) + ysK.length))) ?_) hKM
          exact v_len hl (by assumption)
        clear hKM
        (try dsimp only)
        intro D3 h3 tk3 F3 N3 o3
        (try simp only [LCg.Off1, and_true] at o3)
        (try k_fold)
        repeat' (first | (k_unfold; (try dsimp only)) | (walk1) | (dsimp only; walk1) | fail "no step")
        refine Held.mk ⟨_, _, _, rfl, rfl, by k_asm, by k_asm, by show Array.size _ ≤ 1000; rw [List.size_toArray]; assumption, ?_⟩
        intro g4
        refine comp_same trivial ?step4 ?fin4
        case step4 =>
          intro i v I oI C oC D ys m₂ h tk E' hi hv hC hx2 F N off ne
          obtain ⟨c9, u9, hc9, rfl⟩ := hv
          (try dsimp only at N off)
          simp only [LCg.Off3, and_true] at off
          (try k_fold)
          k_steps
          exact Held.mk ⟨⟨_, _, hc9, rfl⟩, _, _, rfl, by k_asm, by k_asm⟩
        case fin4 =>
          intro ysO hl4 hres4
          have hO := octs_all hl4 hres4
          (try dsimp only)
          intro D5 h5 tk5 F5 N5 o5
          (try simp only [LCg.Off1, and_true] at o5)
          (try k_fold)
          repeat' (first | (k_unfold; (try dsimp only)) | walk1 | (dsimp only; walk1) | fail "no step")
          rename Fr _ _ _ _ => F1
          rename News _ _ _ _ => N1
          exact ret _ _ _ _ _ _ _ _ _ _ _ _ F1.keep (N1 (src, _) (by k_mem)).1 (N1 (_, _) (.head _)).2.2 (by k_ne) (N1 (D5, _) (by k_mem)).2.2 (by k_ne) (N1 (_, _) (.head _)).1 (N1 (D5, _) (by k_mem)).1 (Val.bytes _ _ _ (by assumption) hO) (by assumption) (by assumption)

    · refine Held.mk ⟨_, _, _, rfl, rfl, by k_asm, by k_asm, by assumption, ?_⟩
      intro g3
      refine comp_same trivial ?step2 ?fin2
      case step2 =>
        intro i v I oI C oC D ys m₂ h tk E' hi hv hC hx2 F N off ne
        obtain ⟨c9, u9, hc9, rfl⟩ := hv
        (try dsimp only at N off)
        simp only [LCg.Off3, and_true] at off
        (try k_fold)
        k_steps
        exact Held.mk ⟨⟨_, _, hc9, rfl⟩, _, _, rfl, by k_asm, by k_asm⟩
      case fin2 =>
        intro ysI hl2 hres2
        have hS2 := signs_all hl2 hres2
        (try dsimp only)
        intro D5 h5 tk5 F5 N5 o5
        (try simp only [LCg.Off1, and_true] at o5)
        (try k_fold)
        repeat' (first | (k_unfold; (try dsimp only)) | walk1 | (dsimp only; walk1) | fail "no step")
        rename Fr _ _ _ _ => F1
        rename News _ _ _ _ => N1
        exact ret _ _ _ _ _ _ _ _ _ _ _ _ F1.keep (N1 (src, _) (by k_mem)).1 (N1 (_, _) (.head _)).2.2 (by k_ne) (N1 (D5, _) (by k_mem)).2.2 (by k_ne) (N1 (_, _) (.head _)).1 (N1 (D5, _) (by k_mem)).1 (Val.int _ _ _ (by assumption) (by assumption) (by assumption) hS2) (by assumption) (by assumption)
end
end Mine

-- part MTurn
namespace Mine
open PySem PySem.W PySem.Spec PySem.Calls PyProof.Rows

section
variable {prog : Program} {w : World} {mean : ExcName → Option Value} {mg mb : Str → Option Value} {A A₀ : Around} {base g h h' h₀ : Heap} {outer : List Env} {s : Shared} {news : List (Addr × Obj)} {gf : Obj → List (Addr × Obj)} {src r L : Addr} {o o' : Obj} {m : Str → Option Value} {env : Env} {dp un : Nat} {gd : Option (List Code)} {Q E : Value → Shared → Prop}

theorem given_K {a b : Int} {ta tb : Tok} {n : Nat} (K : At w mean mg mb A₀ base outer h₀ L s.heap m news env)
    (U : UpdF src (listOf #[.int a ta, .int b tb] n) news gf) (ha : 0 ≤ a) (hb : 0 ≤ b)
    (hd : dp + 4 < recursionLimit) (hu : un + 60 < cLine)
    (ret : ∀ r x num tn a' b' ta' tb' n' h' tk', Fr h₀ L h' m → News h₀ L h' ((r, tupO #[x, .int num tn]) :: gf (listOf #[.int a' ta', .int b' tb'] n')) → LCg.Off1 r (gf (listOf #[.int a' ta', .int b' tb'] n')) → Giv x num → 0 ≤ a' → 0 ≤ b' → Q (.ref r) { s with heap := h', toks := tk' }) :
    wpAny (model prog w) (topA dp un gd (env :: outer)) (call (.ref 105) [.ref src]) Q E s := by
  obtain ⟨B, F, X, T, G, N, hf, hke⟩ := K
  have R := ground1 (dp := dp) (un := un) (gd := gd) B F X T G N U hf hke
  have hs := R.N _ (.head _)
  refine given_spec R.C hs.1 hs.2 ha hb hd hu fun r x num tn a' b' ta' tb' n' h' tk' k e hr hn er hx h1 h2 => ?_
  have W := R.fresh U k e hr hn er
  exact ret r x num tn a' b' ta' tb' n' h' tk' (R.fr h' k) W.1 W.2 hx h1 h2
theorem value_K {a b : Int} {ta tb : Tok} {n : Nat} (K : At w mean mg mb A₀ base outer h₀ L s.heap m news env)
    (U : UpdF src (listOf #[.int a ta, .int b tb] n) news gf) (ha : 0 ≤ a) (hb : 0 ≤ b)
    (hd : dp + 4 < recursionLimit) (hu : un + 60 < cLine)
    (ret : ∀ r v rw vs k a' b' ta' tb' n' h' tk', Fr h₀ L h' m → News h₀ L h' ((r, tupO #[v, .ref rw]) :: (rw, listOf (List.toArray vs) k) :: gf (listOf #[.int a' ta', .int b' tb'] n')) → LCg.Off1 r (gf (listOf #[.int a' ta', .int b' tb'] n')) → LCg.Off1 rw (gf (listOf #[.int a' ta', .int b' tb'] n')) → Val v vs → 0 ≤ a' → 0 ≤ b' → Q (.ref r) { s with heap := h', toks := tk' }) :
    wpAny (model prog w) (topA dp un gd (env :: outer)) (call (.ref 110) [.ref src]) Q E s := by
  obtain ⟨B, F, X, T, G, N, hf, hke⟩ := K
  have R := ground1 (dp := dp) (un := un) (gd := gd) B F X T G N U hf hke
  have hs := R.N _ (.head _)
  refine value_spec R.C hs.1 hs.2 ha hb hd hu fun r v rw vs k' a' b' ta' tb' n' h' tk' k e hr hn hr2 hn2 er er2 hx h1 h2 => ?_
  have W := R.fresh U k e hr hn er
  have W2 := R.fresh U k e hr2 hn2 er2
  refine ret r v rw vs k' a' b' ta' tb' n' h' tk' (R.fr h' k) (fun p hp => ?_) W.2 W2.2 hx h1 h2
  rcases List.mem_cons.mp hp with rfl | hp
  · exact W.1 _ (.head _)
  · exact W2.1 p hp
end
end Mine

-- part MLawR
namespace Mine
open PySem PySem.W PySem.Spec PySem.Calls PyProof.Rows

section
variable {prog : Program} {w : World} {mean : ExcName → Option Value} {mg mb : Str → Option Value} {A A₀ : Around} {base g h h' h₀ : Heap} {outer : List Env} {s : Shared} {news : List (Addr × Obj)} {gf : Obj → List (Addr × Obj)} {src r L : Addr} {o o' : Obj} {m : Str → Option Value} {env : Env} {dp un : Nat} {gd : Option (List Code)} {Q E : Value → Shared → Prop}

local macro_rules | `(tactic| k_ne) => `(tactic| (refine neN ?_; (try dsimp only); with_reducible first | assumption | exact Ne.symm (by assumption)))
local macro_rules | `(tactic| walk_at "call ref") => `(tactic| (k_here; k_dflt (refine' given_K ?k1 ?k7 ?p1 ?p2 ?kd ?ku ?_; (case k1 => constructor; (iterate 6 k_asm); exact rfl; exact rfl); (case k7 => k_updF); (case p1 => assumption); (case p2 => assumption); (case kd => ktr_room); (case ku => ktr_units)); intro r9 x9 c9 t9 a9 b9 ta9 tb9 n9 h9 tk9 F9 N9 o9 hx9 ha9 hb9; (try dsimp only at N9 o9); (try simp only [LCg.Off1, and_true] at o9); (iterate 12 (try obtain ⟨h9, o9⟩ := o9)); (try k_sweep)))
local macro_rules | `(tactic| walk_at "call ref") => `(tactic| (k_here; k_dflt (refine' value_K ?k1 ?k7 ?p1 ?p2 ?kd ?ku ?_; (case k1 => constructor; (iterate 6 k_asm); exact rfl; exact rfl); (case k7 => k_updF); (case p1 => assumption); (case p2 => assumption); (case kd => ktr_room); (case ku => ktr_units)); intro r9 v9 rw9 vs9 k9 a9 b9 ta9 tb9 n9 h9 tk9 F9 N9 o9 o8 hx9 ha9 hb9; (try dsimp only at N9 o9 o8); (try simp only [LCg.Off1, and_true] at o9 o8); (iterate 4 (try obtain ⟨h9, o9⟩ := o9)); (iterate 4 (try obtain ⟨h8, o8⟩ := o8)); (try k_sweep)))
local macro_rules | `(tactic| walk_at "call ref") => `(tactic| (k_here; k_dflt (refine' right_K ?k1 ?km1 ?km2 ?kv ?p1 ?p2 ?p3 ?kd ?ku ?_; (case k1 => constructor; (iterate 6 k_asm); exact rfl; exact rfl); (case km1 => k_mem); (case km2 => k_mem); (case kv => exact rfl); (case p1 => assumption); (case p2 => first | exact ArgsOf.one (by assumption) | exact ArgsOf.two (by assumption) (by assumption)); (case p3 => first | exact Many.none | exact Many.some _ _ (Giv.lo (by assumption)).1 (Giv.lo (by assumption)).2); (case kd => ktr_room); (case ku => ktr_units)); intro h9 tk9 F9 N9; (try k_sweep)))
local macro_rules | `(tactic| walk_at "CompSrc") => `(tactic| (k_here; refine Held.out ?_))
set_option maxHeartbeats 4000000 in
theorem turn_spec {src : Addr} {a b : Int} {ta tb : Tok} {n : Nat} (C : Cx w mean mg mb (topA dp un gd outer) base outer g s.heap)
    (hs : s.heap.get? src = some (listOf #[.int a ta, .int b tb] n)) (hg : g.get? src = none)
    (ha : 0 ≤ a) (hb : 0 ≤ b) (hd : dp + 14 < recursionLimit) (hu : un + 160 < cLine)
    (ret : ∀ a' b' ta' tb' n' h' tk', g.StaysIn h' → h'.get? src = some (listOf #[.int a' ta', .int b' tb'] n') → 0 ≤ a' → 0 ≤ b' → Q (.bool true) { s with heap := h', toks := tk' }) :
    wpAny (model prog w) (topA dp un gd outer) (call (.ref 127) [.ref src]) Q E s := by
  obtain ⟨B, X, T, G, hk, hz⟩ := id C
  k_with_none
  w_top off
  refine wpAny_call ?_
  k_dflt (refine' enter (news := [(src, listOf #[.int a ta, .int b tb] n)]) C ?kN ?k6 ?k7 ?k8 ?k9 ?kB ?_ ?c2 ?c3 ?c4 ?c5; (case kN => (intro p hp; rcases List.mem_singleton.mp hp with rfl; exact ⟨hs, hg⟩)); (case k6 => k_is); (case k7 => k_is); (case k8 => ktr_room); (case k9 => exact BindsTo.of_eq rfl); (case c5 => decide); (case kB => exact locs rfl); (case c2 => exact rfl); (case c3 => exact rfl); (case c4 => exact rfl); k_whole)
  intro L' h' F' N' l1
  k_lt l1
  (try dsimp only)
  (try k_fold)
  repeat' (first | (k_unfold; (try dsimp only)) | walk1 | (dsimp only; walk1) | fail "no step")
  rename Fr _ _ _ _ => F1
  rename News _ _ _ _ => N1
  exact ret _ _ _ _ _ _ _ F1.keep (N1 (src, _) (by k_mem)).1 (by assumption) (by assumption)
theorem turn_K {a b : Int} {ta tb : Tok} {n : Nat} (K : At w mean mg mb A₀ base outer h₀ L s.heap m news env)
    (U : UpdF src (listOf #[.int a ta, .int b tb] n) news gf) (ha : 0 ≤ a) (hb : 0 ≤ b)
    (hd : dp + 14 < recursionLimit) (hu : un + 160 < cLine)
    (ret : ∀ a' b' ta' tb' n' h' tk', Fr h₀ L h' m → News h₀ L h' (gf (listOf #[.int a' ta', .int b' tb'] n')) → 0 ≤ a' → 0 ≤ b' → Q (.bool true) { s with heap := h', toks := tk' }) :
    wpAny (model prog w) (topA dp un gd (env :: outer)) (call (.ref 127) [.ref src]) Q E s := by
  obtain ⟨B, F, X, T, G, N, hf, hke⟩ := K
  have R := ground1 (dp := dp) (un := un) (gd := gd) B F X T G N U hf hke
  have hs := R.N _ (.head _)
  refine turn_spec R.C hs.1 hs.2 ha hb hd hu fun a' b' ta' tb' n' h' tk' k e h1 h2 => ?_
  exact ret a' b' ta' tb' n' h' tk' (R.fr h' k) (R.news1 U k e) h1 h2
end
end Mine

-- part MPool
namespace Mine
open PySem PySem.W PySem.Spec PySem.Calls PyProof.Rows

theorem ints_mem {vs : List Value} {ns : List Int} (h : IntsAre vs ns) {v : Value} (hv : v ∈ vs) : ∃ z t, v = .int z t := by
  obtain ⟨i, hi⟩ := List.mem_iff_getElem?.mp hv
  obtain ⟨t, e⟩ := h.int_at i v hi
  exact ⟨_, t, e⟩
theorem pool_pos (c : Int) (p : Prop) [Decidable p] : 0 ≤ (if -1 - c > c then -1 - c else c) * (if p then 1 else 0) := by
  refine Int.mul_nonneg ?_ ?_
  · split <;> omega
  · split <;> decide
section
variable {prog : Program} {w : World} {mean : ExcName → Option Value} {mg mb : Str → Option Value} {A A₀ : Around} {base g h h' h₀ : Heap} {outer : List Env} {s : Shared} {news : List (Addr × Obj)} {gf : Obj → List (Addr × Obj)} {src r L : Addr} {o o' : Obj} {m : Str → Option Value} {env : Env} {dp un : Nat} {gd : Option (List Code)} {Q E : Value → Shared → Prop}

local macro_rules | `(tactic| walk_at "call builtin:len") => `(tactic| (k_here; k_dflt (refine len_base (by k_asm) (by assumption) (by assumption) ?_)))
local macro_rules | `(tactic| walk_at "subscriptTail") => `(tactic| (k_here; k_dflt (refine item_base (by k_asm) (by assumption) (by assumption) (by assumption) (by assumption) ?_); intro v9 hv9; (obtain ⟨z9, t9, e9⟩ := ints_mem (by assumption) hv9); subst e9; clear hv9))
local macro_rules | `(tactic| walk_at "binaryOp Pow int int") => `(tactic| (k_here; (with_reducible refine pow_int_small ?kb1 ?kb2 ?kb3 ?_); (case kb1 => decide); (case kb2 => decide); (case kb3 => decide)))
set_option maxHeartbeats 4000000 in
theorem pool_spec {sc : Addr} {vs : List Value} {ns : List Int} {k : Int} {tk : Tok} (C : Cx w mean mg mb (topA dp un gd outer) base outer g s.heap)
    (hsc : g.IsList sc vs.toArray) (hI : IntsAre vs ns) (hl : vs.length ≤ 1000) (hk0 : 0 ≤ k) (hk9 : k ≤ 1000)
    (hd : dp + 2 < recursionLimit) (hu : un + 40 < cLine)
    (ret : ∀ r a b ta tb n h' tk', g.StaysIn h' → g.get? r = none → h'.get? r = some (listOf #[.int a ta, .int b tb] n) → 0 ≤ a → 0 ≤ b → Q (.ref r) { s with heap := h', toks := tk' }) :
    wpAny (model prog w) (topA dp un gd outer) (call (.ref 84) [.ref sc, .int k tk]) Q E s := by
  obtain ⟨B, X, T, G, hk, hz⟩ := id C
  k_with_none
  w_top off
  refine wpAny_call ?_
  k_dflt (refine' enter (news := []) C ?kN ?k6 ?k7 ?k8 ?k9 ?kB ?_ ?c2 ?c3 ?c4 ?c5; (case kN => exact List.forall_mem_nil _); (case k6 => k_is); (case k7 => k_is); (case k8 => ktr_room); (case k9 => exact BindsTo.of_eq rfl); (case c5 => decide); (case kB => exact locs rfl); (case c2 => exact rfl); (case c3 => exact rfl); (case c4 => exact rfl); k_whole)
  intro L' h' F' N' l1
  k_lt l1
  (try dsimp only)
  (try k_fold)
  repeat' (first | (k_unfold; (try dsimp only)) | walk1 | (dsimp only; walk1) | fail "no step")
  all_goals (rename Fr _ _ _ _ => F1; rename News _ _ _ _ => N1)
  all_goals exact ret _ _ _ _ _ _ _ _ F1.keep (N1 (_, _) (.head _)).2.2 (N1 (_, _) (.head _)).1 (pool_pos _ _) (fmod_lo _ (by decide))
theorem pool_K {sc : Addr} {vs : List Value} {ns : List Int} {k : Int} {tk : Tok} (K : At w mean mg mb A₀ base outer h₀ L s.heap m news env)
    (hsc : h₀.IsList sc vs.toArray) (hI : IntsAre vs ns) (hl : vs.length ≤ 1000) (hk0 : 0 ≤ k) (hk9 : k ≤ 1000)
    (hd : dp + 2 < recursionLimit) (hu : un + 40 < cLine)
    (ret : ∀ r a b ta tb n h' tk', Fr h₀ L h' m → News h₀ L h' ((r, listOf #[.int a ta, .int b tb] n) :: news) → LCg.Off1 r news → 0 ≤ a → 0 ≤ b → Q (.ref r) { s with heap := h', toks := tk' }) :
    wpAny (model prog w) (topA dp un gd (env :: outer)) (call (.ref 84) [.ref sc, .int k tk]) Q E s := by
  obtain ⟨B, F, X, T, G, N, hf, hke⟩ := K
  have R := ground0 (dp := dp) (un := un) (gd := gd) B F X T G N hf hke
  refine pool_spec R.C (stays_list F.keep hsc) hI hl hk0 hk9 hd hu fun r a b ta tb n h' tk' k hr e h1 h2 => ?_
  have W := R.fresh0 k hr e
  exact ret r a b ta tb n h' tk' (R.fr h' k) W.1 W.2 h1 h2
end
end Mine

-- part MTop
namespace Mine
open PySem PySem.W PySem.Spec PySem.Calls PyProof.Rows
theorem cut3 {n a : Int} {mo : Option Int} {lo hi : Int} (h : Cut n a mo lo hi) (hn : n = 3) (l u : Int) (h1 : kept 3 a mo 1 = decide (l ≤ 0 ∧ 0 < u)) (h2 : kept 3 a mo 2 = decide (l ≤ 1 ∧ 1 < u)) (h3 : kept 3 a mo 3 = decide (l ≤ 2 ∧ 2 < u)) (hl : l = 0) (hu : 1 ≤ u) (hu3 : u ≤ 2) : lo = l ∧ hi = u := by
  obtain ⟨k1, k2, k3⟩ := h
  subst hn
  have e1 := k3 1 (by omega) (by omega)
  have e2 := k3 2 (by omega) (by omega)
  have e3 := k3 3 (by omega) (by omega)
  rw [h1, decide_eq_true_iff] at e1
  rw [h2, decide_eq_true_iff] at e2
  rw [h3, decide_eq_true_iff] at e3
  omega
theorem abc1 {lo hi : Int} (h : Cut (PySem.Str.ofString "abc").length 0 (some 2) lo hi) : Txt.slice (PySem.Str.ofString "abc") (some lo) (some hi) = PySem.Str.ofString "a" := by
  obtain ⟨rfl, rfl⟩ := cut3 h (by decide +kernel) 0 1 (by decide) (by decide) (by decide) rfl (by decide) (by decide)
  decide +kernel
theorem abc2 {lo hi : Int} (h : Cut (PySem.Str.ofString "abc").length (-5) (some 4) lo hi) : Txt.slice (PySem.Str.ofString "abc") (some lo) (some hi) = PySem.Str.ofString "ab" := by
  obtain ⟨rfl, rfl⟩ := cut3 h (by decide +kernel) 0 2 (by decide) (by decide) (by decide) rfl (by decide) (by decide)
  decide +kernel
local macro_rules | `(tactic| k_ne) => `(tactic| (refine neN ?_; (try dsimp only); with_reducible first | assumption | exact Ne.symm (by assumption)))
local macro_rules | `(tactic| walk_at "call builtin:len") => `(tactic| (k_here; (with_reducible show wpAny _ _ (call (Value.builtin "len") [Value.ref _]) _ _ _); k_dflt (refine len_base (by k_asm) (by assumption) (by assumption) ?_)))
local macro_rules | `(tactic| walk_at "call ref") => `(tactic| (k_here; k_dflt (refine' part_empty_K ?k1 ?km ?kd ?ku ?_; (case k1 => constructor; (iterate 6 k_asm); exact rfl; exact rfl); (case km => k_mem); (case kd => exact Nat.le_of_ble_eq_true rfl); (case ku => exact Nat.le_of_ble_eq_true rfl)); intro h9 tk9 F9 N9; (try k_sweep)))
local macro_rules | `(tactic| walk_at "call ref") => `(tactic| (k_here; k_dflt (refine' part_str_K ?k1 ?km ?p1 ?p2 ?kd ?ku ?_; (case k1 => constructor; (iterate 6 k_asm); exact rfl; exact rfl); (case km => k_mem); (case p1 => decide +kernel); (case p2 => exact ArgsOf.two (Giv.int _ _ (by decide) (by decide)) (Giv.int _ _ (by decide) (by decide))); (case kd => exact Nat.le_of_ble_eq_true rfl); (case ku => exact Nat.le_of_ble_eq_true rfl)); intro lo9 hi9 t9 h9 tk9 F9 N9 hc9; (first | rw [abc1 hc9] | rw [abc2 hc9]); clear hc9; (try k_sweep)))
local macro_rules | `(tactic| walk_at "call ref") => `(tactic| (k_here; k_dflt (refine' pool_K ?k1 ?p1 ?p2 ?p3 ?p4 ?p5 ?kd ?ku ?_; (case k1 => constructor; (iterate 6 k_asm); exact rfl; exact rfl); (case p1 => assumption); (case p2 => assumption); (case p3 => assumption); (case p4 => omega); (case p5 => omega); (case kd => exact Nat.le_of_ble_eq_true rfl); (case ku => exact Nat.le_of_ble_eq_true rfl)); intro r9 a9 b9 ta9 tb9 n9 h9 tk9 F9 N9 o9 ha9 hb9; (try dsimp only at N9 o9); (try simp only [LCg.Off1, and_true] at o9); (iterate 12 (try obtain ⟨h9, o9⟩ := o9)); (try k_sweep)))
local macro_rules | `(tactic| walk_at "call ref") => `(tactic| (k_here; k_dflt (refine' turn_K ?k1 ?k7 ?p1 ?p2 ?kd ?ku ?_; (case k1 => constructor; (iterate 6 k_asm); exact rfl; exact rfl); (case k7 => k_updF); (case p1 => assumption); (case p2 => assumption); (case kd => exact Nat.le_of_ble_eq_true rfl); (case ku => exact Nat.le_of_ble_eq_true rfl)); intro a9 b9 ta9 tb9 n9 h9 tk9 F9 N9 ha9 hb9; (try dsimp only at N9); (try k_sweep)))
set_option maxHeartbeats 8000000 in
theorem top_law : PySem.Challenge.rw_xm0750_01.Holds := Mine.hd (by
   k_with_none
   w_top off
   k_go0; (all_goals try k_fold)
   rename IntsAre _ _ => hI1
   rename Heap.IsList _ _ _ => hL1
   have hl1 := hI1.length
   have hl2 : (_ : List Value).length ≤ 1000 := Nat.le_trans (Nat.le_of_eq hl1) (by omega)
   repeat' (first | (k_unfold; (try dsimp only)) | walk1 | (dsimp only; walk1) | fail "no step")
   all_goals k_steps
   all_goals (try k_data)
   all_goals w_report)
end Mine

theorem PySem.Challenge.cw_xm0750_01_holds : PySem.Challenge.rw_xm0750_01.Holds := by
  exact Mine.top_law
