import PyProof.Rows.All
import Wide.All
import OpenK.AllK
import Wide.FinOn
import PySem.Challenge.RW_rg0205_01
open PySem PySem.W PyProof.Rows
open PySem.Calls PySem.Spec
set_option Elab.async false
set_option maxRecDepth 100000
set_option maxHeartbeats 0
set_option compiler.extract_closed false
set_option genInjectivity false
set_option genSizeOf false
set_option linter.all false
namespace Mine
open_top hd for PySem.Challenge.rw_rg0205_01
theorem top_off : True := by
  w_top off
  trivial
-- RgBase

theorem u_le (k : Nat) : (k - 1) / 2 ≤ k := Nat.le_trans (Nat.div_le_self _ _) (Nat.sub_le _ _)
theorem u_lt {k : Nat} (h : 1 ≤ k) : (k - 1) / 2 < k := Nat.lt_of_le_of_lt (Nat.div_le_self _ _) (Nat.sub_lt h Nat.one_pos)
theorem u_n {k n : Nat} (h : k < n) : (k - 1) / 2 < n := Nat.lt_of_le_of_lt (u_le k) h
theorem u_ne {c s : Nat} (h : 1 ≤ c) (e : (c - 1) / 2 = s) : ¬ c = s := fun q => Nat.ne_of_lt (u_lt h) (e.trans q.symm)
theorem u_nf {c s : Nat} (h : 1 ≤ c) (e : (c - 1) / 2 = s) : ¬ s = c := fun q => u_ne h e q.symm
theorem u_ab {c s : Nat} (h : 1 ≤ c) (e : (c - 1) / 2 = s) : s < c := e ▸ u_lt h
theorem u_1 (s : Nat) : (2 * s + 1 - 1) / 2 = s := Nat.mul_div_cancel_left s (by decide)
theorem u_2 (s : Nat) : (2 * s + 2 - 1) / 2 = s := by (first | ((fail_if_success (fail_if_success omega (config := {}))); (first | with_reducible assumption | decide | lia | omega (config := {}))))
theorem p_n {k n : Nat} (p : 1 ≤ k) (h : k ≤ n) : k - 1 < n := Nat.sub_one_lt_of_le p h
theorem p_k {j k i : Nat} (p : i < j) (h : j < k + 1) : j - 1 < k := Nat.sub_one_lt_of_le (Nat.lt_of_le_of_lt (Nat.zero_le _) p) (Nat.le_of_lt_succ h)
theorem p_ne {m : Nat} (h : 1 ≤ m) : ¬ m - 1 = m := Nat.ne_of_lt (Nat.sub_lt h Nat.one_pos)
theorem p_nf {m : Nat} (h : 1 ≤ m) : ¬ m = m - 1 := fun q => p_ne h q.symm
theorem p_lt {m : Nat} (h : 1 ≤ m) : m - 1 < m := Nat.sub_lt h Nat.one_pos
theorem p_l {j m : Nat} (h : j < m - 1) : j < m := Nat.lt_of_lt_of_le h (Nat.sub_le _ _)
theorem l_e {i n m : Nat} (h : i < n) (e : m = n) : i < m := e ▸ h
theorem l_f {i n m : Nat} (h : i < n) (e : n = m) : i < m := e ▸ h
theorem b_1 {n : Nat} (h : n ≤ 1000) : n ≤ 16777216 := Nat.le_trans h (by decide)
theorem b_2 {n m : Nat} (h : n ≤ 1000) (e : m = n) : m ≤ 16777216 := e ▸ b_1 h
structure DP where
  c0 : Int
  c1 : Int
  c2 : Int
  c3 : Int
  c4 : Int
  t0 : Nat
  t1 : Nat
  t2 : Nat
  t3 : Nat
  t4 : Nat
  lim : Int
  ltk : Nat
  stp : Int
  stk : Nat
  n : Nat
abbrev oDict (D : DP) (al hl pl : Addr) : Obj :=
  dictOf [⟨D.c0, .str (Str.ofString "limit") D.t0, .int D.lim D.ltk⟩, ⟨D.c1, .str (Str.ofString "step") D.t1, .int D.stp D.stk⟩, ⟨D.c2, .str (Str.ofString "activity") D.t2, .ref al⟩,
    ⟨D.c3, .str (Str.ofString "heap") D.t3, .ref hl⟩, ⟨D.c4, .str (Str.ofString "place") D.t4, .ref pl⟩] D.n
abbrev oList (vs : List Value) (n : Nat) : Obj := PySem.W.listOf vs.toArray n

abbrev tp (dp un : Nat) (gd : Option (List Code)) (env : Env) (outer : List Env) : Around := { handled := none, depth := dp, frames := some (env :: outer), guards := gd, units := un }

noncomputable def Kept (h h' : Heap) (as : List Addr) : Prop := ∀ a o, h.get? a = some o → a ∉ as → h'.get? a = some o
abbrev KeptAll (h h' : Heap) : Prop := ∀ b o, h.get? b = some o → h'.get? b = some o

theorem enterK {prog : Program} {w : World} {A A₀ : Around} {s : Shared} {K : Frag} {L : Addr} {h₀ base : Heap} {m mg mb : Str → Option Value} {news : List (Addr × Obj)} {p : Program} {loose : List Str} {mean : ExcName → Option Value}
    {env : Env} {outer : List Env} {R : Result → Shared → Prop} {name qual : Str} {params : Arguments} {body : List Stmt} {scope : Scope} {dV kV doc pm cdv ct oc : Value} {an od : Option Addr} {osl : Array (Option Value)} {f : Addr} {args : Args} {binds : List (Str × Value)}
    (B : Below A₀ base outer h₀) (F : Fr h₀ L s.heap m) (X₀ : K.In h₀) (N : News h₀ L s.heap news) (T : Top p loose mean mg mb h₀) (hA : A.frames = some (env :: outer)) (hf : env.frame = some L) (hke : env.scope.kind = .function)
    (ho : K.lookup f = some ⟨oc, od, .func (fnOf name qual params body scope dV kV doc pm an cdv ct), osl⟩) (hcd : codeIn K cdv qual = true) (hroom : A.depth < recursionLimit)
    (hbind : BindsTo s (fnOf name qual params body scope dV kV doc pm an cdv ct) args binds) (hloc : ∀ y ∈ binds, scope.names.lookup y.1 = some .local)
    (h : ∀ g L' h₁, Fr h₀ L g m → Fr g L' h₁ (fun y => binds.reverse.lookup y) → News g L' h₁ news → Below A base (env :: outer) g → K.In g → Top p loose mean mg mb g → (∀ p ∈ news, p.1 < L') → (∀ b o, s.heap.get? b = some o → @LT.lt Nat _ b L') →
      wpAny (model prog w) (A.deeper (envOf qual scope L' f cdv)) (execs body (envOf qual scope L' f cdv))
        (fun fl s' => LeaveK h₀ L m g (fun r s'' => Kept s.heap s''.heap (news.map (·.1)) → R r s'') (match fl with | .ret v => v | _ => .none) s')
        (fun e s' => wpAny (model prog w) (A.deeper (envOf qual scope L' f cdv)) (leaving (envOf qual scope L' f cdv) e) (fun _ s'' => R (.error e) s'') (fun e' s'' => R (.error e') s'') s')
        { s with heap := h₁, toks := s.toks + binds.length })
    (hco : scope.isCoroutine = false) (hgen : scope.isGenerator = false) (hk : scope.kind = .function)
    (hcell : ∀ x ∈ scope.names, x.2 ≠ .cell) : codeAny (model prog w) A (.call (.ref f) args) R s := by
  obtain ⟨FG, BG, st, lv⟩ := groundX (R := R) B F N hA hf hke
  refine codeAny_call_def (fd := fnOf name qual params body scope dV kV doc pm an cdv ct) (body := body) (binds := binds) hroom ((X₀.keeps F.keep) _ _ ho) rfl (T.nolimit.keeps F.keep) (codeRec_of (X₀.keeps F.keep) hcd) rfl hbind hcell hloc (fun h₁ hns hk₁ => ?_) hco hgen hk
  refine wpAny_mono (h _ s.heap.objs.size h₁ FG ⟨hns, fun b o e => hk₁ b o (of_hideAll _ e), Nat.le_of_eq (hideAll_size _ _)⟩
    (fun p hp => ⟨hk₁ _ _ (N p hp).1, Nat.ne_of_lt (Heap.lt_size (N p hp).1), hideAll_none _ (List.mem_map_of_mem hp)⟩) BG (X₀.keeps st) (T.keeps st) (fun p hp => Heap.lt_size (N p hp).1) (fun _ _ e => Heap.lt_size e)) (fun fl s' hl => ?_) fun _ _ y => y
  obtain ⟨L', m', news', F', N', k⟩ := hl
  exact lv _ _ ⟨L', m', news', F', N', fun kF kN => k kF kN fun a o e hn => F'.keep a o (hideAll_get _ e hn)⟩

theorem keptAll_of {h₀ h h' : Heap} {L : Addr} {news : List (Addr × Obj)} (N : News h₀ L h news) (Kp : Kept h h' (news.map (·.1))) (N' : News h₀ L h' news) : KeptAll h h' := by
  intro a o e
  by_cases q : a ∈ news.map (·.1)
  · obtain ⟨p, hp, rfl⟩ := List.mem_map.mp q
    rw [(N p hp).1] at e
    cases e
    exact (N' p hp).1
  · exact Kp a o e q
theorem news_all {h₀ h h' : Heap} {L : Addr} {news : List (Addr × Obj)} (N : News h₀ L h news) (Kp : KeptAll h h') : News h₀ L h' news := fun p hp => ⟨Kp _ _ (N p hp).1, (N p hp).2⟩
theorem news_sub {h₀ h : Heap} {L : Addr} {news news' : List (Addr × Obj)} (N : News h₀ L h news) (hs : ∀ p ∈ news', p ∈ news) : News h₀ L h news' := fun p hp => N p (hs p hp)
theorem news_cons {h₀ h : Heap} {L : Addr} {news l : List (Addr × Obj)} {p : Addr × Obj} (N : News h₀ L h news) (hm : p ∈ news) (N' : News h₀ L h l) : News h₀ L h (p :: l) := fun q hq => by
  rcases List.mem_cons.mp hq with rfl | hq
  · exact N _ hm
  · exact N' _ hq

/-- what of the ledger lies off the addresses as -/
inductive Rest (as : List Addr) : List (Addr × Obj) → List (Addr × Obj) → Prop
  | nil : Rest as [] []
  | keep {a o l r} : a ∉ as → Rest as l r → Rest as ((a, o) :: l) ((a, o) :: r)
  | skip {p l r} : Rest as l r → Rest as (p :: l) r
theorem off_nil {a : Addr} : a ∉ ([] : List Addr) := fun h => nomatch h
theorem off_cons {a b : Nat} {l : List Addr} (h : @Ne Nat a b) (h2 : a ∉ l) : a ∉ b :: l := fun h' => (List.mem_cons.mp h').elim h h2
theorem Rest.of {as : List Addr} {l r : List (Addr × Obj)} (h : Rest as l r) : ∀ p ∈ r, p ∈ l ∧ p.1 ∉ as := by
  induction h with
  | nil => intro p hp; cases hp
  | keep h1 _ ih =>
    intro p hp
    rcases List.mem_cons.mp hp with rfl | hp
    · exact ⟨.head _, h1⟩
    · exact ⟨.tail _ (ih p hp).1, (ih p hp).2⟩
  | skip _ ih => intro p hp; exact ⟨.tail _ (ih p hp).1, (ih p hp).2⟩
theorem rest_all {as : List Addr} : ∀ {l : List (Addr × Obj)}, (∀ p ∈ l, p.1 ∉ as) → Rest as l l
  | [], _ => .nil
  | (a, o) :: r, h => .keep (h (a, o) (.head _)) (rest_all fun p hp => h p (.tail _ hp))
theorem news_re {h₀ h h' : Heap} {L : Addr} {news rest core : List (Addr × Obj)} {as : List Addr} (N : News h₀ L h news) (hr : Rest as news rest) (Kp : Kept h h' as) (N' : News h₀ L h' core) : News h₀ L h' (core ++ rest) := fun p hp => by
  rcases List.mem_append.mp hp with hp | hp
  · exact N' p hp
  · obtain ⟨h1, h2⟩ := hr.of p hp
    exact ⟨Kp _ _ (N p h1).1 h2, (N p h1).2⟩
theorem kept_shrink {h₀ h h' : Heap} {L : Addr} {news core same : List (Addr × Obj)} {as as' : List Addr} (N : News h₀ L h news) (N' : News h₀ L h' core) (Kp : Kept h h' as) (hs : ∀ a ∈ as, a ∈ as' ∨ a ∈ same.map (·.1)) (h1 : ∀ p ∈ same, p ∈ news) (h2 : ∀ p ∈ same, p ∈ core) : Kept h h' as' := by
  intro a o e hn
  by_cases q : a ∈ as
  · rcases hs a q with q | q
    · exact absurd q hn
    · obtain ⟨p, hp, rfl⟩ := List.mem_map.mp q
      rw [(N p (h1 p hp)).1] at e
      cases e
      exact (N' p (h2 p hp)).1
  · exact Kp a o e q

/-- who comes first: by activity, the least number first -/
noncomputable def before (act : List Int) (i j : Int) : Bool := if act.getD i.toNat 0 ≠ act.getD j.toNat 0 then decide (act.getD j.toNat 0 < act.getD i.toNat 0) else decide (i < j)

/-- the surroundings of a call: the frames below, the written part, the top -/
noncomputable def Cx (w : World) (env : Env) (outer : List Env) (L : Addr) (h₀ : Heap) : Prop := ∃ A₀ base mean mg mb, Below A₀ base outer h₀ ∧ (hd.heap_39 w.params).In h₀ ∧ Top hd.view_39 (looseW hd.view_39 []) mean mg mb h₀ ∧ env.frame = some L ∧ env.scope.kind = .function
theorem cx_intro {w : World} {env : Env} {outer : List Env} {L : Addr} {h₀ base : Heap} {A₀ : Around} {mean : ExcName → Option Value} {mg mb : Str → Option Value} (B : Below A₀ base outer h₀) (X : (hd.heap_39 w.params).In h₀) (T : Top hd.view_39 (looseW hd.view_39 []) mean mg mb h₀) (hf : env.frame = some L) (hk : env.scope.kind = .function) : Cx w env outer L h₀ :=
  ⟨_, _, _, _, _, B, X, T, hf, hk⟩
theorem enterR {w : World} {A A₀ : Around} {s : Shared} {L : Addr} {h₀ base : Heap} {m mg mb : Str → Option Value} {news : List (Addr × Obj)} {mean : ExcName → Option Value}
    {env : Env} {outer : List Env} {R : Result → Shared → Prop} {name qual : Str} {params : Arguments} {body : List Stmt} {scope : Scope} {dV kV doc pm cdv ct oc : Value} {an od : Option Addr} {osl : Array (Option Value)} {f : Addr} {args : Args} {binds : List (Str × Value)}
    (B : Below A₀ base outer h₀) (F : Fr h₀ L s.heap m) (X₀ : (hd.heap_39 w.params).In h₀) (N : News h₀ L s.heap news) (T : Top hd.view_39 (looseW hd.view_39 []) mean mg mb h₀) (hA : A.frames = some (env :: outer)) (hf : env.frame = some L) (hke : env.scope.kind = .function)
    (ho : (hd.heap_39 w.params).lookup f = some ⟨oc, od, .func (fnOf name qual params body scope dV kV doc pm an cdv ct), osl⟩) (hcd : codeIn (hd.heap_39 w.params) cdv qual = true) (hroom : A.depth < recursionLimit)
    (hbind : BindsTo s (fnOf name qual params body scope dV kV doc pm an cdv ct) args binds) (hloc : ∀ y ∈ binds, scope.names.lookup y.1 = some .local)
    (h : ∀ g L' h₁, Fr h₀ L g m → Fr g L' h₁ (fun y => binds.reverse.lookup y) → News g L' h₁ news → Below A base (env :: outer) g → (hd.heap_39 w.params).In g → Top hd.view_39 (looseW hd.view_39 []) mean mg mb g → (∀ p ∈ news, p.1 < L') → (∀ b o, s.heap.get? b = some o → @LT.lt Nat _ b L') →
      Cx w (envOf qual scope L' f cdv) (env :: outer) L' g →
      wpAny (model PySem.Challenge.rw_rg0205_01.row.prog w) (A.deeper (envOf qual scope L' f cdv)) (execs body (envOf qual scope L' f cdv))
        (fun fl s' => LeaveK h₀ L m g (fun r s'' => Kept s.heap s''.heap (news.map (·.1)) → R r s'') (match fl with | .ret v => v | _ => .none) s')
        (fun e s' => wpAny (model PySem.Challenge.rw_rg0205_01.row.prog w) (A.deeper (envOf qual scope L' f cdv)) (leaving (envOf qual scope L' f cdv) e) (fun _ s'' => R (.error e) s'') (fun e' s'' => R (.error e') s'') s')
        { s with heap := h₁, toks := s.toks + binds.length })
    (hco : scope.isCoroutine = false) (hgen : scope.isGenerator = false) (hk : scope.kind = .function)
    (hcell : ∀ x ∈ scope.names, x.2 ≠ .cell) : codeAny (model PySem.Challenge.rw_rg0205_01.row.prog w) A (.call (.ref f) args) R s :=
  enterK B F X₀ N T hA hf hke ho hcd hroom hbind hloc (fun g L' h₁ FG F' N' B' X' T' l hL => h g L' h₁ FG F' N' B' X' T' l hL (cx_intro B' X' T' rfl hk)) hco hgen hk hcell
/-- a halt of the walk -/
noncomputable def Stop (P : Prop) : Prop := P
theorem stop_of {P : Prop} (h : Stop P) : P := h
theorem stop_go {P : Prop} (h : P) : Stop P := h
theorem allLt_news {h₀ h : Heap} {L r : Addr} {news : List (Addr × Obj)} (N : News h₀ L h news) (hL : ∀ b o, h.get? b = some o → @LT.lt Nat _ b r) : AllLt r news := allLt_of fun p hp => hL _ _ (N p hp).1
theorem newTuple_R {M : Model} {A : Around} {E : Value → Shared → Prop} {s : Shared} {h₀ : Heap} {L : Addr} {m : Str → Option Value} {news : List (Addr × Obj)} {vs : List Value} {Q : Value → Shared → Prop} (F : Fr h₀ L s.heap m) (N : News h₀ L s.heap news)
    (h : ∀ D h', Fr h₀ L h' m → News h₀ L h' ((D, { cls := .type "tuple", data := .seq vs.toArray }) :: news) → (∀ p ∈ news, p.1 < D) → @LT.lt Nat _ L D → Q (.ref D) { s with heap := h' }) (hsz : vs.length ≤ sizeLine) : wpAny M A (newTuple vs) Q E s :=
  newTuple_N F N (fun h' F' N' => h _ h' F' N' (fun p hp => Heap.lt_size (N p hp).1) F.ns.lt) hsz
theorem enterRC {w : World} {A A₀ : Around} {s : Shared} {L : Addr} {h₀ base : Heap} {m mg mb : Str → Option Value} {news : List (Addr × Obj)} {mean : ExcName → Option Value}
    {env : Env} {outer : List Env} {R : Result → Shared → Prop} {name qual : Str} {params : Arguments} {body : List Stmt} {scope : Scope} {dV kV doc pm cdv ct oc : Value} {an od : Option Addr} {osl : Array (Option Value)} {f : Addr} {args : Args} {binds : List (Str × Value)}
    (B : Below A₀ base outer h₀) (F : Fr h₀ L s.heap m) (X₀ : (hd.heap_39 w.params).In h₀) (N : News h₀ L s.heap news) (T : Top hd.view_39 (looseW hd.view_39 []) mean mg mb h₀) (hA : A.frames = some (env :: outer)) (hf : env.frame = some L) (hke : env.scope.kind = .function)
    (ho : (hd.heap_39 w.params).lookup f = some ⟨oc, od, .func (fnOf name qual params body scope dV kV doc pm an cdv ct), osl⟩) (hcd : codeIn (hd.heap_39 w.params) cdv qual = true) (hroom : A.depth < recursionLimit)
    (hbind : BindsTo s (fnOf name qual params body scope dV kV doc pm an cdv ct) args binds) (hkind : (binds.all fun y => scope.names.lookup y.1 == some .local || scope.names.lookup y.1 == some .cell) = true)
    (hnd : ((cellsFrom 0 scope.names []).map (·.1)).Nodup)
    (h : ∀ g L' h₁ tk cells, Fr h₀ L g m → Fr g L' h₁ (bindL (envOfC qual scope L' f cdv).kindOf binds fun _ => none) → News g L' h₁ (cells ++ news) →
      CellsAre (bindC (envOfC qual scope L' f cdv).kindOf binds fun _ => none) (cellsFrom (L' + 1) scope.names []) cells → Below A base (env :: outer) g → (hd.heap_39 w.params).In g → Top hd.view_39 (looseW hd.view_39 []) mean mg mb g → (∀ p ∈ news, p.1 < L') → (∀ b o, s.heap.get? b = some o → @LT.lt Nat _ b L') →
      Cx w (envOfC qual scope L' f cdv) (env :: outer) L' g →
      wpAny (model PySem.Challenge.rw_rg0205_01.row.prog w) (A.deeper (envOfC qual scope L' f cdv)) (execs body (envOfC qual scope L' f cdv))
        (fun fl s' => LeaveK h₀ L m g (fun r s'' => Kept s.heap s''.heap (news.map (·.1)) → R r s'') (match fl with | .ret v => v | _ => .none) s')
        (fun e s' => wpAny (model PySem.Challenge.rw_rg0205_01.row.prog w) (A.deeper (envOfC qual scope L' f cdv)) (leaving (envOfC qual scope L' f cdv) e) (fun _ s'' => R (.error e) s'') (fun e' s'' => R (.error e') s'') s')
        { s with heap := h₁, toks := tk })
    (hco : scope.isCoroutine = false) (hgen : scope.isGenerator = false) (hk : scope.kind = .function) : codeAny (model PySem.Challenge.rw_rg0205_01.row.prog w) A (.call (.ref f) args) R s := by
  obtain ⟨FG, BG, st, lv⟩ := groundX (R := R) B F N hA hf hke
  refine codeAny_call_function hroom ((X₀.keeps F.keep) _ _ ho) (by rfl) hco hgen rfl (codeRec_of (X₀.keeps F.keep) hcd) (hbind _ _ _ _ ?_)
  refine wpAny_newFunctionEnv_cells hk (kindsX hkind _) fun env' he s' x => ?_
  subst he
  refine ⟨(T.nolimit.keeps F.keep).keeps x.toInCall.keep, codeAny_func ?_⟩
  obtain ⟨h₁, tk, rfl, _⟩ := x.done
  have hk₁ := x.toInCall.keep
  obtain ⟨cells, NC, Y⟩ := Cl.news (h₀ := s.heap) (Nat.le_refl _) fun n c hm => ⟨x.cell n c (lookup_of_mem_nodup (cellsFrom_names scope.names 0 (s.heap.objs.size + 1) [] [] rfl ▸ hnd) hm), x.above n c hm⟩
  have B' := BG
  have X' := X₀.keeps st
  have T' := T.keeps st
  refine wpAny_mono (h _ s.heap.objs.size h₁ tk cells FG ⟨x.toInCall.ns, fun b o e => hk₁ b o (of_hideAll _ e), Nat.le_of_eq (hideAll_size _ _)⟩ (fun p hp => ?_) Y BG X' T' (fun p hp => Heap.lt_size (N p hp).1) (fun _ _ e => Heap.lt_size e) (cx_intro B' X' T' rfl hk)) (fun fl s' hl => ?_) fun _ _ y => y
  · rcases List.mem_append.mp hp with hp | hp
    · refine ⟨(NC p hp).1, (NC p hp).2.1, ?_⟩
      cases q : (hideAll s.heap (news.map (·.1))).get? p.1 with
      | none => rfl
      | some o => have := of_hideAll _ q; rw [(NC p hp).2.2] at this; cases this
    · exact ⟨hk₁ _ _ (N p hp).1, Nat.ne_of_lt (Heap.lt_size (N p hp).1), hideAll_none _ (List.mem_map_of_mem hp)⟩
  · obtain ⟨L', m', news', F', N', k⟩ := hl
    exact lv _ _ ⟨L', m', news', F', N', fun kF kN => k kF kN fun a o e hn => F'.keep a o (hideAll_get _ e hn)⟩
theorem news_join {h₀ h : Heap} {L : Addr} {l1 l2 : List (Addr × Obj)} (N1 : News h₀ L h l1) (N2 : News h₀ L h l2) : News h₀ L h (l1 ++ l2) := fun p hp => (List.mem_append.mp hp).elim (N1 p) (N2 p)
/-- a fact laid out of (first | ((fail_if_success (fail_if_success omega (config := {}))); (first | with_reducible assumption | decide | lia | omega (config := {}))))'s sight -/
noncomputable def Hide (P : Prop) : Prop := P
theorem hide_of {P : Prop} (h : P) : Hide P := h
theorem Hide.out {P : Prop} (h : Hide P) : P := h
-- RgL2
theorem canon {m : Str → Option Value} {ps : List (Str × Value)} (hk : ∀ p ∈ ps, m p.1 = some p.2) : ∃ m', m = kstB m' ps :=
  ⟨m, funext fun z => (kstB_eq (m₁ := m) (rest := m) hk (fun _ => rfl)).symm⟩
theorem fr_canon {h₀ h : Heap} {L : Addr} {m : Str → Option Value} {ps : List (Str × Value)} (F : Fr h₀ L h m) (hk : ∀ p ∈ ps, m p.1 = some p.2) : ∃ m', Fr h₀ L h (kstB m' ps) := by
  obtain ⟨m', e⟩ := canon hk
  exact ⟨m', e ▸ F⟩
theorem allObj_mono : ∀ {ws : List (Addr × String)} {k k' : List (Addr × Obj) → Prop}, AllObj ws k → (∀ its, k its → k' its) → AllObj ws k'
  | [], _, _, h, m => m _ h
  | _ :: _, _, _, h, m => fun o hc => allObj_mono (h o hc) fun its hk => m _ hk
section
variable {prog : Program} {w : World} {A : Around} {E : Value → Shared → Prop} {s : Shared} {env : Env} {h₀ : Heap} {target : Expr} {body : List Stmt} {Q : Flow → Shared → Prop} {ws : List (Addr × String)} {keep : List (Addr × Obj)}
theorem unrPost_mono {L : Addr} {s₁ s₂ : Shared} {its : List (Addr × Obj)} {R R' : (Str → Option Value) → List (Addr × Obj) → Prop} {f : Flow} (hm : ∀ m n, R m n → R' m n) (h : UnrPostW h₀ L s₁ its R Q f s₂) : UnrPostW h₀ L s₁ its R' Q f s₂ := by
  cases f with
  | ret v => exact h
  | brk => exact h
  | next => obtain ⟨h', tk, m', n', e, F, N, o, r⟩ := h; exact ⟨h', tk, m', n', e, F, N, o, hm _ _ r⟩
  | cont => obtain ⟨h', tk, m', n', e, F, N, o, r⟩ := h; exact ⟨h', tk, m', n', e, F, N, o, hm _ _ r⟩
theorem items_inv {xs : List Itm} {m : Str → Option Value} {news : List (Addr × Obj)} (J : Nat → (Str → Option Value) → List (Addr × Obj) → Prop) (h0 : J 0 m news)
    (turn : ∀ i a m₁ news₁ v h tk, xs[i]? = some a → J i m₁ news₁ → a.Is v h → Fr h₀ env.locals h m₁ → AllObj ws (fun its => News h₀ env.locals h (its ++ news₁) →
      wpAny (model prog w) A (assign target env v) (fun _ s₂ => wpAny (model prog w) A (execs body env) (UnrPostW h₀ env.locals { s with heap := h, toks := tk } its (fun m' n' => SubL keep n' ∧ J (i + 1) m' n') Q) E s₂) E { s with heap := h, toks := tk }))
    (done : ∀ m₁ news₁ h tk, J xs.length m₁ news₁ → Fr h₀ env.locals h m₁ → News h₀ env.locals h news₁ → Q .next { s with heap := h, toks := tk }) :
    ItemsRest prog w A E h₀ env target body Q s ws keep xs m news := by
  have key : ∀ (r : List Itm) (i : Nat) m₁ news₁, xs.drop i = r → i ≤ xs.length → J i m₁ news₁ → ItemsRest prog w A E h₀ env target body Q s ws keep r m₁ news₁ := by
    intro r
    induction r with
    | nil =>
      intro i m₁ news₁ hd hi hJ
      have : i = xs.length := Nat.le_antisymm hi (List.drop_eq_nil_iff.mp hd)
      subst this
      exact fun h tk F N => done _ _ h tk hJ F N
    | cons a r ih =>
      intro i m₁ news₁ hd hi hJ
      have hlt : i < xs.length := by
        rcases Nat.lt_or_ge i xs.length with h | h
        · exact h
        · rw [List.drop_eq_nil_of_le h] at hd; cases hd
      rw [List.drop_eq_getElem_cons hlt] at hd
      injection hd with h1 h2
      intro v h tk hv F
      refine allObj_mono (turn i a m₁ news₁ v h tk (by rw [List.getElem?_eq_getElem hlt, h1]) hJ hv F) fun its hk N => ?_
      exact wpAny_mono (hk N) (fun _ s₂ h₂ => wpAny_mono h₂ (fun f s₃ p => unrPost_mono (fun m' n' hr => ⟨hr.1, ih (i + 1) m' n' h2 hlt hr.2⟩) p) fun _ _ e => e) fun _ _ e => e
  exact key xs 0 m news (by simp) (Nat.zero_le _) h0
end
theorem list_copyR {prog : Program} {w : World} {A : Around} {E : Value → Shared → Prop} {s : Shared} {h₀ : Heap} {L : Addr} {m : Str → Option Value} {news : List (Addr × Obj)} {Q : Value → Shared → Prop} {l : Addr} {items : Array Value} (F : Fr h₀ L s.heap m) (N : News h₀ L s.heap news) (hl : s.heap.IsList l items)
    (h : ∀ D c h', Fr h₀ L h' m → News h₀ L h' ((D, PySem.W.listOf items c) :: news) → (∀ q ∈ news, q.1 < D) → @LT.lt Nat _ L D → Q (.ref D) { s with heap := h' }) (hsz : items.size ≤ sizeLine) :
    wpAny (model prog w) A (call (.type "list") [.ref l]) Q E s := by
  obtain ⟨o, ho, hc, n, hd⟩ := hl
  exact call_list_seq (hsz := hsz) l (.inl rfl) ho hc hd fun h' c' hk hD => h _ c' h' (F.keeps hk) (news_pushed F N hk hD rfl) (fun q hq => Heap.lt_size (N q hq).1) F.ns.lt
theorem zip_get : ∀ {xs ys : List Value} {i : Nat} {a : Itm}, (zipItems xs ys)[i]? = some a → ∃ x y, xs[i]? = some x ∧ ys[i]? = some y ∧ a = .pair (fun _ => x) y
  | [], _, _, _, h => by simp [zipItems] at h
  | _ :: _, [], _, _, h => by simp [zipItems] at h
  | x :: r, y :: q, 0, a, h => by
    simp only [zipItems, List.getElem?_cons_zero, Option.some.injEq] at h
    exact ⟨x, y, rfl, rfl, h.symm⟩
  | x :: r, y :: q, i + 1, a, h => by
    simp only [zipItems, List.getElem?_cons_succ] at h
    obtain ⟨x', y', h1, h2, h3⟩ := zip_get h
    exact ⟨x', y', by simpa using h1, by simpa using h2, h3⟩
theorem kept_shaped (ns : List Int) (p q : Int) : SeqAt.shaped (.tuple [.list (ns.map PyData.int), .int p, .int q]) = true := by
  simp [SeqAt.shaped, PyData.canLay0, PyData.depth, PyData.canLayAll0, PyData.depthAll, ke_canLayAll0, ke_depthAll]
theorem noMix_ints : ∀ ns ms : List Int, SeqAt.noMixAll (ns.map PyData.int) (ms.map PyData.int) = true
  | [], [] => rfl
  | [], _ :: _ => rfl
  | _ :: _, [] => rfl
  | a :: r, b :: t => by
    simp only [List.map_cons, SeqAt.noMixAll, SeqAt.noMix, Bool.true_and]
    exact noMix_ints r t
theorem ne_kept {prog : Program} {w : World} {A : Around} {E : Value → Shared → Prop} {s : Shared} {Q : Value → Shared → Prop} {a b la lb : Addr} {p q : Int} {t1 t2 u1 u2 : Tok} {xs ys : List Value} {ns : List Int}
    (ha : IsTup s.heap a #[.ref la, .int p t1, .int q t2]) (hb : IsTup s.heap b #[.ref lb, .int p u1, .int q u2]) (hla : s.heap.IsList la xs.toArray) (hlb : s.heap.IsList lb ys.toArray) (hi : IntsAre xs ns) (hj : IntsAre ys ns) (hu : A.units + 64 < cLine) (h : Q (.bool false) s) :
    wpAny (model prog w) A (compareOp .NotEq (.ref a) (.ref b)) Q E s := by
  obtain ⟨oa, hoa, hca, na, hda⟩ := ha
  obtain ⟨ob, hob, hcb, nb, hdb⟩ := hb
  have ra : Reads s.heap (.ref a) (.tuple [.list (ns.map PyData.int), .int p, .int q]) _ := .tuple hoa hca hda (.cons (reads_newData hla (ke_carried hi)) (.cons (.int _ _) (.cons (.int _ _) .nil)))
  have rb : Reads s.heap (.ref b) (.tuple [.list (ns.map PyData.int), .int p, .int q]) _ := .tuple hob hcb hdb (.cons (reads_newData hlb (ke_carried hj)) (.cons (.int _ _) (.cons (.int _ _) .nil)))
  refine ne_dataH_same ra rb (kept_shaped _ _ _) (kept_shaped _ _ _) hu ?_ ?_
  · simp only [SeqAt.noMix, SeqAt.noMixAll, noMix_ints, Bool.and_true]
  · have e : PySem.Spec.same (.tuple [.list (ns.map PyData.int), .int p, .int q]) (.tuple [.list (ns.map PyData.int), .int p, .int q]) = true := by
      simp [PySem.Spec.same, PySem.Spec.sameAll, ke_sameAll]
    rw [e]
    exact h
theorem any_mem {l : List Int} {k : Int} (h : (l.any fun x => x == k) = true) : k ∈ l := by
  obtain ⟨x, hx, he⟩ := List.any_eq_true.mp h
  rw [← eq_of_beq he]; exact hx
theorem any_not_mem {l : List Int} {k : Int} (h : (l.any fun x => x == k) = false) : k ∉ l := fun hm => by
  have : (l.any fun x => x == k) = true := List.any_eq_true.mpr ⟨k, hm, beq_self_eq_true k⟩
  rw [this] at h; cases h
theorem index_ints {prog : Program} {w : World} {A : Around} {E : Value → Shared → Prop} {s : Shared} {l : Addr} {vs : List Value} {ns : List Int} {k : Int} {t : Tok} {Q : Value → Shared → Prop} (hl : s.heap.IsList l vs.toArray) (hi : IntsAre vs ns)
    (hb : ns.length ≤ 1000) (hk : k ∈ ns) (h : Q (.int (ns.idxOf k : Nat) s.toks) { s with toks := s.toks + 1 }) :
    wpAny (model prog w) A (call (.builtin "list.index") [.ref l, .int k t]) Q E s := by
  obtain ⟨⟨c, d, data, sl⟩, hg, hc, n, hd⟩ := hl
  cases hc
  cases hd
  have e1 := hi.length
  have e2 : ns.idxOf k < ns.length := List.idxOf_lt_length_iff.mpr hk
  have hm := SeqAt.list_indexAt l vs.toArray n d sl (.int k t) (isInt k) (ns.idxOf k) (by rw [List.size_toArray, e1]; exact e2) (by (first | exact u_lt ‹_› | exact u_n ‹_› | exact p_lt ‹_› | exact p_ne ‹_› | exact p_nf ‹_› | exact p_l ‹_› | exact b_1 ‹_› | exact Nat.ne_of_gt ‹_› | exact Nat.ne_of_lt ‹_› | exact u_ne ‹_› ‹_› | exact u_nf ‹_› ‹_› | exact u_ab ‹_› ‹_› | exact p_n ‹_› ‹_› | exact p_k ‹_› ‹_› | exact l_e ‹_› ‹_› | exact l_f ‹_› ‹_› | exact b_2 ‹_› ‹_› | exact u_1 _ | exact u_2 _ | (apply Nat.lt_trans; assumption; assumption; done) | (apply Nat.lt_of_lt_of_le; assumption; assumption; done) | (apply Nat.lt_of_le_of_lt; assumption; assumption; done) | (apply Nat.le_trans; assumption; assumption; done) | ((fail_if_success (fail_if_success omega (config := {}))); (first | with_reducible assumption | decide | lia | omega (config := {})))))
    (by show isInt k vs[ns.idxOf k] = true; rw [isInt_at k hi _ (by (first | exact u_lt ‹_› | exact u_n ‹_› | exact p_lt ‹_› | exact p_ne ‹_› | exact p_nf ‹_› | exact p_l ‹_› | exact b_1 ‹_› | exact Nat.ne_of_gt ‹_› | exact Nat.ne_of_lt ‹_› | exact u_ne ‹_› ‹_› | exact u_nf ‹_› ‹_› | exact u_ab ‹_› ‹_› | exact p_n ‹_› ‹_› | exact p_k ‹_› ‹_› | exact l_e ‹_› ‹_› | exact l_f ‹_› ‹_› | exact b_2 ‹_› ‹_› | exact u_1 _ | exact u_2 _ | (apply Nat.lt_trans; assumption; assumption; done) | (apply Nat.lt_of_lt_of_le; assumption; assumption; done) | (apply Nat.lt_of_le_of_lt; assumption; assumption; done) | (apply Nat.le_trans; assumption; assumption; done) | ((fail_if_success (fail_if_success omega (config := {}))); (first | with_reducible assumption | decide | lia | omega (config := {}))))) e2]; simp)
    (fun j hj hlt => by
      show isInt k vs[j] = false
      rw [isInt_at k hi j (by simpa using hj) (by (first | exact u_lt ‹_› | exact u_n ‹_› | exact p_lt ‹_› | exact p_ne ‹_› | exact p_nf ‹_› | exact p_l ‹_› | exact b_1 ‹_› | exact Nat.ne_of_gt ‹_› | exact Nat.ne_of_lt ‹_› | exact u_ne ‹_› ‹_› | exact u_nf ‹_› ‹_› | exact u_ab ‹_› ‹_› | exact p_n ‹_› ‹_› | exact p_k ‹_› ‹_› | exact l_e ‹_› ‹_› | exact l_f ‹_› ‹_› | exact b_2 ‹_› ‹_› | exact u_1 _ | exact u_2 _ | (apply Nat.lt_trans; assumption; assumption; done) | (apply Nat.lt_of_lt_of_le; assumption; assumption; done) | (apply Nat.lt_of_le_of_lt; assumption; assumption; done) | (apply Nat.le_trans; assumption; assumption; done) | ((fail_if_success (fail_if_success omega (config := {}))); (first | with_reducible assumption | decide | lia | omega (config := {})))))]
      exact ne_of_lt_idxOf hlt _)
  exact call_meets PySem.F.slot_list_index ⟨_, hg, rfl⟩ PySem.F.entry_list_index (PySem.F.args_list_index_2 _ _) hm ⟨hg, fun y hy => (eq_isInt k t hi y (by simpa using hy)).at _ _, h⟩
noncomputable def rangeItems (a : Int) (n : Nat) : List Itm := (List.range n).map fun (i : Nat) => Itm.tok fun t => .int (a + (i : Int)) t
theorem rangeItems_get {a : Int} {n i : Nat} {x : Itm} (h : (rangeItems a n)[i]? = some x) : i < n ∧ x = Itm.tok fun t => .int (a + (i : Int)) t := by
  unfold rangeItems at h
  rw [List.getElem?_map] at h
  obtain ⟨j, hj, rfl⟩ := Option.map_eq_some_iff.mp h
  obtain ⟨hl, he⟩ := List.getElem?_eq_some_iff.mp hj
  rw [List.getElem_range] at he
  rw [List.length_range] at hl
  subst he
  exact ⟨hl, rfl⟩
theorem rangeItems_length (a : Int) (n : Nat) : (rangeItems a n).length = n := by simp [rangeItems]
theorem letGo_name {M : Model} {A : Around} {E : Value → Shared → Prop} {x : Str} {p : Pos} {it v : Value} {Q : Unit → Shared → Prop} {s : Shared} (h : Q () s) : wpAny M A (letOwnedTupleGo (.Name x p) it v) Q E s := wpAny_pure h
theorem iter_rangeR {prog : Program} {w : World} {A : Around} {E : Value → Shared → Prop} {s : Shared} {env : Env} {h₀ : Heap} {x : Str} {px : Pos} {body : List Stmt} {Q : Flow → Shared → Prop} {r : Addr} {a b : Int} {t u v : Tok} {n : Nat} {m₀ : Str → Option Value} {news : List (Addr × Obj)}
    (hh : A.handled = none) (F : Fr h₀ env.locals s.heap m₀) (N : News h₀ env.locals s.heap news) (hr : IsRange s.heap r a b 1 t u v) (hsm : Builtin.Range.small a b 1 = true) (hn : Builtin.Range.rangeSize a b 1 = ((n : Nat) : Int))
    (rest₀ : ∀ I : Addr, (∀ p ∈ news, p.1 < I) → ItemsRest prog w A E h₀ env (.Name x px) body Q s [(I, "range_iterator")] [] (rangeItems a n) m₀ news) :
    wpAny (model prog w) A (pyIter (.ref r)) (fun it s₂ => TurnsAt prog w A h₀ env (.Name x px) body Q E it s₂) E s := by
  refine wpAny_pyIter_range hr hsm ?_
  have W : Walks prog w A s.heap.objs.size [s.heap.objs.size] [s.heap.objs.size] n (fun i v => i < n ∧ ∃ t, v = .int (a + i * 1) t)
      (fun i h => IsRangeIter h s.heap.objs.size (a + (i : Nat) * 1) ((n : Int) - (i : Nat)) 1) := (Walks.range hh _ a 1 n).bound
  refine ktu_core (tk0 := s.toks) (keep := []) (KTurns.ofWalks W fun i v s Q E st q => letGo_name q) (by rw [rangeItems_length]) (fun i v h hp => ?_) (fun i h st => ?_) (fun b hb => ?_) (fun b hb => by simpa using hb) (fun b hb => .inl (by simpa using hb)) (fun hm => ?_) (fun p hp hI => ?_) ?_ (F.push _) (fun p hp => ⟨Heap.get?_push_of_some _ (N p hp).1, (N p hp).2⟩) trivial (rest₀ _ fun p hp => Heap.lt_size (N p hp).1)
  · obtain ⟨hi, tt, rfl⟩ := hp
    refine ⟨Itm.tok fun t => .int (a + (i : Int)) t, ?_, tt, by rw [Int.mul_one]⟩
    unfold rangeItems
    rw [List.getElem?_map, List.getElem?_eq_getElem (by rw [List.length_range]; exact hi), List.getElem_range]
    rfl
  · have st' : h.get? s.heap.objs.size = some _ := st
    exact ⟨[(s.heap.objs.size, _)], ⟨⟨rfl, rfl⟩, trivial⟩, fun p hp => by rw [List.mem_singleton.mp hp]; exact st'⟩
  · have hb' : b = s.heap.objs.size := by simpa using hb
    rw [hb']
    exact ⟨List.mem_cons_self .., next_is_new F⟩
  · exact absurd F.ns.lt ((List.mem_singleton.mp hm) ▸ Nat.lt_irrefl _)
  · exact absurd (Heap.lt_size (N p hp).1) ((List.mem_singleton.mp hI) ▸ Nat.lt_irrefl _)
  · show IsRangeIter _ _ _ _ _
    rw [hn]
    simpa using Heap.get?_push_size _ rfl
-- RgAp

noncomputable def Apart (l : List Nat) : Prop := l.Nodup
noncomputable def AllB (z : Nat) : List Nat → Prop
  | [] => True
  | a :: t => a < z ∧ AllB z t
noncomputable def AllN (z : Nat) : List Nat → Prop
  | [] => True
  | a :: t => z ≠ a ∧ AllN z t
inductive Two (a b : Nat) : List Nat → Prop
  | l {l : List Nat} (h : List.Mem b l) : Two a b (a :: l)
  | r {l : List Nat} (h : List.Mem a l) : Two a b (b :: l)
  | t {c : Nat} {l : List Nat} (h : Two a b l) : Two a b (c :: l)
theorem ap_x {l : List Nat} {a b : Nat} (h : Apart l) (t : Two a b l) : @Ne Nat a b := by
  induction t with
  | l m => exact fun e => (List.nodup_cons.mp h).1 (e ▸ m)
  | r m => exact fun e => (List.nodup_cons.mp h).1 (e ▸ m)
  | t _ ih => exact ih (List.nodup_cons.mp h).2
theorem allN_mem {z : Nat} : ∀ {l : List Nat}, AllN z l → z ∉ l
  | [], _, h => nomatch h
  | _ :: _, ⟨h1, h2⟩, h => (List.mem_cons.mp h).elim h1 (allN_mem h2)
theorem allB_N {z : Nat} : ∀ {l : List Nat}, AllB z l → AllN z l
  | [], _ => trivial
  | _ :: _, ⟨h1, h2⟩ => ⟨Nat.ne_of_gt h1, allB_N h2⟩
theorem ap_nil : Apart [] := List.nodup_nil
theorem ap_consN {l : List Nat} {z : Nat} (h : Apart l) (b : AllN z l) : Apart (z :: l) := List.nodup_cons.mpr ⟨allN_mem b, h⟩
theorem ap_cons {l : List Nat} {z : Nat} (h : Apart l) (b : AllB z l) : Apart (z :: l) := ap_consN h (allB_N b)
theorem ap_sub {l l' : List Nat} (h : Apart l) (s : List.Sublist l' l) : Apart l' := List.Nodup.sublist s h
theorem allB_up {z y : Nat} (hz : z < y) : ∀ {l : List Nat}, AllB z l → AllB y l
  | [], _ => trivial
  | _ :: _, ⟨h1, h2⟩ => ⟨Nat.lt_trans h1 hz, allB_up hz h2⟩
theorem allB_next {z y : Nat} {l : List Nat} (b : AllB z l) (hz : z < y) : AllB y (z :: l) := ⟨hz, allB_up hz b⟩
theorem room {d n m l : Nat} (h : d + n < l) (hm : Nat.ble m n = true) : d + m < l := Nat.lt_of_le_of_lt (Nat.add_le_add_left (Nat.le_of_ble_eq_true hm) d) h
theorem room2 {d a n m l : Nat} (h : d + n < l) (hm : Nat.ble (a + m) n = true) : d + a + m < l := by rw [Nat.add_assoc]; exact room h hm
theorem ap5 {dx x al hl pl : Nat} (o1 : dx < x) (o2 : x < al) (o3 : al < hl) (o4 : hl < pl) : Apart [pl, hl, al, x, dx] :=
  have b1 : AllB x [dx] := ⟨o1, True.intro⟩
  have b2 := allB_next b1 o2
  have b3 := allB_next b2 o3
  ap_cons (ap_cons (ap_cons (ap_cons (ap_cons ap_nil True.intro) b1) b2) b3) (allB_next b3 o4)
theorem around_all {P : Around → Prop} {fr : List Env} (k : ∀ dp gd un, P ⟨none, dp, some fr, gd, un⟩) : ∀ A : Around, A.handled = none → A.frames = some fr → P A := by
  rintro ⟨hd', dp, fr', gd, un⟩ h1 h2
  cases h1
  cases h2
  exact k dp gd un
theorem cx_elim {w : World} {env : Env} {outer : List Env} {L : Addr} {h₀ : Heap} {P : Prop} (C : Cx w env outer L h₀)
    (k : ∀ (A₀ : Around) (base : Heap) (mean : ExcName → Option Value) (mg mb : Str → Option Value), Below A₀ base outer h₀ → (hd.heap_39 w.params).In h₀ → Top hd.view_39 (looseW hd.view_39 []) mean mg mb h₀ → env.frame = some L → env.scope.kind = .function → P) : P := by
  obtain ⟨A₀, base, mean, mg, mb, B, X, T, hf, hke⟩ := C
  exact k A₀ base mean mg mb B X T hf hke
theorem ks_nil {as' ss : List Addr} : ∀ a ∈ ([] : List Addr), a ∈ as' ∨ a ∈ ss := fun _ h => nomatch h
noncomputable def nth {α : Type} : List α → Nat → Option α
  | [], _ => none
  | a :: _, 0 => some a
  | _ :: l, n + 1 => nth l n
theorem nth_mem {α : Type} {a : α} : ∀ {l : List α} (i : Nat), nth l i = some a → a ∈ l
  | [], i, h => by cases i <;> cases h
  | b :: l, 0, h => by cases h; exact .head _
  | b :: l, n + 1, h => .tail _ (nth_mem n h)
theorem sub_nil {l : List (Addr × Obj)} : ∀ p ∈ ([] : List (Addr × Obj)), p ∈ l := fun _ h => nomatch h
theorem sub_cons {a : Addr × Obj} {l l' : List (Addr × Obj)} (i : Nat) (h : nth l i = some a) (t : ∀ p ∈ l', p ∈ l) : ∀ p ∈ a :: l', p ∈ l := fun p hp => (List.mem_cons.mp hp).elim (fun e => e ▸ nth_mem i h) (t p)
theorem ks_r {a : Addr} {l as' : List Addr} {ss : List (Addr × Obj)} (i : Nat) {o : Obj} (h : nth ss i = some (a, o)) (t : ∀ b ∈ l, b ∈ as' ∨ b ∈ ss.map (·.1)) : ∀ b ∈ a :: l, b ∈ as' ∨ b ∈ ss.map (·.1) := fun b hb => (List.mem_cons.mp hb).elim (fun e => .inr (e ▸ List.mem_map.mpr ⟨_, nth_mem i h, rfl⟩)) (t b)
theorem ks_l {a : Addr} {l as' ss : List Addr} (i : Nat) (h : nth as' i = some a) (t : ∀ b ∈ l, b ∈ as' ∨ b ∈ ss) : ∀ b ∈ a :: l, b ∈ as' ∨ b ∈ ss := fun b hb => (List.mem_cons.mp hb).elim (fun e => .inl (e ▸ nth_mem i h)) (t b)
theorem rng_elim {s : Int} {n i : Nat} {h : Heap} {C : Value → Prop} (k : i < n → ∀ t : Tok, C (.int (s + (i : Int)) t)) : ∀ (a : Itm) (v : Value), (rangeItems s n)[i]? = some a → a.Is v h → C v := by
  intro a v hx ha
  obtain ⟨hi, rfl⟩ := rangeItems_get hx
  obtain ⟨t, rfl⟩ := ha
  exact k hi t
theorem ints_at {vs : List Value} {ns : List Int} (h : IntsAre vs ns) {i : Nat} {C : Value → Prop} (k : ∀ (k : Int) (t : Tok), ns[i]? = some k → C (.int k t)) : ∀ v, vs[i]? = some v → C v := by
  intro v e
  obtain ⟨n, t, rfl, hn⟩ := IntsAre.at h i v e
  exact k n t hn
theorem nat_elim {z : Int} (h : 0 ≤ z) {C : Int → Prop} (k : ∀ n : Nat, C (n : Int)) : C z := by
  obtain ⟨n, rfl⟩ := Int.eq_ofNat_of_zero_le h
  exact k n
theorem canon_elim {h₀ : Heap} {L : Addr} {h : Heap} {P : Prop} {F : (Str → Option Value) → Prop} (hF : ∃ m, F m) (k : ∀ m, F m → P) : P := by
  obtain ⟨m, e⟩ := hF
  exact k m e
theorem lst_elim {sv : List Value} {ns : List Int} (hI : IntsAre sv ns) {i : Nat} {h : Heap} {C : Value → Prop} (k : ∀ (kk : Int) (tt : Tok), ns[i]? = some kk → C (.int kk tt)) : ∀ (a : Itm) (v : Value), (sv.map Itm.val)[i]? = some a → a.Is v h → C v := by
  intro a v hxa hav
  rw [List.getElem?_map] at hxa
  obtain ⟨w1, hw1, rfl⟩ := Option.map_eq_some_iff.mp hxa
  have ev : v = w1 := hav
  subst ev
  obtain ⟨kk, tt, rfl, hkk⟩ := IntsAre.at hI i _ hw1
  exact k kk tt hkk
theorem rmA (env : Env) : (callerA.deeper env).depth + 690 < recursionLimit := by ktr_room
theorem unA (env : Env) : (callerA.deeper env).units + 2800 < cLine := by ktr_units
-- RgP1

theorem above_nat {sp : Nat} (h : 0 < sp) : ((sp : Int) - 1).fdiv 2 = (((sp - 1) / 2 : Nat) : Int) := by
  rw [Int.fdiv_eq_ediv_of_nonneg _ (by decide)]; (first | exact u_lt ‹_› | exact u_n ‹_› | exact p_lt ‹_› | exact p_ne ‹_› | exact p_nf ‹_› | exact p_l ‹_› | exact b_1 ‹_› | exact Nat.ne_of_gt ‹_› | exact Nat.ne_of_lt ‹_› | exact u_ne ‹_› ‹_› | exact u_nf ‹_› ‹_› | exact u_ab ‹_› ‹_› | exact p_n ‹_› ‹_› | exact p_k ‹_› ‹_› | exact l_e ‹_› ‹_› | exact l_f ‹_› ‹_› | exact b_2 ‹_› ‹_› | exact u_1 _ | exact u_2 _ | (apply Nat.lt_trans; assumption; assumption; done) | (apply Nat.lt_of_lt_of_le; assumption; assumption; done) | (apply Nat.lt_of_le_of_lt; assumption; assumption; done) | (apply Nat.le_trans; assumption; assumption; done) | ((fail_if_success (fail_if_success omega (config := {}))); (first | with_reducible assumption | decide | lia | omega (config := {}))))

theorem above_lt {sp f : Nat} (h : 0 < sp) (hf : sp ≤ f + 1) : (sp - 1) / 2 ≤ f := Nat.le_trans (Nat.div_le_self _ _) (Nat.sub_le_of_le_add hf)
/-- the functional rise by fuel: heap and place -/
noncomputable def riseF (act : List Int) (var : Int) : Nat → List Int → List Int → Nat → List Int × List Int
  | 0, heap, place, spot => (heap.set spot var, place.set var.toNat spot)
  | f + 1, heap, place, spot =>
    if 0 < spot then
      if before act var (heap.getD ((spot - 1) / 2) 0) then riseF act var f (heap.set spot (heap.getD ((spot - 1) / 2) 0)) (place.set (heap.getD ((spot - 1) / 2) 0).toNat spot) ((spot - 1) / 2)
      else (heap.set spot var, place.set var.toNat spot)
    else (heap.set spot var, place.set var.toNat spot)
theorem riseF_any (act : List Int) (var : Int) : ∀ (f g : Nat) (heap place : List Int) (spot : Nat), spot ≤ f → spot ≤ g → riseF act var f heap place spot = riseF act var g heap place spot := by
  intro f
  induction f with
  | zero =>
    intro g heap place spot hf _
    cases g with
    | zero => rfl
    | succ g => exact (if_neg (Nat.not_lt.mpr hf)).symm
  | succ f ih =>
    intro g heap place spot hf hg
    cases g with
    | zero => exact if_neg (Nat.not_lt.mpr hg)
    | succ g =>
      show (if 0 < spot then if before act var (heap.getD ((spot - 1) / 2) 0) then riseF act var f _ _ _ else _ else _) = if 0 < spot then if before act var (heap.getD ((spot - 1) / 2) 0) then riseF act var g _ _ _ else _ else _
      by_cases q : 0 < spot
      · rw [if_pos q, if_pos q, ih g _ _ _ (above_lt q hf) (above_lt q hg)]
      · rw [if_neg q, if_neg q]
/-- the functional rise: heap and place -/
noncomputable def riseL (act : List Int) (var : Int) (heap place : List Int) (spot : Nat) : List Int × List Int := riseF act var spot heap place spot
theorem riseL_eq (act : List Int) (var : Int) (heap place : List Int) (spot : Nat) : riseL act var heap place spot =
    if 0 < spot then
      if before act var (heap.getD ((spot - 1) / 2) 0) then riseL act var (heap.set spot (heap.getD ((spot - 1) / 2) 0)) (place.set (heap.getD ((spot - 1) / 2) 0).toNat spot) ((spot - 1) / 2)
      else (heap.set spot var, place.set var.toNat spot)
    else (heap.set spot var, place.set var.toNat spot) := by
  refine (riseF_any act var spot (spot + 1) heap place spot (Nat.le_refl _) (Nat.le_succ _)).trans ?_
  show (if 0 < spot then if before act var (heap.getD ((spot - 1) / 2) 0) then riseF act var spot _ _ _ else _ else _) = if 0 < spot then if before act var (heap.getD ((spot - 1) / 2) 0) then riseF act var ((spot - 1) / 2) _ _ _ else _ else _
  by_cases q : 0 < spot
  · rw [if_pos q, if_pos q, riseF_any act var spot ((spot - 1) / 2) _ _ _ (above_lt q (Nat.le_succ _)) (Nat.le_refl _)]
  · rw [if_neg q, if_neg q]
/-- every item is a number of a var -/
noncomputable def InRange (heap : List Int) (n : Int) : Prop := ∀ v ∈ heap, 0 ≤ v ∧ v < n
theorem InRange.at {heap : List Int} {n : Int} (h : InRange heap n) {i : Nat} (hi : i < heap.length) : 0 ≤ heap.getD i 0 ∧ heap.getD i 0 < n := by
  rw [List.getD_eq_getElem?_getD, List.getElem?_eq_getElem hi]; exact h _ (List.getElem_mem hi)
theorem InRange.set {heap : List Int} {n : Int} (h : InRange heap n) {i : Nat} {v : Int} (h0 : 0 ≤ v) (h1 : v < n) : InRange (heap.set i v) n := fun u hu => by
  rcases List.mem_or_eq_of_mem_set hu with hu | rfl
  · exact h u hu
  · exact ⟨h0, h1⟩

/-- the better child's place, or -1 -/
noncomputable def betterC (act heap : List Int) (spot : Nat) : Int :=
  if 2 * spot + 1 ≥ heap.length then -1
  else if 2 * spot + 2 < heap.length ∧ before act (heap.getD (2 * spot + 2) 0) (heap.getD (2 * spot + 1) 0) = true then ((2 * spot + 2 : Nat) : Int) else ((2 * spot + 1 : Nat) : Int)
theorem betterC_lt {act heap : List Int} {spot : Nat} (h : 0 ≤ betterC act heap spot) : spot < (betterC act heap spot).toNat ∧ (betterC act heap spot).toNat < heap.length := by
  unfold betterC at h ⊢
  split at h
  · (first | exact u_lt ‹_› | exact u_n ‹_› | exact p_lt ‹_› | exact p_ne ‹_› | exact p_nf ‹_› | exact p_l ‹_› | exact b_1 ‹_› | exact Nat.ne_of_gt ‹_› | exact Nat.ne_of_lt ‹_› | exact u_ne ‹_› ‹_› | exact u_nf ‹_› ‹_› | exact u_ab ‹_› ‹_› | exact p_n ‹_› ‹_› | exact p_k ‹_› ‹_› | exact l_e ‹_› ‹_› | exact l_f ‹_› ‹_› | exact b_2 ‹_› ‹_› | exact u_1 _ | exact u_2 _ | (apply Nat.lt_trans; assumption; assumption; done) | (apply Nat.lt_of_lt_of_le; assumption; assumption; done) | (apply Nat.lt_of_le_of_lt; assumption; assumption; done) | (apply Nat.le_trans; assumption; assumption; done) | ((fail_if_success (fail_if_success omega (config := {}))); (first | with_reducible assumption | decide | lia | omega (config := {}))))
  · rename_i h1
    rw [if_neg h1]
    split <;> (first | exact u_lt ‹_› | exact u_n ‹_› | exact p_lt ‹_› | exact p_ne ‹_› | exact p_nf ‹_› | exact p_l ‹_› | exact b_1 ‹_› | exact Nat.ne_of_gt ‹_› | exact Nat.ne_of_lt ‹_› | exact u_ne ‹_› ‹_› | exact u_nf ‹_› ‹_› | exact u_ab ‹_› ‹_› | exact p_n ‹_› ‹_› | exact p_k ‹_› ‹_› | exact l_e ‹_› ‹_› | exact l_f ‹_› ‹_› | exact b_2 ‹_› ‹_› | exact u_1 _ | exact u_2 _ | (apply Nat.lt_trans; assumption; assumption; done) | (apply Nat.lt_of_lt_of_le; assumption; assumption; done) | (apply Nat.lt_of_le_of_lt; assumption; assumption; done) | (apply Nat.le_trans; assumption; assumption; done) | ((fail_if_success (fail_if_success omega (config := {}))); (first | with_reducible assumption | decide | lia | omega (config := {}))))
/-- the functional sink, by fuel -/
noncomputable def sinkF (act : List Int) (var : Int) : Nat → List Int → List Int → Nat → List Int × List Int
  | 0, heap, place, spot => (heap.set spot var, place.set var.toNat spot)
  | f + 1, heap, place, spot =>
    if 0 ≤ betterC act heap spot ∧ before act (heap.getD (betterC act heap spot).toNat 0) var = true then
      sinkF act var f (heap.set spot (heap.getD (betterC act heap spot).toNat 0)) (place.set (heap.getD (betterC act heap spot).toNat 0).toNat spot) (betterC act heap spot).toNat
    else (heap.set spot var, place.set var.toNat spot)
theorem betterC_end {act heap : List Int} {spot : Nat} (h : heap.length ≤ spot) : ¬ (0 ≤ betterC act heap spot) := fun q => absurd (Nat.lt_trans (betterC_lt q).1 (betterC_lt q).2) (Nat.not_lt.mpr h)
theorem sinkF_any (act : List Int) (var : Int) : ∀ (f g : Nat) (heap place : List Int) (spot : Nat), heap.length ≤ spot + f → heap.length ≤ spot + g → sinkF act var f heap place spot = sinkF act var g heap place spot := by
  intro f
  induction f with
  | zero =>
    intro g heap place spot hf _
    cases g with
    | zero => rfl
    | succ g => exact (if_neg fun q => betterC_end hf q.1).symm
  | succ f ih =>
    intro g heap place spot hf hg
    cases g with
    | zero => exact if_neg fun q => betterC_end hg q.1
    | succ g =>
      show (if 0 ≤ betterC act heap spot ∧ before act (heap.getD (betterC act heap spot).toNat 0) var = true then sinkF act var f _ _ _ else _) = if 0 ≤ betterC act heap spot ∧ before act (heap.getD (betterC act heap spot).toNat 0) var = true then sinkF act var g _ _ _ else _
      by_cases q : 0 ≤ betterC act heap spot ∧ before act (heap.getD (betterC act heap spot).toNat 0) var = true
      · have l := (betterC_lt q.1).1
        rw [if_pos q, if_pos q]
        exact ih g _ _ _ (by rw [List.length_set]; (first | exact u_lt ‹_› | exact u_n ‹_› | exact p_lt ‹_› | exact p_ne ‹_› | exact p_nf ‹_› | exact p_l ‹_› | exact b_1 ‹_› | exact Nat.ne_of_gt ‹_› | exact Nat.ne_of_lt ‹_› | exact u_ne ‹_› ‹_› | exact u_nf ‹_› ‹_› | exact u_ab ‹_› ‹_› | exact p_n ‹_› ‹_› | exact p_k ‹_› ‹_› | exact l_e ‹_› ‹_› | exact l_f ‹_› ‹_› | exact b_2 ‹_› ‹_› | exact u_1 _ | exact u_2 _ | (apply Nat.lt_trans; assumption; assumption; done) | (apply Nat.lt_of_lt_of_le; assumption; assumption; done) | (apply Nat.lt_of_le_of_lt; assumption; assumption; done) | (apply Nat.le_trans; assumption; assumption; done) | ((fail_if_success (fail_if_success omega (config := {}))); (first | with_reducible assumption | decide | lia | omega (config := {}))))) (by rw [List.length_set]; (first | exact u_lt ‹_› | exact u_n ‹_› | exact p_lt ‹_› | exact p_ne ‹_› | exact p_nf ‹_› | exact p_l ‹_› | exact b_1 ‹_› | exact Nat.ne_of_gt ‹_› | exact Nat.ne_of_lt ‹_› | exact u_ne ‹_› ‹_› | exact u_nf ‹_› ‹_› | exact u_ab ‹_› ‹_› | exact p_n ‹_› ‹_› | exact p_k ‹_› ‹_› | exact l_e ‹_› ‹_› | exact l_f ‹_› ‹_› | exact b_2 ‹_› ‹_› | exact u_1 _ | exact u_2 _ | (apply Nat.lt_trans; assumption; assumption; done) | (apply Nat.lt_of_lt_of_le; assumption; assumption; done) | (apply Nat.lt_of_le_of_lt; assumption; assumption; done) | (apply Nat.le_trans; assumption; assumption; done) | ((fail_if_success (fail_if_success omega (config := {}))); (first | with_reducible assumption | decide | lia | omega (config := {})))))
      · rw [if_neg q, if_neg q]
/-- the functional sink -/
noncomputable def sinkL (act : List Int) (var : Int) (heap place : List Int) (spot : Nat) : List Int × List Int := sinkF act var heap.length heap place spot
theorem sinkL_eq (act : List Int) (var : Int) (heap place : List Int) (spot : Nat) : sinkL act var heap place spot =
    if 0 ≤ betterC act heap spot ∧ before act (heap.getD (betterC act heap spot).toNat 0) var = true then
      sinkL act var (heap.set spot (heap.getD (betterC act heap spot).toNat 0)) (place.set (heap.getD (betterC act heap spot).toNat 0).toNat spot) (betterC act heap spot).toNat
    else (heap.set spot var, place.set var.toNat spot) := by
  refine (sinkF_any act var heap.length (heap.length + 1) heap place spot (Nat.le_add_left _ _) (Nat.le_trans (Nat.le_succ _) (Nat.le_add_left _ _))).trans ?_
  show _ = if _ then sinkF act var (heap.set _ _).length _ _ _ else _
  rw [List.length_set]
  rfl
/-- the functional pop -/
noncomputable def popL (act heap place : List Int) : Int × List Int × List Int :=
  if heap.length = 0 then (0, heap, place)
  else if heap.length = 1 then (heap.getD 0 0, heap.dropLast, place.set (heap.getD 0 0).toNat (-1))
  else (heap.getD 0 0, sinkL act (heap.getLastD 0) (heap.dropLast.set 0 (heap.getLastD 0)) ((place.set (heap.getD 0 0).toNat (-1)).set (heap.getLastD 0).toNat 0) 0)
-- RgP2

noncomputable def upto (k : Nat) : List Int := (List.range k).map fun (i : Nat) => (i : Int) + 1
noncomputable def places (k : Nat) : List Int := (-1) :: (List.range k).map fun (i : Nat) => (i : Int)
theorem upto_succ (k : Nat) : upto (k + 1) = upto k ++ [(k : Int) + 1] := by
  simp [upto, List.range_succ]
theorem places_succ (k : Nat) : places (k + 1) = places k ++ [(k : Int)] := by
  simp [places, List.range_succ]
theorem upto_length (k : Nat) : (upto k).length = k := by simp [upto]
theorem places_length (k : Nat) : (places k).length = k + 1 := by simp [places]
theorem upto_getD {k i : Nat} (h : i < k) : (upto k).getD i 0 = (i : Int) + 1 := by
  rw [List.getD_eq_getElem?_getD]
  simp [upto, h]
theorem upto_range (k : Nat) {n : Int} (h : (k : Int) < n) : InRange (upto k) n := fun v hv => by
  obtain ⟨i, hi, rfl⟩ := List.mem_map.mp hv
  have := List.mem_range.mp hi
  (first | exact u_lt ‹_› | exact u_n ‹_› | exact p_lt ‹_› | exact p_ne ‹_› | exact p_nf ‹_› | exact p_l ‹_› | exact b_1 ‹_› | exact Nat.ne_of_gt ‹_› | exact Nat.ne_of_lt ‹_› | exact u_ne ‹_› ‹_› | exact u_nf ‹_› ‹_› | exact u_ab ‹_› ‹_› | exact p_n ‹_› ‹_› | exact p_k ‹_› ‹_› | exact l_e ‹_› ‹_› | exact l_f ‹_› ‹_› | exact b_2 ‹_› ‹_› | exact u_1 _ | exact u_2 _ | (apply Nat.lt_trans; assumption; assumption; done) | (apply Nat.lt_of_lt_of_le; assumption; assumption; done) | (apply Nat.lt_of_le_of_lt; assumption; assumption; done) | (apply Nat.le_trans; assumption; assumption; done) | ((fail_if_success (fail_if_success omega (config := {}))); (first | with_reducible assumption | decide | lia | omega (config := {}))))
theorem zeros_getD (n i : Nat) : (List.replicate n (0 : Int)).getD i 0 = 0 := by
  rw [List.getD_eq_getElem?_getD, List.getElem?_replicate]
  split <;> rfl
theorem before_zeros (n : Nat) (i j : Int) : before (List.replicate n 0) i j = decide (i < j) := by
  unfold before
  rw [zeros_getD, zeros_getD, if_neg (by simp)]
theorem set_last (l : List Int) (x y : Int) : (l ++ [x]).set l.length y = l ++ [y] := by
  induction l with
  | nil => rfl
  | cons a r ih => simpa using ih
theorem grow_rise (k n : Nat) : riseL (List.replicate n 0) ((k : Int) + 1) (upto k ++ [(k : Int) + 1]) ((places k ++ [-1]).set ((k : Int) + 1).toNat k) k = (upto (k + 1), places (k + 1)) := by
  have e1 : ((k : Int) + 1).toNat = (places k).length := by rw [places_length]; (first | exact u_lt ‹_› | exact u_n ‹_› | exact p_lt ‹_› | exact p_ne ‹_› | exact p_nf ‹_› | exact p_l ‹_› | exact b_1 ‹_› | exact Nat.ne_of_gt ‹_› | exact Nat.ne_of_lt ‹_› | exact u_ne ‹_› ‹_› | exact u_nf ‹_› ‹_› | exact u_ab ‹_› ‹_› | exact p_n ‹_› ‹_› | exact p_k ‹_› ‹_› | exact l_e ‹_› ‹_› | exact l_f ‹_› ‹_› | exact b_2 ‹_› ‹_› | exact u_1 _ | exact u_2 _ | (apply Nat.lt_trans; assumption; assumption; done) | (apply Nat.lt_of_lt_of_le; assumption; assumption; done) | (apply Nat.lt_of_le_of_lt; assumption; assumption; done) | (apply Nat.le_trans; assumption; assumption; done) | ((fail_if_success (fail_if_success omega (config := {}))); (first | with_reducible assumption | decide | lia | omega (config := {}))))
  have e2 : (upto k ++ [(k : Int) + 1]).set k ((k : Int) + 1) = upto (k + 1) := by
    have := set_last (upto k) ((k : Int) + 1) ((k : Int) + 1)
    rw [upto_length] at this
    rw [this, upto_succ]
  have e3 : ((places k ++ [-1]).set ((k : Int) + 1).toNat k).set ((k : Int) + 1).toNat k = places (k + 1) := by
    rw [e1, set_last, set_last, places_succ]
  rw [riseL_eq]
  split
  · rename_i hk
    have hlt : (k - 1) / 2 < k := by (first | exact u_lt ‹_› | exact u_n ‹_› | exact p_lt ‹_› | exact p_ne ‹_› | exact p_nf ‹_› | exact p_l ‹_› | exact b_1 ‹_› | exact Nat.ne_of_gt ‹_› | exact Nat.ne_of_lt ‹_› | exact u_ne ‹_› ‹_› | exact u_nf ‹_› ‹_› | exact u_ab ‹_› ‹_› | exact p_n ‹_› ‹_› | exact p_k ‹_› ‹_› | exact l_e ‹_› ‹_› | exact l_f ‹_› ‹_› | exact b_2 ‹_› ‹_› | exact u_1 _ | exact u_2 _ | (apply Nat.lt_trans; assumption; assumption; done) | (apply Nat.lt_of_lt_of_le; assumption; assumption; done) | (apply Nat.lt_of_le_of_lt; assumption; assumption; done) | (apply Nat.le_trans; assumption; assumption; done) | ((fail_if_success (fail_if_success omega (config := {}))); (first | with_reducible assumption | decide | lia | omega (config := {}))))
    have : (upto k ++ [(k : Int) + 1]).getD ((k - 1) / 2) 0 = (((k - 1) / 2 : Nat) : Int) + 1 := by
      rw [List.getD_eq_getElem?_getD, List.getElem?_append_left (by rw [upto_length]; exact hlt), ← List.getD_eq_getElem?_getD, upto_getD hlt]
    rw [if_neg (by rw [this, before_zeros]; simp only [decide_eq_true_eq]; (first | exact u_lt ‹_› | exact u_n ‹_› | exact p_lt ‹_› | exact p_ne ‹_› | exact p_nf ‹_› | exact p_l ‹_› | exact b_1 ‹_› | exact Nat.ne_of_gt ‹_› | exact Nat.ne_of_lt ‹_› | exact u_ne ‹_› ‹_› | exact u_nf ‹_› ‹_› | exact u_ab ‹_› ‹_› | exact p_n ‹_› ‹_› | exact p_k ‹_› ‹_› | exact l_e ‹_› ‹_› | exact l_f ‹_› ‹_› | exact b_2 ‹_› ‹_› | exact u_1 _ | exact u_2 _ | (apply Nat.lt_trans; assumption; assumption; done) | (apply Nat.lt_of_lt_of_le; assumption; assumption; done) | (apply Nat.lt_of_le_of_lt; assumption; assumption; done) | (apply Nat.le_trans; assumption; assumption; done) | ((fail_if_success (fail_if_success omega (config := {}))); (first | with_reducible assumption | decide | lia | omega (config := {}))))), e2, e3]
  · rw [e2, e3]
theorem ints_push0 {vs : List Value} {k : Nat} {t : Tok} (h : IntsAre vs (List.replicate (k + 1) 0)) : IntsAre (vs ++ [.int 0 t]) (List.replicate (k + 2) 0) := by
  rw [List.replicate_succ']; exact IntsAre.append h (.cons _ _ .nil)
theorem places_push_getD (k : Nat) : (places k ++ [-1]).getD ((k : Int) + 1).toNat 0 = -1 := by
  have e1 : ((k : Int) + 1).toNat = (places k).length := by rw [places_length]; (first | exact u_lt ‹_› | exact u_n ‹_› | exact p_lt ‹_› | exact p_ne ‹_› | exact p_nf ‹_› | exact p_l ‹_› | exact b_1 ‹_› | exact Nat.ne_of_gt ‹_› | exact Nat.ne_of_lt ‹_› | exact u_ne ‹_› ‹_› | exact u_nf ‹_› ‹_› | exact u_ab ‹_› ‹_› | exact p_n ‹_› ‹_› | exact p_k ‹_› ‹_› | exact l_e ‹_› ‹_› | exact l_f ‹_› ‹_› | exact b_2 ‹_› ‹_› | exact u_1 _ | exact u_2 _ | (apply Nat.lt_trans; assumption; assumption; done) | (apply Nat.lt_of_lt_of_le; assumption; assumption; done) | (apply Nat.lt_of_le_of_lt; assumption; assumption; done) | (apply Nat.le_trans; assumption; assumption; done) | ((fail_if_success (fail_if_success omega (config := {}))); (first | with_reducible assumption | decide | lia | omega (config := {}))))
  rw [e1, List.getD_eq_getElem?_getD, List.getElem?_append_right (Nat.le_refl _)]; simp
/-- the way from a spot to the top, by fuel -/
noncomputable def wayF : Nat → Nat → List Int
  | 0, spot => [(spot : Int)]
  | f + 1, spot => (spot : Int) :: (if 0 < spot then wayF f ((spot - 1) / 2) else [])
theorem wayF_any : ∀ (f g spot : Nat), spot ≤ f → spot ≤ g → wayF f spot = wayF g spot := by
  intro f
  induction f with
  | zero =>
    intro g spot hf _
    cases g with
    | zero => rfl
    | succ g => exact (congrArg (List.cons (spot : Int)) (if_neg (Nat.not_lt.mpr hf))).symm
  | succ f ih =>
    intro g spot hf hg
    cases g with
    | zero => exact congrArg (List.cons (spot : Int)) (if_neg (Nat.not_lt.mpr hg))
    | succ g =>
      refine congrArg (List.cons (spot : Int)) ?_
      by_cases q : 0 < spot
      · rw [if_pos q, if_pos q]
        exact ih g _ (above_lt q hf) (above_lt q hg)
      · rw [if_neg q, if_neg q]
/-- the way from a spot to the top -/
noncomputable def wayL (spot : Nat) : List Int := wayF spot spot
theorem wayL_eq (spot : Nat) : wayL spot = (spot : Int) :: (if 0 < spot then wayL ((spot - 1) / 2) else []) := by
  refine (wayF_any spot (spot + 1) spot (Nat.le_refl _) (Nat.le_succ _)).trans (congrArg (List.cons (spot : Int)) ?_)
  by_cases q : 0 < spot
  · rw [if_pos q, if_pos q]
    exact wayF_any _ _ _ (above_lt q (Nat.le_succ _)) (Nat.le_refl _)
  · rw [if_neg q, if_neg q]
theorem wayL_pos {sp : Nat} (h : 0 < sp) : wayL sp = (sp : Int) :: wayL ((sp - 1) / 2) := (wayL_eq sp).trans (congrArg (List.cons (sp : Int)) (if_pos h))
theorem wayL_zero : wayL 0 = [0] := rfl
theorem next_above {sp : Nat} (h : 0 < sp) : ((sp : Int) + 1).fdiv 2 - 1 = (((sp - 1) / 2 : Nat) : Int) := by
  rw [Int.fdiv_eq_ediv_of_nonneg _ (by decide)]; (first | exact u_lt ‹_› | exact u_n ‹_› | exact p_lt ‹_› | exact p_ne ‹_› | exact p_nf ‹_› | exact p_l ‹_› | exact b_1 ‹_› | exact Nat.ne_of_gt ‹_› | exact Nat.ne_of_lt ‹_› | exact u_ne ‹_› ‹_› | exact u_nf ‹_› ‹_› | exact u_ab ‹_› ‹_› | exact p_n ‹_› ‹_› | exact p_k ‹_› ‹_› | exact l_e ‹_› ‹_› | exact l_f ‹_› ‹_› | exact b_2 ‹_› ‹_› | exact u_1 _ | exact u_2 _ | (apply Nat.lt_trans; assumption; assumption; done) | (apply Nat.lt_of_lt_of_le; assumption; assumption; done) | (apply Nat.lt_of_le_of_lt; assumption; assumption; done) | (apply Nat.le_trans; assumption; assumption; done) | ((fail_if_success (fail_if_success omega (config := {}))); (first | with_reducible assumption | decide | lia | omega (config := {}))))
theorem wayL_len (sp : Nat) : (wayL sp).length ≤ sp + 1 := by
  induction sp using Nat.strongRecOn with
  | ind n ih =>
    rcases Nat.eq_zero_or_pos n with rfl | h
    · rw [wayL_zero]; simp
    · rw [wayL_pos h, List.length_cons]
      have := ih ((n - 1) / 2) (by (first | exact u_lt ‹_› | exact u_n ‹_› | exact p_lt ‹_› | exact p_ne ‹_› | exact p_nf ‹_› | exact p_l ‹_› | exact b_1 ‹_› | exact Nat.ne_of_gt ‹_› | exact Nat.ne_of_lt ‹_› | exact u_ne ‹_› ‹_› | exact u_nf ‹_› ‹_› | exact u_ab ‹_› ‹_› | exact p_n ‹_› ‹_› | exact p_k ‹_› ‹_› | exact l_e ‹_› ‹_› | exact l_f ‹_› ‹_› | exact b_2 ‹_› ‹_› | exact u_1 _ | exact u_2 _ | (apply Nat.lt_trans; assumption; assumption; done) | (apply Nat.lt_of_lt_of_le; assumption; assumption; done) | (apply Nat.lt_of_le_of_lt; assumption; assumption; done) | (apply Nat.le_trans; assumption; assumption; done) | ((fail_if_success (fail_if_success omega (config := {}))); (first | with_reducible assumption | decide | lia | omega (config := {})))))
      (first | exact u_lt ‹_› | exact u_n ‹_› | exact p_lt ‹_› | exact p_ne ‹_› | exact p_nf ‹_› | exact p_l ‹_› | exact b_1 ‹_› | exact Nat.ne_of_gt ‹_› | exact Nat.ne_of_lt ‹_› | exact u_ne ‹_› ‹_› | exact u_nf ‹_› ‹_› | exact u_ab ‹_› ‹_› | exact p_n ‹_› ‹_› | exact p_k ‹_› ‹_› | exact l_e ‹_› ‹_› | exact l_f ‹_› ‹_› | exact b_2 ‹_› ‹_› | exact u_1 _ | exact u_2 _ | (apply Nat.lt_trans; assumption; assumption; done) | (apply Nat.lt_of_lt_of_le; assumption; assumption; done) | (apply Nat.lt_of_le_of_lt; assumption; assumption; done) | (apply Nat.le_trans; assumption; assumption; done) | ((fail_if_success (fail_if_success omega (config := {}))); (first | with_reducible assumption | decide | lia | omega (config := {}))))
theorem wayL_mem {sp : Nat} : ∀ k ∈ wayL sp, 0 ≤ k ∧ k ≤ (sp : Int) := by
  induction sp using Nat.strongRecOn with
  | ind n ih =>
    intro k hk
    rcases Nat.eq_zero_or_pos n with rfl | h
    · rw [wayL_zero] at hk; rw [List.mem_singleton.mp hk]; exact ⟨by decide, by decide⟩
    · rw [wayL_pos h] at hk
      rcases List.mem_cons.mp hk with rfl | hk
      · (first | exact u_lt ‹_› | exact u_n ‹_› | exact p_lt ‹_› | exact p_ne ‹_› | exact p_nf ‹_› | exact p_l ‹_› | exact b_1 ‹_› | exact Nat.ne_of_gt ‹_› | exact Nat.ne_of_lt ‹_› | exact u_ne ‹_› ‹_› | exact u_nf ‹_› ‹_› | exact u_ab ‹_› ‹_› | exact p_n ‹_› ‹_› | exact p_k ‹_› ‹_› | exact l_e ‹_› ‹_› | exact l_f ‹_› ‹_› | exact b_2 ‹_› ‹_› | exact u_1 _ | exact u_2 _ | (apply Nat.lt_trans; assumption; assumption; done) | (apply Nat.lt_of_lt_of_le; assumption; assumption; done) | (apply Nat.lt_of_le_of_lt; assumption; assumption; done) | (apply Nat.le_trans; assumption; assumption; done) | ((fail_if_success (fail_if_success omega (config := {}))); (first | with_reducible assumption | decide | lia | omega (config := {}))))
      · have := ih ((n - 1) / 2) (by (first | exact u_lt ‹_› | exact u_n ‹_› | exact p_lt ‹_› | exact p_ne ‹_› | exact p_nf ‹_› | exact p_l ‹_› | exact b_1 ‹_› | exact Nat.ne_of_gt ‹_› | exact Nat.ne_of_lt ‹_› | exact u_ne ‹_› ‹_› | exact u_nf ‹_› ‹_› | exact u_ab ‹_› ‹_› | exact p_n ‹_› ‹_› | exact p_k ‹_› ‹_› | exact l_e ‹_› ‹_› | exact l_f ‹_› ‹_› | exact b_2 ‹_› ‹_› | exact u_1 _ | exact u_2 _ | (apply Nat.lt_trans; assumption; assumption; done) | (apply Nat.lt_of_lt_of_le; assumption; assumption; done) | (apply Nat.lt_of_le_of_lt; assumption; assumption; done) | (apply Nat.le_trans; assumption; assumption; done) | ((fail_if_success (fail_if_success omega (config := {}))); (first | with_reducible assumption | decide | lia | omega (config := {}))))) k hk
        (first | exact u_lt ‹_› | exact u_n ‹_› | exact p_lt ‹_› | exact p_ne ‹_› | exact p_nf ‹_› | exact p_l ‹_› | exact b_1 ‹_› | exact Nat.ne_of_gt ‹_› | exact Nat.ne_of_lt ‹_› | exact u_ne ‹_› ‹_› | exact u_nf ‹_› ‹_› | exact u_ab ‹_› ‹_› | exact p_n ‹_› ‹_› | exact p_k ‹_› ‹_› | exact l_e ‹_› ‹_› | exact l_f ‹_› ‹_› | exact b_2 ‹_› ‹_› | exact u_1 _ | exact u_2 _ | (apply Nat.lt_trans; assumption; assumption; done) | (apply Nat.lt_of_lt_of_le; assumption; assumption; done) | (apply Nat.lt_of_le_of_lt; assumption; assumption; done) | (apply Nat.le_trans; assumption; assumption; done) | ((fail_if_success (fail_if_success omega (config := {}))); (first | with_reducible assumption | decide | lia | omega (config := {}))))
-- RgL1
noncomputable def lexLt (x1 x2 y1 y2 : Int) : Bool := if x1 = y1 then decide (x2 < y2) else decide (x1 < y1)
section
variable {prog : Program} {w : World} {A : Around} {E : Value → Shared → Prop} {s : Shared} {Q : Value → Shared → Prop} {a b : Addr} {x1 x2 y1 y2 : Int} {t1 t2 u1 u2 : Tok}
theorem wpAny_of_richCompare {op : CmpOp} {v v' : Value} (h : wpAny (model prog w) A (compareOp op v v') Q E s) (ho : (compareOp op v v') = richCompare op v v' := by rfl) : wpAny (model prog w) A (richCompare op v v') Q E s := ho ▸ h
theorem tup_lt_tree {P : PySem.Fin → Shared → Prop} (ha : IsTup s.heap a #[.int x1 t1, .int x2 t2]) (hb : IsTup s.heap b #[.int y1 u1, .int y2 u2]) (h : P (.done (.ret (.bool (lexLt x1 x2 y1 y2)))) s) :
    wpAny (model prog w) A (Builtin.«tuple.__lt__» ⟨[.ref a, .ref b], []⟩) P E s := by
  have hTb : s.TypeIs (.ref b) "tuple" := by
    obtain ⟨ob, hob, hcb, _⟩ := hb
    exact ⟨ob, hob, hcb⟩
  obtain ⟨oa, hoa, _, na, hda⟩ := ha
  obtain ⟨ob, hob, _, nb, hdb⟩ := hb
  show wpAny _ _ (isInstance (.ref b) (.type "tuple") >>= _) _ _ s
  refine wpAny_bind (wpAny_isInstance hTb isSubtype_tuple_tuple ?_)
  simp only [Bool.not_true, Bool.false_eq_true, if_false]
  refine wpAny_bind (wpAny_tupleItemsOf hoa hda ?_)
  refine wpAny_bind (wpAny_tupleItemsOf hob hdb ?_)
  refine wpAny_bind ?_
  show wpAny _ _ (forIn [(Value.int x1 t1, Value.int y1 u1), (Value.int x2 t2, Value.int y2 u2)] (none, ()) _) _ _ _
  rw [List.forIn_cons]
  refine wpAny_bind (wpAny_bind (wpAny_eqBool_int ?_))
  by_cases h1 : x1 = y1
  · subst h1
    rw [beq_self_eq_true]
    simp only [Bool.not_true, Bool.false_eq_true, if_false]
    refine wpAny_pure ?_
    show wpAny _ _ (forIn [(Value.int x2 t2, Value.int y2 u2)] (none, ()) _) _ _ _
    rw [List.forIn_cons]
    refine wpAny_bind (wpAny_bind (wpAny_eqBool_int ?_))
    by_cases h2 : x2 = y2
    · subst h2
      rw [beq_self_eq_true]
      simp only [Bool.not_true, Bool.false_eq_true, if_false]
      refine wpAny_pure ?_
      show wpAny _ _ (forIn [] (none, ()) _) _ _ _
      rw [List.forIn_nil]
      refine wpAny_pure ?_
      refine wpAny_pure ?_
      have e : (lexLt x1 x2 x1 x2) = false := by simp [lexLt]
      rw [e] at h
      exact h
    · have e : ((x2 == y2) = false) := by simpa using h2
      rw [e]
      simp only [Bool.not_false, if_true]
      refine wpAny_bind (wpAny_rule (wpAny_bind ?_))
      refine wpAny_of_richCompare ?_
      refine PyProof.Rows.lt_int ?_
      refine wpAny_bind (wpAny_pure (wpAny_pure ?_))
      refine wpAny_pure ?_
      have e : (lexLt x1 x2 x1 y2) = decide (x2 < y2) := by simp [lexLt]
      rw [e] at h
      exact wpAny_pure h
  · have e : ((x1 == y1) = false) := by simpa using h1
    rw [e]
    simp only [Bool.not_false, if_true]
    refine wpAny_bind (wpAny_rule (wpAny_bind ?_))
    refine wpAny_of_richCompare ?_
    refine PyProof.Rows.lt_int ?_
    refine wpAny_bind (wpAny_pure (wpAny_pure ?_))
    refine wpAny_pure ?_
    have e : (lexLt x1 x2 y1 y2) = decide (x1 < y1) := by
      unfold lexLt; rw [if_neg h1]
    rw [e] at h
    exact wpAny_pure h
theorem tup_lt (ha : IsTup s.heap a #[.int x1 t1, .int x2 t2]) (hb : IsTup s.heap b #[.int y1 u1, .int y2 u2]) (hu : A.units < cLine) (h : Q (.bool (lexLt x1 x2 y1 y2)) s) :
    wpAny (model prog w) A (compareOp .Lt (.ref a) (.ref b)) Q E s := by
  have hTa : s.TypeIs (.ref a) "tuple" := by
    obtain ⟨ob, hob, hcb, _⟩ := ha
    exact ⟨ob, hob, hcb⟩
  have hTb : s.TypeIs (.ref b) "tuple" := by
    obtain ⟨ob, hob, hcb, _⟩ := hb
    exact ⟨ob, hob, hcb⟩
  show wpAny _ _ (richCompare .Lt (.ref a) (.ref b)) _ _ _
  exact wpAny_richCompare_same_room (op := .Lt) hTa hTb PySem.F.slot_tuple_lt
      (wpAny_call_entry PySem.F.slot_tuple_lt hTa PySem.F.entry_tuple_lt (tup_lt_tree ha hb ⟨_, rfl, (fun e => nomatch e), h⟩) (PySem.F.args_tuple_lt_2 _ _)) hu
theorem tup_gt_tree {P : PySem.Fin → Shared → Prop} (ha : IsTup s.heap a #[.int x1 t1, .int x2 t2]) (hb : IsTup s.heap b #[.int y1 u1, .int y2 u2]) (h : P (.done (.ret (.bool (lexLt y1 y2 x1 x2)))) s) :
    wpAny (model prog w) A (Builtin.«tuple.__gt__» ⟨[.ref a, .ref b], []⟩) P E s := by
  have hTb : s.TypeIs (.ref b) "tuple" := by
    obtain ⟨ob, hob, hcb, _⟩ := hb
    exact ⟨ob, hob, hcb⟩
  obtain ⟨oa, hoa, _, na, hda⟩ := ha
  obtain ⟨ob, hob, _, nb, hdb⟩ := hb
  show wpAny _ _ (isInstance (.ref b) (.type "tuple") >>= _) _ _ s
  refine wpAny_bind (wpAny_isInstance hTb isSubtype_tuple_tuple ?_)
  simp only [Bool.not_true, Bool.false_eq_true, if_false]
  refine wpAny_bind (wpAny_tupleItemsOf hoa hda ?_)
  refine wpAny_bind (wpAny_tupleItemsOf hob hdb ?_)
  refine wpAny_bind ?_
  show wpAny _ _ (forIn [(Value.int x1 t1, Value.int y1 u1), (Value.int x2 t2, Value.int y2 u2)] (none, ()) _) _ _ _
  rw [List.forIn_cons]
  refine wpAny_bind (wpAny_bind (wpAny_eqBool_int ?_))
  by_cases h1 : x1 = y1
  · subst h1
    rw [beq_self_eq_true]
    simp only [Bool.not_true, Bool.false_eq_true, if_false]
    refine wpAny_pure ?_
    show wpAny _ _ (forIn [(Value.int x2 t2, Value.int y2 u2)] (none, ()) _) _ _ _
    rw [List.forIn_cons]
    refine wpAny_bind (wpAny_bind (wpAny_eqBool_int ?_))
    by_cases h2 : x2 = y2
    · subst h2
      rw [beq_self_eq_true]
      simp only [Bool.not_true, Bool.false_eq_true, if_false]
      refine wpAny_pure ?_
      show wpAny _ _ (forIn [] (none, ()) _) _ _ _
      rw [List.forIn_nil]
      refine wpAny_pure ?_
      refine wpAny_pure ?_
      have e : (lexLt x1 x2 x1 x2) = false := by simp [lexLt]
      rw [e] at h
      exact h
    · have e : ((x2 == y2) = false) := by simpa using h2
      rw [e]
      simp only [Bool.not_false, if_true]
      refine wpAny_bind (wpAny_rule (wpAny_bind ?_))
      refine wpAny_of_richCompare ?_
      refine PyProof.Rows.gt_int ?_
      refine wpAny_bind (wpAny_pure (wpAny_pure ?_))
      refine wpAny_pure ?_
      have e : (lexLt x1 y2 x1 x2) = decide (y2 < x2) := by simp [lexLt]
      rw [e] at h
      exact wpAny_pure h
  · have e : ((x1 == y1) = false) := by simpa using h1
    rw [e]
    simp only [Bool.not_false, if_true]
    refine wpAny_bind (wpAny_rule (wpAny_bind ?_))
    refine wpAny_of_richCompare ?_
    refine PyProof.Rows.gt_int ?_
    refine wpAny_bind (wpAny_pure (wpAny_pure ?_))
    refine wpAny_pure ?_
    have e : (lexLt y1 y2 x1 x2) = decide (y1 < x1) := by
      unfold lexLt; rw [if_neg (fun e => h1 e.symm)]
    rw [e] at h
    exact wpAny_pure h
theorem tup_gt (ha : IsTup s.heap a #[.int x1 t1, .int x2 t2]) (hb : IsTup s.heap b #[.int y1 u1, .int y2 u2]) (hu : A.units < cLine) (h : Q (.bool (lexLt y1 y2 x1 x2)) s) :
    wpAny (model prog w) A (compareOp .Gt (.ref a) (.ref b)) Q E s := by
  have hTa : s.TypeIs (.ref a) "tuple" := by
    obtain ⟨ob, hob, hcb, _⟩ := ha
    exact ⟨ob, hob, hcb⟩
  have hTb : s.TypeIs (.ref b) "tuple" := by
    obtain ⟨ob, hob, hcb, _⟩ := hb
    exact ⟨ob, hob, hcb⟩
  show wpAny _ _ (richCompare .Gt (.ref a) (.ref b)) _ _ _
  exact wpAny_richCompare_same_room (op := .Gt) hTa hTb PySem.F.slot_tuple_gt
      (wpAny_call_entry PySem.F.slot_tuple_gt hTa PySem.F.entry_tuple_gt (tup_gt_tree ha hb ⟨_, rfl, (fun e => nomatch e), h⟩) (PySem.F.args_tuple_gt_2 _ _)) hu
end
-- RgL5

theorem ints_of_get : ∀ (vs : List Value) (ns : List Int), vs.length = ns.length → (∀ (i : Nat) v k, vs[i]? = some v → ns[i]? = some k → ∃ t, v = Value.int k t) → IntsAre vs ns
  | [], [], _, _ => .nil
  | [], _ :: _, h, _ => nomatch h
  | _ :: _, [], h, _ => nomatch h
  | v :: vs, k :: ns, h, f => by
    obtain ⟨t, rfl⟩ := f 0 v k rfl rfl
    exact .cons k t (ints_of_get vs ns (by simpa using h) fun i v k hv hk => f (i + 1) v k (by simpa using hv) (by simpa using hk))
theorem list_rangeR {prog : Program} {w : World} {A : Around} {E : Value → Shared → Prop} {s : Shared} {h₀ : Heap} {L : Addr} {m : Str → Option Value} {Q : Value → Shared → Prop} {r : Addr} {b : Int} {t u v : Tok} {n : Nat} {news : List (Addr × Obj)} (hh : A.handled = none) (F : Fr h₀ L s.heap m) (N : News h₀ L s.heap news)
    (hr : IsRange s.heap r 1 b 1 t u v) (hsmall : Builtin.Range.small 1 b 1 = true) (hn : Builtin.Range.rangeSize 1 b 1 = ((n : Nat) : Int)) (hlen : n ≤ 2 ^ 24)
    (k : ∀ D c h' tk vs, IntsAre vs (upto n) → Fr h₀ L h' m → News h₀ L h' ((D, PySem.W.listOf vs.toArray c) :: news) → (∀ q ∈ news, @LT.lt Nat _ q.1 D) → @LT.lt Nat _ L D → Q (.ref D) { s with heap := h', toks := tk }) :
    wpAny (model prog w) A (call (.type "list") [.ref r]) Q E s := by
  refine call_list_range hh hr hsmall hn hlen fun h' tk acc' c' hk hS' hacc => ?_
  refine k _ c' h' tk acc'.toList (ints_of_get _ _ (by rw [Array.length_toList, hacc.1, upto_length]) fun i v x hv hx => ?_) (F.keeps hk) (fun p hp => ?_) (fun q hq => Heap.lt_size (N q hq).1) F.ns.lt
  · obtain ⟨t, e⟩ := hacc.2 i v (by simpa using hv)
    unfold upto at hx
    rw [List.getElem?_map] at hx
    obtain ⟨j, hj, e2⟩ := Option.map_eq_some_iff.mp hx
    obtain ⟨hl, he⟩ := List.getElem?_eq_some_iff.mp hj
    rw [List.getElem_range] at he
    subst he
    refine ⟨t, ?_⟩
    rw [e, ← e2]
    congr 1
    (first | exact u_lt ‹_› | exact u_n ‹_› | exact p_lt ‹_› | exact p_ne ‹_› | exact p_nf ‹_› | exact p_l ‹_› | exact b_1 ‹_› | exact Nat.ne_of_gt ‹_› | exact Nat.ne_of_lt ‹_› | exact u_ne ‹_› ‹_› | exact u_nf ‹_› ‹_› | exact u_ab ‹_› ‹_› | exact p_n ‹_› ‹_› | exact p_k ‹_› ‹_› | exact l_e ‹_› ‹_› | exact l_f ‹_› ‹_› | exact b_2 ‹_› ‹_› | exact u_1 _ | exact u_2 _ | (apply Nat.lt_trans; assumption; assumption; done) | (apply Nat.lt_of_lt_of_le; assumption; assumption; done) | (apply Nat.lt_of_le_of_lt; assumption; assumption; done) | (apply Nat.le_trans; assumption; assumption; done) | ((fail_if_success (fail_if_success omega (config := {}))); (first | with_reducible assumption | decide | lia | omega (config := {}))))
  · rcases List.mem_cons.mp hp with rfl | hp
    · exact ⟨by simpa using hS', Nat.ne_of_gt F.ns.lt, Heap.get?_none_of_le (Nat.le_trans F.above (Nat.le_of_lt F.ns.lt))⟩
    · exact ⟨hk _ _ (N p hp).1, (N p hp).2⟩
theorem cut_of : ∀ (l : List Value) (k : Nat) (h : k < l.length), kl_cut l k = some (l.take k, l[k], l.drop (k + 1))
  | [], _, h => nomatch h
  | x :: r, 0, _ => rfl
  | x :: r, k + 1, h => by
    unfold kl_cut
    rw [cut_of r k (by simpa using h)]
    rfl
theorem intsAre_erase : ∀ {vs : List Value} {ns : List Int} (k : Nat), IntsAre vs ns → IntsAre (vs.eraseIdx k) (ns.eraseIdx k)
  | _, _, _, .nil => .nil
  | _, _, 0, .cons _ _ h => h
  | _, _, k + 1, .cons n t h => .cons n t (intsAre_erase k h)
theorem pop_at_ints {prog : Program} {w : World} {A : Around} {E : Value → Shared → Prop} {s : Shared} {h₀ : Heap} {L D : Addr} {m : Str → Option Value} {news news' : List (Addr × Obj)} {n : Nat} {vs : List Value} {ns : List Int} {k : Nat} {u : Tok} {Q : Value → Shared → Prop} (F : Fr h₀ L s.heap m) (N : News h₀ L s.heap news) (hi : IntsAre vs ns) (hk : k < ns.length) (hl : ns.length ≤ 1000)
    (U : PySem.W.Upd D (PySem.W.listOf vs.toArray n) (PySem.W.listOf (vs.eraseIdx k).toArray (n + 1)) news news')
    (h : ∀ h' t, IntsAre (vs.eraseIdx k) (ns.eraseIdx k) → Fr h₀ L h' m → News h₀ L h' news' → Q (.int (ns.getD k 0) t) { s with heap := h' }) : wpAny (model prog w) A (call (.builtin "list.pop") [.ref D, .int (k : Int) u]) Q E s := by
  have e1 := hi.length
  have hkv : k < vs.length := by (first | exact u_lt ‹_› | exact u_n ‹_› | exact p_lt ‹_› | exact p_ne ‹_› | exact p_nf ‹_› | exact p_l ‹_› | exact b_1 ‹_› | exact Nat.ne_of_gt ‹_› | exact Nat.ne_of_lt ‹_› | exact u_ne ‹_› ‹_› | exact u_nf ‹_› ‹_› | exact u_ab ‹_› ‹_› | exact p_n ‹_› ‹_› | exact p_k ‹_› ‹_› | exact l_e ‹_› ‹_› | exact l_f ‹_› ‹_› | exact b_2 ‹_› ‹_› | exact u_1 _ | exact u_2 _ | (apply Nat.lt_trans; assumption; assumption; done) | (apply Nat.lt_of_lt_of_le; assumption; assumption; done) | (apply Nat.lt_of_le_of_lt; assumption; assumption; done) | (apply Nat.le_trans; assumption; assumption; done) | ((fail_if_success (fail_if_success omega (config := {}))); (first | with_reducible assumption | decide | lia | omega (config := {}))))
  obtain ⟨a, t, e2, e3⟩ := IntsAre.at hi k vs[k] (List.getElem?_eq_getElem hkv)
  have e4 : ns.getD k 0 = a := by rw [List.getD_eq_getElem?_getD, e3]; rfl
  refine kl_popAt (n := n) (news' := news') F N (by unfold Builtin.List.listFitsIndex; simp only [Bool.and_eq_true, decide_eq_true_eq]; (first | exact u_lt ‹_› | exact u_n ‹_› | exact p_lt ‹_› | exact p_ne ‹_› | exact p_nf ‹_› | exact p_l ‹_› | exact b_1 ‹_› | exact Nat.ne_of_gt ‹_› | exact Nat.ne_of_lt ‹_› | exact u_ne ‹_› ‹_› | exact u_nf ‹_› ‹_› | exact u_ab ‹_› ‹_› | exact p_n ‹_› ‹_› | exact p_k ‹_› ‹_› | exact l_e ‹_› ‹_› | exact l_f ‹_› ‹_› | exact b_2 ‹_› ‹_› | exact u_1 _ | exact u_2 _ | (apply Nat.lt_trans; assumption; assumption; done) | (apply Nat.lt_of_lt_of_le; assumption; assumption; done) | (apply Nat.lt_of_le_of_lt; assumption; assumption; done) | (apply Nat.le_trans; assumption; assumption; done) | ((fail_if_success (fail_if_success omega (config := {}))); (first | with_reducible assumption | decide | lia | omega (config := {}))))) (k := k) (p := vs.take k) (y := vs[k]) (q := vs.drop (k + 1)) ?_ (cut_of vs k hkv) ?_ (by show vs.length ≤ sizeLine; rw [sizeLine_eq]; (first | exact u_lt ‹_› | exact u_n ‹_› | exact p_lt ‹_› | exact p_ne ‹_› | exact p_nf ‹_› | exact p_l ‹_› | exact b_1 ‹_› | exact Nat.ne_of_gt ‹_› | exact Nat.ne_of_lt ‹_› | exact u_ne ‹_› ‹_› | exact u_nf ‹_› ‹_› | exact u_ab ‹_› ‹_› | exact p_n ‹_› ‹_› | exact p_k ‹_› ‹_› | exact l_e ‹_› ‹_› | exact l_f ‹_› ‹_› | exact b_2 ‹_› ‹_› | exact u_1 _ | exact u_2 _ | (apply Nat.lt_trans; assumption; assumption; done) | (apply Nat.lt_of_lt_of_le; assumption; assumption; done) | (apply Nat.lt_of_le_of_lt; assumption; assumption; done) | (apply Nat.le_trans; assumption; assumption; done) | ((fail_if_success (fail_if_success omega (config := {}))); (first | with_reducible assumption | decide | lia | omega (config := {}))))) fun h' F' N' => ?_
  · unfold seqIndex?
    have : ¬ (k : Int) < 0 := by (first | exact u_lt ‹_› | exact u_n ‹_› | exact p_lt ‹_› | exact p_ne ‹_› | exact p_nf ‹_› | exact p_l ‹_› | exact b_1 ‹_› | exact Nat.ne_of_gt ‹_› | exact Nat.ne_of_lt ‹_› | exact u_ne ‹_› ‹_› | exact u_nf ‹_› ‹_› | exact u_ab ‹_› ‹_› | exact p_n ‹_› ‹_› | exact p_k ‹_› ‹_› | exact l_e ‹_› ‹_› | exact l_f ‹_› ‹_› | exact b_2 ‹_› ‹_› | exact u_1 _ | exact u_2 _ | (apply Nat.lt_trans; assumption; assumption; done) | (apply Nat.lt_of_lt_of_le; assumption; assumption; done) | (apply Nat.lt_of_le_of_lt; assumption; assumption; done) | (apply Nat.le_trans; assumption; assumption; done) | ((fail_if_success (fail_if_success omega (config := {}))); (first | with_reducible assumption | decide | lia | omega (config := {}))))
    simp only [this, if_false, List.size_toArray]
    rw [if_pos (by simp only [Bool.and_eq_true, decide_eq_true_eq]; (first | exact u_lt ‹_› | exact u_n ‹_› | exact p_lt ‹_› | exact p_ne ‹_› | exact p_nf ‹_› | exact p_l ‹_› | exact b_1 ‹_› | exact Nat.ne_of_gt ‹_› | exact Nat.ne_of_lt ‹_› | exact u_ne ‹_› ‹_› | exact u_nf ‹_› ‹_› | exact u_ab ‹_› ‹_› | exact p_n ‹_› ‹_› | exact p_k ‹_› ‹_› | exact l_e ‹_› ‹_› | exact l_f ‹_› ‹_› | exact b_2 ‹_› ‹_› | exact u_1 _ | exact u_2 _ | (apply Nat.lt_trans; assumption; assumption; done) | (apply Nat.lt_of_lt_of_le; assumption; assumption; done) | (apply Nat.lt_of_le_of_lt; assumption; assumption; done) | (apply Nat.le_trans; assumption; assumption; done) | ((fail_if_success (fail_if_success omega (config := {}))); (first | with_reducible assumption | decide | lia | omega (config := {})))))]
    simp
  · rw [← List.eraseIdx_eq_take_drop_succ]; exact U
  · rw [e2]
    rw [← e4]
    exact h h' t (intsAre_erase k hi) F' N'
local macro_rules | `(tactic| k_lt $h:ident) => `(tactic| (replace $h:ident := allLt_of $h; dsimp only [AllLt] at $h:ident))
local macro_rules | `(tactic| omega) => `(tactic| first | (apply ap_x; assumption; (repeat constructor); done) | (refine Nat.ne_of_gt ?_; simp only [*]; done) | (refine Nat.ne_of_lt ?_; simp only [*]; done) |  ((fail_if_success fail_if_success omega +splitNatSub); first | with_reducible assumption | decide | lia))
local macro_rules | `(tactic| walk_at "exec While Compare cons nil") => `(tactic| apply stop_of)
local macro_rules | `(tactic| walk_at "exec While BoolOp cons nil") => `(tactic| apply stop_of)
local macro_rules | `(tactic| walk_at "call ref") => `(tactic| apply stop_of)
local macro_rules | `(tactic| walk_at "KswEnd") => `(tactic| apply stop_of)
-- RgC1
theorem many_spec {w : World} {env : Env} {outer : List Env} {L : Addr} {h₀ : Heap} {m : Str → Option Value} {dp un : Nat} {gd : Option (List Code)} {s : Shared} {Q E : Value → Shared → Prop}
    {x dx al hl pl : Addr} {D : DP} {avs : List Value} {na : Nat} {act : List Int}
    (C : Cx w env outer L h₀) (F : Fr h₀ L s.heap m) (N : News h₀ L s.heap [(x, instObj 144 dx), (dx, oDict D al hl pl), (al, oList avs na)])
    (hdp : dp + 20 < recursionLimit) (hun : un + 100 < cLine)
    (ha : IntsAre avs act) (hlen : act.length ≤ 1000)
    (k : ∀ h' tk' t, Fr h₀ L h' m → KeptAll s.heap h' → Q (.int ((act.length : Int) - 1) t) { s with heap := h', toks := tk' }) :
    wpAny (model PySem.Challenge.rw_rg0205_01.row.prog w) ⟨none, dp, some (env :: outer), gd, un⟩ (call (.ref 43) [.ref x]) Q E s := by
  refine cx_elim C fun A₀ base mean mg mb B X T hf hke => ?_
  revert X
  k_fill
  intro X
  refine wpAny_call ?_
  refine' enterR (binds := [(Str.ofString "self", .ref x)]) B F X N T rfl hf hke ?k6 ?k7 ?k8 ?k9 ?kB ?_ ?c2 ?c3 ?c4 ?c5
  case k6 => k_is
  case k7 => k_is
  case k8 => exact Nat.lt_of_le_of_lt (Nat.le_add_right _ _) hdp
  case k9 => exact BindsTo.of_eq rfl
  case kB => exact locs rfl
  case c2 => exact rfl
  case c3 => exact rfl
  case c4 => exact rfl
  case c5 => decide
  intro g' L' h' FG' F' N' B' X' T' l1 hL C'
  dsimp only
  k_fold
  k_lt l1
  k_steps
  exact k _ _ _ (by assumption) (keptAll_of N (by assumption) (by assumption))

theorem is_before_spec {w : World} {env : Env} {outer : List Env} {L : Addr} {h₀ : Heap} {m : Str → Option Value} {dp un : Nat} {gd : Option (List Code)} {s : Shared} {Q E : Value → Shared → Prop}
    {x dx al hl pl : Addr} {D : DP} {avs : List Value} {na : Nat} {act : List Int} {one other : Int} {t1 t2 : Tok}
    (C : Cx w env outer L h₀) (F : Fr h₀ L s.heap m) (N : News h₀ L s.heap [(x, instObj 144 dx), (dx, oDict D al hl pl), (al, oList avs na)])
    (hdp : dp + 20 < recursionLimit) (hun : un + 100 < cLine)
    (ha : IntsAre avs act) (hlen : act.length ≤ 1000) (h1 : 0 ≤ one) (h1' : one < act.length) (h2 : 0 ≤ other) (h2' : other < act.length)
    (k : ∀ h' tk', Fr h₀ L h' m → KeptAll s.heap h' → Q (.bool (before act one other)) { s with heap := h', toks := tk' }) :
    wpAny (model PySem.Challenge.rw_rg0205_01.row.prog w) ⟨none, dp, some (env :: outer), gd, un⟩ (call (.ref 57) [.ref x, .int one t1, .int other t2]) Q E s := by
  refine cx_elim C fun A₀ base mean mg mb B X T hf hke => ?_
  revert X
  k_fill
  intro X
  refine wpAny_call ?_
  refine' enterR (binds := [(Str.ofString "self", .ref x), (Str.ofString "one", .int one t1), (Str.ofString "other", .int other t2)]) B F X N T rfl hf hke ?k6 ?k7 ?k8 ?k9 ?kB ?_ ?c2 ?c3 ?c4 ?c5
  case k6 => k_is
  case k7 => k_is
  case k8 => exact Nat.lt_of_le_of_lt (Nat.le_add_right _ _) hdp
  case k9 => exact BindsTo.of_eq rfl
  case kB => exact locs rfl
  case c2 => exact rfl
  case c3 => exact rfl
  case c4 => exact rfl
  case c5 => decide
  intro g' L' h' FG' F' N' B' X' T' l1 hL C'
  dsimp only
  k_fold
  k_lt l1
  k_steps
  · rename_i hne _ _ _ _ _ _ _ _
    have e : before act one other = decide (act.getD other.toNat 0 < act.getD one.toNat 0) := by unfold before; rw [if_pos (by assumption)]
    rw [← e]
    exact k _ _ (by assumption) (keptAll_of N (by assumption) (by assumption))
  · have e : before act one other = decide (one < other) := by unfold before; rw [if_neg (fun h => h (by assumption))]
    rw [← e]
    exact k _ _ (by assumption) (keptAll_of N (by assumption) (by assumption))

theorem is_held_spec {w : World} {env : Env} {outer : List Env} {L : Addr} {h₀ : Heap} {m : Str → Option Value} {dp un : Nat} {gd : Option (List Code)} {s : Shared} {Q E : Value → Shared → Prop}
    {x dx al hl pl : Addr} {D : DP} {pvs : List Value} {np : Nat} {place : List Int} {var : Int} {t1 : Tok}
    (C : Cx w env outer L h₀) (F : Fr h₀ L s.heap m) (N : News h₀ L s.heap [(x, instObj 144 dx), (dx, oDict D al hl pl), (pl, oList pvs np)])
    (hdp : dp + 20 < recursionLimit) (hun : un + 100 < cLine)
    (hp : IntsAre pvs place) (hlen : place.length ≤ 1000) (h1 : 0 ≤ var) (h1' : var < place.length)
    (k : ∀ h' tk', Fr h₀ L h' m → KeptAll s.heap h' → Q (.bool (decide (0 ≤ place.getD var.toNat 0))) { s with heap := h', toks := tk' }) :
    wpAny (model PySem.Challenge.rw_rg0205_01.row.prog w) ⟨none, dp, some (env :: outer), gd, un⟩ (call (.ref 50) [.ref x, .int var t1]) Q E s := by
  refine cx_elim C fun A₀ base mean mg mb B X T hf hke => ?_
  revert X
  k_fill
  intro X
  refine wpAny_call ?_
  refine' enterR (binds := [(Str.ofString "self", .ref x), (Str.ofString "var", .int var t1)]) B F X N T rfl hf hke ?k6 ?k7 ?k8 ?k9 ?kB ?_ ?c2 ?c3 ?c4 ?c5
  case k6 => k_is
  case k7 => k_is
  case k8 => exact Nat.lt_of_le_of_lt (Nat.le_add_right _ _) hdp
  case k9 => exact BindsTo.of_eq rfl
  case kB => exact locs rfl
  case c2 => exact rfl
  case c3 => exact rfl
  case c4 => exact rfl
  case c5 => decide
  intro g' L' h' FG' F' N' B' X' T' l1 hL C'
  dsimp only
  k_fold
  k_lt l1
  k_steps
  exact k _ _ (by assumption) (keptAll_of N (by assumption) (by assumption))

theorem put_spec {w : World} {env : Env} {outer : List Env} {L : Addr} {h₀ : Heap} {m : Str → Option Value} {dp un : Nat} {gd : Option (List Code)} {s : Shared} {Q E : Value → Shared → Prop}
    {x dx al hl pl : Addr} {D : DP} {hvs pvs : List Value} {nh np : Nat} {heap place : List Int} {spot var : Int} {t1 t2 : Tok}
    (C : Cx w env outer L h₀) (F : Fr h₀ L s.heap m) (N : News h₀ L s.heap [(x, instObj 144 dx), (dx, oDict D al hl pl), (hl, oList hvs nh), (pl, oList pvs np)])
    (hdp : dp + 20 < recursionLimit) (hun : un + 100 < cLine)
    (o1 : @LT.lt Nat _ dx x) (o2 : @LT.lt Nat _ x al) (o3 : @LT.lt Nat _ al hl) (o4 : @LT.lt Nat _ hl pl) (hh : IntsAre hvs heap) (hp : IntsAre pvs place) (hlen : heap.length ≤ 1000) (hlen2 : place.length ≤ 1000) (h1 : 0 ≤ spot) (h1' : spot < heap.length) (h2 : 0 ≤ var) (h2' : var < place.length)
    (k : ∀ h' tk' hvs' nh' pvs' np', IntsAre hvs' (heap.set spot.toNat var) → IntsAre pvs' (place.set var.toNat spot) → Fr h₀ L h' m → News h₀ L h' [(hl, oList hvs' nh'), (pl, oList pvs' np')] → Kept s.heap h' [hl, pl] → Q .none { s with heap := h', toks := tk' }) :
    wpAny (model PySem.Challenge.rw_rg0205_01.row.prog w) ⟨none, dp, some (env :: outer), gd, un⟩ (call (.ref 71) [.ref x, .int spot t1, .int var t2]) Q E s := by
  refine cx_elim C fun A₀ base mean mg mb B X T hf hke => ?_
  revert X
  k_fill
  intro X
  refine wpAny_call ?_
  refine' enterR (binds := [(Str.ofString "self", .ref x), (Str.ofString "spot", .int spot t1), (Str.ofString "var", .int var t2)]) B F X N T rfl hf hke ?k6 ?k7 ?k8 ?k9 ?kB ?_ ?c2 ?c3 ?c4 ?c5
  case k6 => k_is
  case k7 => k_is
  case k8 => exact Nat.lt_of_le_of_lt (Nat.le_add_right _ _) hdp
  case k9 => exact BindsTo.of_eq rfl
  case kB => exact locs rfl
  case c2 => exact rfl
  case c3 => exact rfl
  case c4 => exact rfl
  case c5 => decide
  intro g' L' h' FG' F' N' B' X' T' l1 hL C'
  dsimp only
  k_fold
  k_lt l1
  have ap := ap5 o1 o2 o3 o4
  k_steps
  have kN9 := ‹News h₀ L _ _›
  have kP9 := ‹Kept s.heap _ _›
  refine k _ _ _ _ _ _ (by assumption) (by assumption) (by assumption) (news_sub kN9 (by (first | ((repeat (first | exact sub_nil | refine sub_cons 0 rfl ?_ | refine sub_cons 1 rfl ?_ | refine sub_cons 2 rfl ?_ | refine sub_cons 3 rfl ?_ | refine sub_cons 4 rfl ?_ | refine sub_cons 5 rfl ?_ | refine sub_cons 6 rfl ?_ | refine sub_cons 7 rfl ?_ | refine sub_cons 8 rfl ?_ | refine sub_cons 9 rfl ?_ | refine sub_cons 10 rfl ?_ | refine sub_cons 11 rfl ?_ | refine sub_cons 12 rfl ?_ | refine sub_cons 13 rfl ?_)); done) | kcf_all))) (kept_shrink (same := [(x, instObj 144 dx), (dx, oDict D al hl pl)]) N kN9 kP9 (by (first | ((repeat (first | exact ks_nil | refine ks_l 0 rfl ?_ | refine ks_l 1 rfl ?_ | refine ks_l 2 rfl ?_ | refine ks_l 3 rfl ?_ | refine ks_l 4 rfl ?_ | refine ks_r 0 rfl ?_ | refine ks_r 1 rfl ?_ | refine ks_r 2 rfl ?_ | refine ks_r 3 rfl ?_ | refine ks_r 4 rfl ?_ | refine ks_r 5 rfl ?_)); done) | simp)) (by (first | ((repeat (first | exact sub_nil | refine sub_cons 0 rfl ?_ | refine sub_cons 1 rfl ?_ | refine sub_cons 2 rfl ?_ | refine sub_cons 3 rfl ?_ | refine sub_cons 4 rfl ?_ | refine sub_cons 5 rfl ?_ | refine sub_cons 6 rfl ?_ | refine sub_cons 7 rfl ?_ | refine sub_cons 8 rfl ?_ | refine sub_cons 9 rfl ?_ | refine sub_cons 10 rfl ?_ | refine sub_cons 11 rfl ?_ | refine sub_cons 12 rfl ?_ | refine sub_cons 13 rfl ?_)); done) | kcf_all)) (by (first | ((repeat (first | exact sub_nil | refine sub_cons 0 rfl ?_ | refine sub_cons 1 rfl ?_ | refine sub_cons 2 rfl ?_ | refine sub_cons 3 rfl ?_ | refine sub_cons 4 rfl ?_ | refine sub_cons 5 rfl ?_ | refine sub_cons 6 rfl ?_ | refine sub_cons 7 rfl ?_ | refine sub_cons 8 rfl ?_ | refine sub_cons 9 rfl ?_ | refine sub_cons 10 rfl ?_ | refine sub_cons 11 rfl ?_ | refine sub_cons 12 rfl ?_ | refine sub_cons 13 rfl ?_)); done) | kcf_all)))
-- RgL6

theorem set_heap {w : World} {L : Addr} {h₀ : Heap} {m : Str → Option Value} {A : Around} {s : Shared} {E : Value → Shared → Prop} {Q : Unit → Shared → Prop} {x dx al hl pl v : Addr} {D : DP} {news news' : List (Addr × Obj)}
    (X : (hd.heap_39 w.params).In h₀) (F : Fr h₀ L s.heap m) (N : News h₀ L s.heap news) (I : InstAt s.heap x (instObj 144 dx) 144 (some (oDict D al hl pl))) (U : Upd dx (oDict D al hl pl) (oDict D al v pl) news news')
    (h : ∀ h', Fr h₀ L h' m → News h₀ L h' news' → Q () { s with heap := h', toks := s.toks + 2 }) : wpAny (model PySem.Challenge.rw_rg0205_01.row.prog w) A (setAttr (.ref x) (Str.ofString "heap") (.ref v)) Q E s := by
  revert X
  k_fill
  intro X
  refine' set_dict F X N I ?k5 ?k6 ?k7 ?k8 ?k9 ?k10 ?k11 U ?k13 h
  case k5 => exact rfl
  case k6 => k_is
  case k7 => k_is
  case k8 => k_is
  case k9 => k_is
  case k10 => rfl
  case k11 => rfl
  case k13 => exact Nat.le_of_ble_eq_true rfl

theorem set_place {w : World} {L : Addr} {h₀ : Heap} {m : Str → Option Value} {A : Around} {s : Shared} {E : Value → Shared → Prop} {Q : Unit → Shared → Prop} {x dx al hl pl v : Addr} {D : DP} {news news' : List (Addr × Obj)}
    (X : (hd.heap_39 w.params).In h₀) (F : Fr h₀ L s.heap m) (N : News h₀ L s.heap news) (I : InstAt s.heap x (instObj 144 dx) 144 (some (oDict D al hl pl))) (U : Upd dx (oDict D al hl pl) (oDict D al hl v) news news')
    (h : ∀ h', Fr h₀ L h' m → News h₀ L h' news' → Q () { s with heap := h', toks := s.toks + 2 }) : wpAny (model PySem.Challenge.rw_rg0205_01.row.prog w) A (setAttr (.ref x) (Str.ofString "place") (.ref v)) Q E s := by
  revert X
  k_fill
  intro X
  refine' set_dict F X N I ?k5 ?k6 ?k7 ?k8 ?k9 ?k10 ?k11 U ?k13 h
  case k5 => exact rfl
  case k6 => k_is
  case k7 => k_is
  case k8 => k_is
  case k9 => k_is
  case k10 => rfl
  case k11 => rfl
  case k13 => exact Nat.le_of_ble_eq_true rfl
-- RgC2

structure RiseS where
  sp : Nat
  t : Tok
  hvs : List Value
  nh : Nat
  pvs : List Value
  np : Nat
  heap : List Int
  place : List Int
theorem rise_spec {w : World} {env : Env} {outer : List Env} {L : Addr} {h₀ : Heap} {m : Str → Option Value} {dp un : Nat} {gd : Option (List Code)} {s : Shared} {Q E : Value → Shared → Prop}
    {x dx al hl pl : Addr} {D : DP} {avs hvs pvs : List Value} {na nh np : Nat} {act heap place : List Int} {spot : Int} {t1 : Tok}
    (C : Cx w env outer L h₀) (F : Fr h₀ L s.heap m) (N : News h₀ L s.heap [(x, instObj 144 dx), (dx, oDict D al hl pl), (al, oList avs na), (hl, oList hvs nh), (pl, oList pvs np)])
    (hdp : dp + 40 < recursionLimit) (hun : un + 200 < cLine)
    (o1 : @LT.lt Nat _ dx x) (o2 : @LT.lt Nat _ x al) (o3 : @LT.lt Nat _ al hl) (o4 : @LT.lt Nat _ hl pl) (ha : IntsAre avs act) (hh : IntsAre hvs heap) (hp : IntsAre pvs place) (la : act.length ≤ 1000) (lh : heap.length ≤ 1000) (lp : place.length = act.length) (h1 : 0 ≤ spot) (h1' : spot < heap.length) (hr : InRange heap act.length)
    (k : ∀ h' tk' hvs' nh' pvs' np', IntsAre hvs' (riseL act (heap.getD spot.toNat 0) heap place spot.toNat).1 → IntsAre pvs' (riseL act (heap.getD spot.toNat 0) heap place spot.toNat).2 → Fr h₀ L h' m → News h₀ L h' [(hl, oList hvs' nh'), (pl, oList pvs' np')] → Kept s.heap h' [hl, pl] → Q .none { s with heap := h', toks := tk' }) :
    wpAny (model PySem.Challenge.rw_rg0205_01.row.prog w) ⟨none, dp, some (env :: outer), gd, un⟩ (call (.ref 78) [.ref x, .int spot t1]) Q E s := by
  refine cx_elim C fun A₀ base mean mg mb B X T hf hke => ?_
  revert X
  k_fill
  intro X
  refine wpAny_call ?_
  refine' enterR (binds := [(Str.ofString "self", .ref x), (Str.ofString "spot", .int spot t1)]) B F X N T rfl hf hke ?k6 ?k7 ?k8 ?k9 ?kB ?_ ?c2 ?c3 ?c4 ?c5
  case k6 => k_is
  case k7 => k_is
  case k8 => exact Nat.lt_of_le_of_lt (Nat.le_add_right _ _) hdp
  case k9 => exact BindsTo.of_eq rfl
  case kB => exact locs rfl
  case c2 => exact rfl
  case c3 => exact rfl
  case c4 => exact rfl
  case c5 => decide
  intro g' L' h' FG' F' N' B' X' T' l1 hL C'
  dsimp only
  k_fold
  k_lt l1
  have ap := ap5 o1 o2 o3 o4
  obtain ⟨sp0, rfl⟩ := Int.eq_ofNat_of_zero_le h1
  simp only [Int.toNat_natCast] at k
  have hr0 := hr.at (i := sp0) (by (first | (apply ap_x; assumption; (repeat constructor); done) | (refine Nat.ne_of_gt ?_; simp only [*]; done) | (refine Nat.ne_of_lt ?_; simp only [*]; done) | ((fail_if_success (fail_if_success omega (config := {}))); (first | with_reducible assumption | decide | lia | omega (config := {})))))
  k_steps
  rename_i tv h9 F9 N9
  refine stop_go ?_
  refine ksw_while (σ := RiseS) (fun c => [(x, instObj 144 dx), (dx, oDict D al hl pl), (al, oList avs na), (hl, oList c.hvs c.nh), (pl, oList c.pvs c.np)]) (fun c => [(Str.ofString "spot", .int c.sp c.t)]) (fun _ => True) [Str.ofString "above"]
    (fun c => riseL act (heap.getD sp0 0) c.heap c.place c.sp = riseL act (heap.getD sp0 0) heap place sp0 ∧ c.heap.length = heap.length ∧ c.place.length = place.length ∧ c.sp < heap.length ∧ InRange c.heap act.length ∧ IntsAre c.hvs c.heap ∧ IntsAre c.pvs c.place)
    (fun c => c.sp) ⟨sp0, t1, hvs, nh, pvs, np, heap, place⟩ F9 N9 trivial (by kst_all) ⟨rfl, rfl, rfl, by show sp0 < heap.length; (first | (apply ap_x; assumption; (repeat constructor); done) | (refine Nat.ne_of_gt ?_; simp only [*]; done) | (refine Nat.ne_of_lt ?_; simp only [*]; done) | ((fail_if_success (fail_if_success omega (config := {}))); (first | with_reducible assumption | decide | lia | omega (config := {})))), hr, hh, hp⟩ ?_
  rintro ⟨sp, t, hvs1, nh1, pvs1, np1, heap1, place1⟩ u h tk _ hJ F1 N1
  dsimp only at hJ
  have e := hJ.1
  have lh1 := hJ.2.1
  have lp1 := hJ.2.2.1
  have hsp := hJ.2.2.2.1
  have hr1 := hJ.2.2.2.2.1
  have hh1 := hJ.2.2.2.2.2.1
  have hp1 := hJ.2.2.2.2.2.2
  clear hJ
  clear F9 N9
  dsimp only at e lh1 lp1 hsp hr1 hh1 hp1 F1 N1 ⊢
  show wpAny _ _ _ _ _ _
  k_fold
  k_steps
  · have hsp0 : 0 < sp := by (first | (apply ap_x; assumption; (repeat constructor); done) | (refine Nat.ne_of_gt ?_; simp only [*]; done) | (refine Nat.ne_of_lt ?_; simp only [*]; done) | ((fail_if_success (fail_if_success omega (config := {}))); (first | with_reducible assumption | decide | lia | omega (config := {}))))
    have hab := above_nat hsp0
    have hlt : (sp - 1) / 2 < heap1.length := by (first | (apply ap_x; assumption; (repeat constructor); done) | (refine Nat.ne_of_gt ?_; simp only [*]; done) | (refine Nat.ne_of_lt ?_; simp only [*]; done) | ((fail_if_success (fail_if_success omega (config := {}))); (first | with_reducible assumption | decide | lia | omega (config := {}))))
    have ha1 := hr1.at hlt
    rename_i F2 N2 t2
    dsimp only at F2 N2 ⊢
    rw [hab] at F2 ⊢
    refine stop_go (is_before_spec C' F2 (cb_drop N2 (by (first | ((repeat (first | exact sub_nil | refine sub_cons 0 rfl ?_ | refine sub_cons 1 rfl ?_ | refine sub_cons 2 rfl ?_ | refine sub_cons 3 rfl ?_ | refine sub_cons 4 rfl ?_ | refine sub_cons 5 rfl ?_ | refine sub_cons 6 rfl ?_ | refine sub_cons 7 rfl ?_ | refine sub_cons 8 rfl ?_ | refine sub_cons 9 rfl ?_ | refine sub_cons 10 rfl ?_ | refine sub_cons 11 rfl ?_ | refine sub_cons 12 rfl ?_ | refine sub_cons 13 rfl ?_)); done) | kcf_all))) (by show dp + 1 + 20 < recursionLimit; exact room2 hdp rfl) (by show un + 3 + 100 < cLine; exact room2 hun rfl) ha la hr0.1 hr0.2 ha1.1 ha1.2 ?_)
    intro h3 tk3 F3 K3
    have N3 := news_all N2 K3
    clear F2 N2 K3
    k_steps
    · rename_i hbf _
      try dsimp only
      simp only [Int.toNat_natCast]
      refine stop_go (put_spec C' (by assumption) (cb_drop N3 (by (first | ((repeat (first | exact sub_nil | refine sub_cons 0 rfl ?_ | refine sub_cons 1 rfl ?_ | refine sub_cons 2 rfl ?_ | refine sub_cons 3 rfl ?_ | refine sub_cons 4 rfl ?_ | refine sub_cons 5 rfl ?_ | refine sub_cons 6 rfl ?_ | refine sub_cons 7 rfl ?_ | refine sub_cons 8 rfl ?_ | refine sub_cons 9 rfl ?_ | refine sub_cons 10 rfl ?_ | refine sub_cons 11 rfl ?_ | refine sub_cons 12 rfl ?_ | refine sub_cons 13 rfl ?_)); done) | kcf_all))) (by show dp + 1 + 20 < recursionLimit; exact room2 hdp rfl) (by show un + 3 + 100 < cLine; exact room2 hun rfl) o1 o2 o3 o4 hh1 hp1 (by (first | (apply ap_x; assumption; (repeat constructor); done) | (refine Nat.ne_of_gt ?_; simp only [*]; done) | (refine Nat.ne_of_lt ?_; simp only [*]; done) | ((fail_if_success (fail_if_success omega (config := {}))); (first | with_reducible assumption | decide | lia | omega (config := {}))))) (by (first | (apply ap_x; assumption; (repeat constructor); done) | (refine Nat.ne_of_gt ?_; simp only [*]; done) | (refine Nat.ne_of_lt ?_; simp only [*]; done) | ((fail_if_success (fail_if_success omega (config := {}))); (first | with_reducible assumption | decide | lia | omega (config := {}))))) (by (first | (apply ap_x; assumption; (repeat constructor); done) | (refine Nat.ne_of_gt ?_; simp only [*]; done) | (refine Nat.ne_of_lt ?_; simp only [*]; done) | ((fail_if_success (fail_if_success omega (config := {}))); (first | with_reducible assumption | decide | lia | omega (config := {}))))) (by (first | (apply ap_x; assumption; (repeat constructor); done) | (refine Nat.ne_of_gt ?_; simp only [*]; done) | (refine Nat.ne_of_lt ?_; simp only [*]; done) | ((fail_if_success (fail_if_success omega (config := {}))); (first | with_reducible assumption | decide | lia | omega (config := {}))))) ha1.1 (by (first | (apply ap_x; assumption; (repeat constructor); done) | (refine Nat.ne_of_gt ?_; simp only [*]; done) | (refine Nat.ne_of_lt ?_; simp only [*]; done) | ((fail_if_success (fail_if_success omega (config := {}))); (first | with_reducible assumption | decide | lia | omega (config := {}))))) ?_)
      intro h4 tk4 hvs4 nh4 pvs4 np4 hh4 hp4 F4 N4 K4
      have N5 := news_re N3 (by repeat (first | exact Rest.nil | (apply Rest.keep; focus ((repeat (first | exact off_nil | (refine off_cons ?_ ?_; focus (first | (apply ap_x; assumption; (repeat constructor); done) | (refine Nat.ne_of_gt ?_; simp only [*]; done) | (refine Nat.ne_of_lt ?_; simp only [*]; done) | ((fail_if_success (fail_if_success omega (config := {}))); (first | with_reducible assumption | decide | lia | omega (config := {}))))))); done)) | apply Rest.skip)) K4 N4
      dsimp only [List.cons_append, List.nil_append] at N5
      clear F3 N3 N4 K4
      k_steps
      rename_i F6 N6
      refine stop_go (ksw_end ⟨(sp - 1) / 2, _, hvs4, nh4, pvs4, np4, _, _⟩ F6 N6 (by (first | ((repeat (first | exact sub_nil | refine sub_cons 0 rfl ?_ | refine sub_cons 1 rfl ?_ | refine sub_cons 2 rfl ?_ | refine sub_cons 3 rfl ?_ | refine sub_cons 4 rfl ?_ | refine sub_cons 5 rfl ?_ | refine sub_cons 6 rfl ?_ | refine sub_cons 7 rfl ?_ | refine sub_cons 8 rfl ?_ | refine sub_cons 9 rfl ?_ | refine sub_cons 10 rfl ?_ | refine sub_cons 11 rfl ?_ | refine sub_cons 12 rfl ?_ | refine sub_cons 13 rfl ?_)); done) | kcf_all)) trivial (by kst_all) (by intro z h2 h3; have e0 : z ≠ Str.ofString "spot" := h2 _ (.head _); have e1 : z ≠ Str.ofString "above" := (fun e => by subst e; revert h3; decide); simp only [e0, e1, kstB, h3, if_false, Bool.false_eq_true] <;> rfl) ⟨?_, ?_, ?_, ?_, ?_, hh4, hp4⟩ (by show (sp - 1) / 2 < sp; (first | (apply ap_x; assumption; (repeat constructor); done) | (refine Nat.ne_of_gt ?_; simp only [*]; done) | (refine Nat.ne_of_lt ?_; simp only [*]; done) | ((fail_if_success (fail_if_success omega (config := {}))); (first | with_reducible assumption | decide | lia | omega (config := {}))))))
      · show riseL _ _ _ _ _ = _
        rw [← e]
        conv => rhs; rw [riseL_eq]
        rw [if_pos hsp0, if_pos (by assumption)]
        rfl
      · show List.length _ = _
        rw [List.length_set]; exact lh1
      · show List.length _ = _
        rw [List.length_set]; exact lp1
      · show (sp - 1) / 2 < _
        (first | (apply ap_x; assumption; (repeat constructor); done) | (refine Nat.ne_of_gt ?_; simp only [*]; done) | (refine Nat.ne_of_lt ?_; simp only [*]; done) | ((fail_if_success (fail_if_success omega (config := {}))); (first | with_reducible assumption | decide | lia | omega (config := {}))))
      · exact hr1.set ha1.1 ha1.2
    · have hnb := ‹before _ _ _ = false›
      simp only [Int.toNat_natCast] at hnb ⊢
      refine stop_go (put_spec C' (by assumption) (cb_drop N3 (by (first | ((repeat (first | exact sub_nil | refine sub_cons 0 rfl ?_ | refine sub_cons 1 rfl ?_ | refine sub_cons 2 rfl ?_ | refine sub_cons 3 rfl ?_ | refine sub_cons 4 rfl ?_ | refine sub_cons 5 rfl ?_ | refine sub_cons 6 rfl ?_ | refine sub_cons 7 rfl ?_ | refine sub_cons 8 rfl ?_ | refine sub_cons 9 rfl ?_ | refine sub_cons 10 rfl ?_ | refine sub_cons 11 rfl ?_ | refine sub_cons 12 rfl ?_ | refine sub_cons 13 rfl ?_)); done) | kcf_all))) (by show dp + 1 + 20 < recursionLimit; exact room2 hdp rfl) (by show un + 3 + 100 < cLine; exact room2 hun rfl) o1 o2 o3 o4 hh1 hp1 (by (first | (apply ap_x; assumption; (repeat constructor); done) | (refine Nat.ne_of_gt ?_; simp only [*]; done) | (refine Nat.ne_of_lt ?_; simp only [*]; done) | ((fail_if_success (fail_if_success omega (config := {}))); (first | with_reducible assumption | decide | lia | omega (config := {}))))) (by (first | (apply ap_x; assumption; (repeat constructor); done) | (refine Nat.ne_of_gt ?_; simp only [*]; done) | (refine Nat.ne_of_lt ?_; simp only [*]; done) | ((fail_if_success (fail_if_success omega (config := {}))); (first | with_reducible assumption | decide | lia | omega (config := {}))))) (by (first | (apply ap_x; assumption; (repeat constructor); done) | (refine Nat.ne_of_gt ?_; simp only [*]; done) | (refine Nat.ne_of_lt ?_; simp only [*]; done) | ((fail_if_success (fail_if_success omega (config := {}))); (first | with_reducible assumption | decide | lia | omega (config := {}))))) (by (first | (apply ap_x; assumption; (repeat constructor); done) | (refine Nat.ne_of_gt ?_; simp only [*]; done) | (refine Nat.ne_of_lt ?_; simp only [*]; done) | ((fail_if_success (fail_if_success omega (config := {}))); (first | with_reducible assumption | decide | lia | omega (config := {}))))) hr0.1 (by (first | (apply ap_x; assumption; (repeat constructor); done) | (refine Nat.ne_of_gt ?_; simp only [*]; done) | (refine Nat.ne_of_lt ?_; simp only [*]; done) | ((fail_if_success (fail_if_success omega (config := {}))); (first | with_reducible assumption | decide | lia | omega (config := {}))))) ?_)
      intro h4 tk4 hvs4 nh4 pvs4 np4 hh4 hp4 F4 N4 K4
      simp only [Int.toNat_natCast] at hh4 hp4
      have N5 := news_re N3 (by repeat (first | exact Rest.nil | (apply Rest.keep; focus ((repeat (first | exact off_nil | (refine off_cons ?_ ?_; focus (first | (apply ap_x; assumption; (repeat constructor); done) | (refine Nat.ne_of_gt ?_; simp only [*]; done) | (refine Nat.ne_of_lt ?_; simp only [*]; done) | ((fail_if_success (fail_if_success omega (config := {}))); (first | with_reducible assumption | decide | lia | omega (config := {}))))))); done)) | apply Rest.skip)) K4 N4
      dsimp only [List.cons_append, List.nil_append] at N5
      clear F3 N3 N4 K4
      k_steps
      have kN9 := ‹News h₀ L _ _›
      have kP9 := ‹Kept s.heap _ _›
      have er : riseL act (heap.getD sp0 0) heap place sp0 = (heap1.set sp (heap.getD sp0 0), place1.set (heap.getD sp0 0).toNat sp) := by
        rw [← e, riseL_eq]
        rw [if_pos hsp0, if_neg (by rw [hnb]; decide)]
      rw [er] at k
      exact k _ _ _ _ _ _ hh4 hp4 (by assumption) (news_sub kN9 (by (first | ((repeat (first | exact sub_nil | refine sub_cons 0 rfl ?_ | refine sub_cons 1 rfl ?_ | refine sub_cons 2 rfl ?_ | refine sub_cons 3 rfl ?_ | refine sub_cons 4 rfl ?_ | refine sub_cons 5 rfl ?_ | refine sub_cons 6 rfl ?_ | refine sub_cons 7 rfl ?_ | refine sub_cons 8 rfl ?_ | refine sub_cons 9 rfl ?_ | refine sub_cons 10 rfl ?_ | refine sub_cons 11 rfl ?_ | refine sub_cons 12 rfl ?_ | refine sub_cons 13 rfl ?_)); done) | kcf_all))) (kept_shrink (same := [(x, instObj 144 dx), (dx, oDict D al hl pl), (al, oList avs na)]) N kN9 kP9 (by (first | ((repeat (first | exact ks_nil | refine ks_l 0 rfl ?_ | refine ks_l 1 rfl ?_ | refine ks_l 2 rfl ?_ | refine ks_l 3 rfl ?_ | refine ks_l 4 rfl ?_ | refine ks_r 0 rfl ?_ | refine ks_r 1 rfl ?_ | refine ks_r 2 rfl ?_ | refine ks_r 3 rfl ?_ | refine ks_r 4 rfl ?_ | refine ks_r 5 rfl ?_)); done) | simp)) (by (first | ((repeat (first | exact sub_nil | refine sub_cons 0 rfl ?_ | refine sub_cons 1 rfl ?_ | refine sub_cons 2 rfl ?_ | refine sub_cons 3 rfl ?_ | refine sub_cons 4 rfl ?_ | refine sub_cons 5 rfl ?_ | refine sub_cons 6 rfl ?_ | refine sub_cons 7 rfl ?_ | refine sub_cons 8 rfl ?_ | refine sub_cons 9 rfl ?_ | refine sub_cons 10 rfl ?_ | refine sub_cons 11 rfl ?_ | refine sub_cons 12 rfl ?_ | refine sub_cons 13 rfl ?_)); done) | kcf_all)) (by (first | ((repeat (first | exact sub_nil | refine sub_cons 0 rfl ?_ | refine sub_cons 1 rfl ?_ | refine sub_cons 2 rfl ?_ | refine sub_cons 3 rfl ?_ | refine sub_cons 4 rfl ?_ | refine sub_cons 5 rfl ?_ | refine sub_cons 6 rfl ?_ | refine sub_cons 7 rfl ?_ | refine sub_cons 8 rfl ?_ | refine sub_cons 9 rfl ?_ | refine sub_cons 10 rfl ?_ | refine sub_cons 11 rfl ?_ | refine sub_cons 12 rfl ?_ | refine sub_cons 13 rfl ?_)); done) | kcf_all)))
  · simp only [Int.toNat_natCast]
    refine stop_go (put_spec C' (by assumption) (cb_drop N1 (by (first | ((repeat (first | exact sub_nil | refine sub_cons 0 rfl ?_ | refine sub_cons 1 rfl ?_ | refine sub_cons 2 rfl ?_ | refine sub_cons 3 rfl ?_ | refine sub_cons 4 rfl ?_ | refine sub_cons 5 rfl ?_ | refine sub_cons 6 rfl ?_ | refine sub_cons 7 rfl ?_ | refine sub_cons 8 rfl ?_ | refine sub_cons 9 rfl ?_ | refine sub_cons 10 rfl ?_ | refine sub_cons 11 rfl ?_ | refine sub_cons 12 rfl ?_ | refine sub_cons 13 rfl ?_)); done) | kcf_all))) (by show dp + 1 + 20 < recursionLimit; exact room2 hdp rfl) (by show un + 3 + 100 < cLine; exact room2 hun rfl) o1 o2 o3 o4 hh1 hp1 (by (first | (apply ap_x; assumption; (repeat constructor); done) | (refine Nat.ne_of_gt ?_; simp only [*]; done) | (refine Nat.ne_of_lt ?_; simp only [*]; done) | ((fail_if_success (fail_if_success omega (config := {}))); (first | with_reducible assumption | decide | lia | omega (config := {}))))) (by (first | (apply ap_x; assumption; (repeat constructor); done) | (refine Nat.ne_of_gt ?_; simp only [*]; done) | (refine Nat.ne_of_lt ?_; simp only [*]; done) | ((fail_if_success (fail_if_success omega (config := {}))); (first | with_reducible assumption | decide | lia | omega (config := {}))))) (by (first | (apply ap_x; assumption; (repeat constructor); done) | (refine Nat.ne_of_gt ?_; simp only [*]; done) | (refine Nat.ne_of_lt ?_; simp only [*]; done) | ((fail_if_success (fail_if_success omega (config := {}))); (first | with_reducible assumption | decide | lia | omega (config := {}))))) (by (first | (apply ap_x; assumption; (repeat constructor); done) | (refine Nat.ne_of_gt ?_; simp only [*]; done) | (refine Nat.ne_of_lt ?_; simp only [*]; done) | ((fail_if_success (fail_if_success omega (config := {}))); (first | with_reducible assumption | decide | lia | omega (config := {}))))) hr0.1 (by (first | (apply ap_x; assumption; (repeat constructor); done) | (refine Nat.ne_of_gt ?_; simp only [*]; done) | (refine Nat.ne_of_lt ?_; simp only [*]; done) | ((fail_if_success (fail_if_success omega (config := {}))); (first | with_reducible assumption | decide | lia | omega (config := {}))))) ?_)
    intro h4 tk4 hvs4 nh4 pvs4 np4 hh4 hp4 F4 N4 K4
    simp only [Int.toNat_natCast] at hh4 hp4
    have N5 := news_re N1 (by repeat (first | exact Rest.nil | (apply Rest.keep; focus ((repeat (first | exact off_nil | (refine off_cons ?_ ?_; focus (first | (apply ap_x; assumption; (repeat constructor); done) | (refine Nat.ne_of_gt ?_; simp only [*]; done) | (refine Nat.ne_of_lt ?_; simp only [*]; done) | ((fail_if_success (fail_if_success omega (config := {}))); (first | with_reducible assumption | decide | lia | omega (config := {}))))))); done)) | apply Rest.skip)) K4 N4
    dsimp only [List.cons_append, List.nil_append] at N5
    clear F1 N1 N4 K4
    k_steps
    have kN9 := ‹News h₀ L _ _›
    have kP9 := ‹Kept s.heap _ _›
    have er : riseL act (heap.getD sp0 0) heap place sp0 = (heap1.set sp (heap.getD sp0 0), place1.set (heap.getD sp0 0).toNat sp) := by
      rw [← e, riseL_eq]
      rw [if_neg (by (first | (apply ap_x; assumption; (repeat constructor); done) | (refine Nat.ne_of_gt ?_; simp only [*]; done) | (refine Nat.ne_of_lt ?_; simp only [*]; done) | ((fail_if_success (fail_if_success omega (config := {}))); (first | with_reducible assumption | decide | lia | omega (config := {})))))]
    rw [er] at k
    exact k _ _ _ _ _ _ hh4 hp4 (by assumption) (news_sub kN9 (by (first | ((repeat (first | exact sub_nil | refine sub_cons 0 rfl ?_ | refine sub_cons 1 rfl ?_ | refine sub_cons 2 rfl ?_ | refine sub_cons 3 rfl ?_ | refine sub_cons 4 rfl ?_ | refine sub_cons 5 rfl ?_ | refine sub_cons 6 rfl ?_ | refine sub_cons 7 rfl ?_ | refine sub_cons 8 rfl ?_ | refine sub_cons 9 rfl ?_ | refine sub_cons 10 rfl ?_ | refine sub_cons 11 rfl ?_ | refine sub_cons 12 rfl ?_ | refine sub_cons 13 rfl ?_)); done) | kcf_all))) (kept_shrink (same := [(x, instObj 144 dx), (dx, oDict D al hl pl), (al, oList avs na)]) N kN9 kP9 (by (first | ((repeat (first | exact ks_nil | refine ks_l 0 rfl ?_ | refine ks_l 1 rfl ?_ | refine ks_l 2 rfl ?_ | refine ks_l 3 rfl ?_ | refine ks_l 4 rfl ?_ | refine ks_r 0 rfl ?_ | refine ks_r 1 rfl ?_ | refine ks_r 2 rfl ?_ | refine ks_r 3 rfl ?_ | refine ks_r 4 rfl ?_ | refine ks_r 5 rfl ?_)); done) | simp)) (by (first | ((repeat (first | exact sub_nil | refine sub_cons 0 rfl ?_ | refine sub_cons 1 rfl ?_ | refine sub_cons 2 rfl ?_ | refine sub_cons 3 rfl ?_ | refine sub_cons 4 rfl ?_ | refine sub_cons 5 rfl ?_ | refine sub_cons 6 rfl ?_ | refine sub_cons 7 rfl ?_ | refine sub_cons 8 rfl ?_ | refine sub_cons 9 rfl ?_ | refine sub_cons 10 rfl ?_ | refine sub_cons 11 rfl ?_ | refine sub_cons 12 rfl ?_ | refine sub_cons 13 rfl ?_)); done) | kcf_all)) (by (first | ((repeat (first | exact sub_nil | refine sub_cons 0 rfl ?_ | refine sub_cons 1 rfl ?_ | refine sub_cons 2 rfl ?_ | refine sub_cons 3 rfl ?_ | refine sub_cons 4 rfl ?_ | refine sub_cons 5 rfl ?_ | refine sub_cons 6 rfl ?_ | refine sub_cons 7 rfl ?_ | refine sub_cons 8 rfl ?_ | refine sub_cons 9 rfl ?_ | refine sub_cons 10 rfl ?_ | refine sub_cons 11 rfl ?_ | refine sub_cons 12 rfl ?_ | refine sub_cons 13 rfl ?_)); done) | kcf_all)))
-- RgC3
theorem better_child_spec {w : World} {env : Env} {outer : List Env} {L : Addr} {h₀ : Heap} {m : Str → Option Value} {dp un : Nat} {gd : Option (List Code)} {s : Shared} {Q E : Value → Shared → Prop}
    {x dx al hl pl : Addr} {D : DP} {avs hvs : List Value} {na nh : Nat} {act heap : List Int} {spot : Int} {t1 : Tok}
    (C : Cx w env outer L h₀) (F : Fr h₀ L s.heap m) (N : News h₀ L s.heap [(x, instObj 144 dx), (dx, oDict D al hl pl), (al, oList avs na), (hl, oList hvs nh)])
    (hdp : dp + 40 < recursionLimit) (hun : un + 200 < cLine)
    (ha : IntsAre avs act) (hh : IntsAre hvs heap) (la : act.length ≤ 1000) (lh : heap.length ≤ 1000) (h1 : 0 ≤ spot) (h1' : spot < 1000) (hr : InRange heap act.length)
    (k : ∀ h' tk' t, Fr h₀ L h' m → KeptAll s.heap h' → Q (.int (betterC act heap spot.toNat) t) { s with heap := h', toks := tk' }) :
    wpAny (model PySem.Challenge.rw_rg0205_01.row.prog w) ⟨none, dp, some (env :: outer), gd, un⟩ (call (.ref 85) [.ref x, .int spot t1]) Q E s := by
  refine cx_elim C fun A₀ base mean mg mb B X T hf hke => ?_
  revert X
  k_fill
  intro X
  refine wpAny_call ?_
  refine' enterR (binds := [(Str.ofString "self", .ref x), (Str.ofString "spot", .int spot t1)]) B F X N T rfl hf hke ?k6 ?k7 ?k8 ?k9 ?kB ?_ ?c2 ?c3 ?c4 ?c5
  case k6 => k_is
  case k7 => k_is
  case k8 => exact Nat.lt_of_le_of_lt (Nat.le_add_right _ _) hdp
  case k9 => exact BindsTo.of_eq rfl
  case kB => exact locs rfl
  case c2 => exact rfl
  case c3 => exact rfl
  case c4 => exact rfl
  case c5 => decide
  intro g' L' h' FG' F' N' B' X' T' l1 hL C'
  dsimp only
  k_fold
  k_lt l1
  obtain ⟨sp0, rfl⟩ := Int.eq_ofNat_of_zero_le h1
  simp only [Int.toNat_natCast] at k
  have e1 : (2 * (sp0 : Int) + 1 + 1).toNat = 2 * sp0 + 2 := by (first | (apply ap_x; assumption; (repeat constructor); done) | (refine Nat.ne_of_gt ?_; simp only [*]; done) | (refine Nat.ne_of_lt ?_; simp only [*]; done) | ((fail_if_success (fail_if_success omega (config := {}))); (first | with_reducible assumption | decide | lia | omega (config := {}))))
  have e2 : (2 * (sp0 : Int) + 1).toNat = 2 * sp0 + 1 := by (first | (apply ap_x; assumption; (repeat constructor); done) | (refine Nat.ne_of_gt ?_; simp only [*]; done) | (refine Nat.ne_of_lt ?_; simp only [*]; done) | ((fail_if_success (fail_if_success omega (config := {}))); (first | with_reducible assumption | decide | lia | omega (config := {}))))
  have e3 : (2 * (sp0 : Int) + 1 + 1) = ((2 * sp0 + 2 : Nat) : Int) := by (first | (apply ap_x; assumption; (repeat constructor); done) | (refine Nat.ne_of_gt ?_; simp only [*]; done) | (refine Nat.ne_of_lt ?_; simp only [*]; done) | ((fail_if_success (fail_if_success omega (config := {}))); (first | with_reducible assumption | decide | lia | omega (config := {}))))
  have e4 : (2 * (sp0 : Int) + 1) = ((2 * sp0 + 1 : Nat) : Int) := by (first | (apply ap_x; assumption; (repeat constructor); done) | (refine Nat.ne_of_gt ?_; simp only [*]; done) | (refine Nat.ne_of_lt ?_; simp only [*]; done) | ((fail_if_success (fail_if_success omega (config := {}))); (first | with_reducible assumption | decide | lia | omega (config := {}))))
  k_steps
  · have er : betterC act heap sp0 = -1 := by unfold betterC; rw [if_pos (by (first | (apply ap_x; assumption; (repeat constructor); done) | (refine Nat.ne_of_gt ?_; simp only [*]; done) | (refine Nat.ne_of_lt ?_; simp only [*]; done) | ((fail_if_success (fail_if_success omega (config := {}))); (first | with_reducible assumption | decide | lia | omega (config := {})))))]
    rw [er] at k
    exact k _ _ _ (by assumption) (keptAll_of N (by assumption) (by assumption))
  · have g1 := hr.at (i := 2 * sp0 + 2) (by (first | (apply ap_x; assumption; (repeat constructor); done) | (refine Nat.ne_of_gt ?_; simp only [*]; done) | (refine Nat.ne_of_lt ?_; simp only [*]; done) | ((fail_if_success (fail_if_success omega (config := {}))); (first | with_reducible assumption | decide | lia | omega (config := {})))))
    have g2 := hr.at (i := 2 * sp0 + 1) (by (first | (apply ap_x; assumption; (repeat constructor); done) | (refine Nat.ne_of_gt ?_; simp only [*]; done) | (refine Nat.ne_of_lt ?_; simp only [*]; done) | ((fail_if_success (fail_if_success omega (config := {}))); (first | with_reducible assumption | decide | lia | omega (config := {})))))
    have N2 := ‹News g' L' _ _›
    have F2 := ‹Fr g' L' _ _›
    try dsimp only at F2 N2 ⊢
    rw [e1, e2]
    refine stop_go (is_before_spec C' F2 (cb_drop N2 (by (first | ((repeat (first | exact sub_nil | refine sub_cons 0 rfl ?_ | refine sub_cons 1 rfl ?_ | refine sub_cons 2 rfl ?_ | refine sub_cons 3 rfl ?_ | refine sub_cons 4 rfl ?_ | refine sub_cons 5 rfl ?_ | refine sub_cons 6 rfl ?_ | refine sub_cons 7 rfl ?_ | refine sub_cons 8 rfl ?_ | refine sub_cons 9 rfl ?_ | refine sub_cons 10 rfl ?_ | refine sub_cons 11 rfl ?_ | refine sub_cons 12 rfl ?_ | refine sub_cons 13 rfl ?_)); done) | kcf_all))) (by show dp + 1 + 20 < recursionLimit; exact room2 hdp rfl) (by show un + 3 + 100 < cLine; exact room2 hun rfl) ha la g1.1 g1.2 g2.1 g2.2 ?_)
    intro h3 tk3 F3 K3
    have N3 := news_all N2 K3
    clear F2 N2 K3
    k_steps
    · have er : betterC act heap sp0 = ((2 * sp0 + 2 : Nat) : Int) := by
        unfold betterC; rw [if_neg (by (first | (apply ap_x; assumption; (repeat constructor); done) | (refine Nat.ne_of_gt ?_; simp only [*]; done) | (refine Nat.ne_of_lt ?_; simp only [*]; done) | ((fail_if_success (fail_if_success omega (config := {}))); (first | with_reducible assumption | decide | lia | omega (config := {}))))), if_pos ⟨by (first | (apply ap_x; assumption; (repeat constructor); done) | (refine Nat.ne_of_gt ?_; simp only [*]; done) | (refine Nat.ne_of_lt ?_; simp only [*]; done) | ((fail_if_success (fail_if_success omega (config := {}))); (first | with_reducible assumption | decide | lia | omega (config := {})))), by assumption⟩]
      rw [er, ← e3] at k
      exact k _ _ _ (by assumption) (keptAll_of N (by assumption) (by assumption))
    · have er : betterC act heap sp0 = ((2 * sp0 + 1 : Nat) : Int) := by
        unfold betterC; rw [if_neg (by (first | (apply ap_x; assumption; (repeat constructor); done) | (refine Nat.ne_of_gt ?_; simp only [*]; done) | (refine Nat.ne_of_lt ?_; simp only [*]; done) | ((fail_if_success (fail_if_success omega (config := {}))); (first | with_reducible assumption | decide | lia | omega (config := {}))))), if_neg (fun h => by have h2 := h.2; rw [‹before _ _ _ = false›] at h2; cases h2)]
      rw [er, ← e4] at k
      exact k _ _ _ (by assumption) (keptAll_of N (by assumption) (by assumption))
  · have er : betterC act heap sp0 = ((2 * sp0 + 1 : Nat) : Int) := by
      unfold betterC; rw [if_neg (by (first | (apply ap_x; assumption; (repeat constructor); done) | (refine Nat.ne_of_gt ?_; simp only [*]; done) | (refine Nat.ne_of_lt ?_; simp only [*]; done) | ((fail_if_success (fail_if_success omega (config := {}))); (first | with_reducible assumption | decide | lia | omega (config := {}))))), if_neg (fun h => by have h2 := h.1; (first | (apply ap_x; assumption; (repeat constructor); done) | (refine Nat.ne_of_gt ?_; simp only [*]; done) | (refine Nat.ne_of_lt ?_; simp only [*]; done) | ((fail_if_success (fail_if_success omega (config := {}))); (first | with_reducible assumption | decide | lia | omega (config := {})))))]
    rw [er, ← e4] at k
    exact k _ _ _ (by assumption) (keptAll_of N (by assumption) (by assumption))

theorem push_spec {w : World} {env : Env} {outer : List Env} {L : Addr} {h₀ : Heap} {m : Str → Option Value} {dp un : Nat} {gd : Option (List Code)} {s : Shared} {Q E : Value → Shared → Prop}
    {x dx al hl pl : Addr} {D : DP} {avs hvs pvs : List Value} {na nh np : Nat} {act heap place : List Int} {var : Int} {t1 : Tok}
    (C : Cx w env outer L h₀) (F : Fr h₀ L s.heap m) (N : News h₀ L s.heap [(x, instObj 144 dx), (dx, oDict D al hl pl), (al, oList avs na), (hl, oList hvs nh), (pl, oList pvs np)])
    (hdp : dp + 80 < recursionLimit) (hun : un + 400 < cLine)
    (o1 : @LT.lt Nat _ dx x) (o2 : @LT.lt Nat _ x al) (o3 : @LT.lt Nat _ al hl) (o4 : @LT.lt Nat _ hl pl) (ha : IntsAre avs act) (hh : IntsAre hvs heap) (hp : IntsAre pvs place) (la : act.length ≤ 1000) (lh : heap.length < 1000) (lp : place.length = act.length) (h1 : 0 ≤ var) (h1' : var < act.length) (hr : InRange heap act.length) (hn : place.getD var.toNat 0 < 0)
    (k : ∀ h' tk' hvs' nh' pvs' np', IntsAre hvs' (riseL act var (heap ++ [var]) (place.set var.toNat heap.length) heap.length).1 → IntsAre pvs' (riseL act var (heap ++ [var]) (place.set var.toNat heap.length) heap.length).2 → Fr h₀ L h' m → News h₀ L h' [(hl, oList hvs' nh'), (pl, oList pvs' np')] → Kept s.heap h' [hl, pl] → Q .none { s with heap := h', toks := tk' }) :
    wpAny (model PySem.Challenge.rw_rg0205_01.row.prog w) ⟨none, dp, some (env :: outer), gd, un⟩ (call (.ref 99) [.ref x, .int var t1]) Q E s := by
  refine cx_elim C fun A₀ base mean mg mb B X T hf hke => ?_
  revert X
  k_fill
  intro X
  refine wpAny_call ?_
  refine' enterR (binds := [(Str.ofString "self", .ref x), (Str.ofString "var", .int var t1)]) B F X N T rfl hf hke ?k6 ?k7 ?k8 ?k9 ?kB ?_ ?c2 ?c3 ?c4 ?c5
  case k6 => k_is
  case k7 => k_is
  case k8 => exact Nat.lt_of_le_of_lt (Nat.le_add_right _ _) hdp
  case k9 => exact BindsTo.of_eq rfl
  case kB => exact locs rfl
  case c2 => exact rfl
  case c3 => exact rfl
  case c4 => exact rfl
  case c5 => decide
  intro g' L' h' FG' F' N' B' X' T' l1 hL C'
  dsimp only
  k_fold
  k_lt l1
  have ap := ap5 o1 o2 o3 o4
  have lv1 := IntsAre.length ha
  have lv2 := IntsAre.length hh
  have lv3 := IntsAre.length hp
  k_steps
  have N2 := ‹News g' L' _ _›
  have F2 := ‹Fr g' L' _ _›
  refine stop_go (is_held_spec C' F2 (cb_drop N2 (by (first | ((repeat (first | exact sub_nil | refine sub_cons 0 rfl ?_ | refine sub_cons 1 rfl ?_ | refine sub_cons 2 rfl ?_ | refine sub_cons 3 rfl ?_ | refine sub_cons 4 rfl ?_ | refine sub_cons 5 rfl ?_ | refine sub_cons 6 rfl ?_ | refine sub_cons 7 rfl ?_ | refine sub_cons 8 rfl ?_ | refine sub_cons 9 rfl ?_ | refine sub_cons 10 rfl ?_ | refine sub_cons 11 rfl ?_ | refine sub_cons 12 rfl ?_ | refine sub_cons 13 rfl ?_)); done) | kcf_all))) (by show dp + 1 + 20 < recursionLimit; exact room2 hdp rfl) (by show un + 3 + 100 < cLine; exact room2 hun rfl) hp (by (first | (apply ap_x; assumption; (repeat constructor); done) | (refine Nat.ne_of_gt ?_; simp only [*]; done) | (refine Nat.ne_of_lt ?_; simp only [*]; done) | ((fail_if_success (fail_if_success omega (config := {}))); (first | with_reducible assumption | decide | lia | omega (config := {}))))) h1 (by (first | (apply ap_x; assumption; (repeat constructor); done) | (refine Nat.ne_of_gt ?_; simp only [*]; done) | (refine Nat.ne_of_lt ?_; simp only [*]; done) | ((fail_if_success (fail_if_success omega (config := {}))); (first | with_reducible assumption | decide | lia | omega (config := {}))))) ?_)
  intro h3 tk3 F3 K3
  have N3 := news_all N2 K3
  clear F2 N2 K3
  have hd9 : decide (0 ≤ place.getD var.toNat 0) = false := by simp only [decide_eq_false_iff_not]; (first | (apply ap_x; assumption; (repeat constructor); done) | (refine Nat.ne_of_gt ?_; simp only [*]; done) | (refine Nat.ne_of_lt ?_; simp only [*]; done) | ((fail_if_success (fail_if_success omega (config := {}))); (first | with_reducible assumption | decide | lia | omega (config := {}))))
  rw [hd9]
  k_steps
  have N4 := ‹News g' L' _ _›
  have F4 := ‹Fr g' L' _ _›
  try dsimp only at F4 N4 ⊢
  have ep : ((heap.length + 1 : Nat) : Int) - 1 = (heap.length : Int) := by (first | (apply ap_x; assumption; (repeat constructor); done) | (refine Nat.ne_of_gt ?_; simp only [*]; done) | (refine Nat.ne_of_lt ?_; simp only [*]; done) | ((fail_if_success (fail_if_success omega (config := {}))); (first | with_reducible assumption | decide | lia | omega (config := {}))))
  have hh4 := IntsAre.append hh (.cons var t1 .nil)
  have hp4 := ‹IntsAre (pvs.set _ _) _›
  dsimp only at hp4
  simp only [ep] at hp4 N4 F4 ⊢
  try simp only [List.push_toArray] at N4
  have hg : (heap ++ [var]).getD ((heap.length : Int)).toNat 0 = var := by rw [Int.toNat_natCast, List.getD_eq_getElem?_getD, List.getElem?_append_right (Nat.le_refl _)]; simp
  have hrr : InRange (heap ++ [var]) act.length := fun v hv => by
    rcases List.mem_append.mp hv with hv | hv
    · exact hr v hv
    · rw [List.mem_singleton.mp hv]; exact ⟨h1, h1'⟩
  refine stop_go (rise_spec C' F4 (cb_drop N4 (by (first | ((repeat (first | exact sub_nil | refine sub_cons 0 rfl ?_ | refine sub_cons 1 rfl ?_ | refine sub_cons 2 rfl ?_ | refine sub_cons 3 rfl ?_ | refine sub_cons 4 rfl ?_ | refine sub_cons 5 rfl ?_ | refine sub_cons 6 rfl ?_ | refine sub_cons 7 rfl ?_ | refine sub_cons 8 rfl ?_ | refine sub_cons 9 rfl ?_ | refine sub_cons 10 rfl ?_ | refine sub_cons 11 rfl ?_ | refine sub_cons 12 rfl ?_ | refine sub_cons 13 rfl ?_)); done) | kcf_all))) (by show dp + 1 + 40 < recursionLimit; exact room2 hdp rfl) (by show un + 3 + 200 < cLine; exact room2 hun rfl) o1 o2 o3 o4 ha hh4 hp4 la (by rw [List.length_append]; simp; (first | (apply ap_x; assumption; (repeat constructor); done) | (refine Nat.ne_of_gt ?_; simp only [*]; done) | (refine Nat.ne_of_lt ?_; simp only [*]; done) | ((fail_if_success (fail_if_success omega (config := {}))); (first | with_reducible assumption | decide | lia | omega (config := {}))))) (by rw [List.length_set]; exact lp) (by (first | (apply ap_x; assumption; (repeat constructor); done) | (refine Nat.ne_of_gt ?_; simp only [*]; done) | (refine Nat.ne_of_lt ?_; simp only [*]; done) | ((fail_if_success (fail_if_success omega (config := {}))); (first | with_reducible assumption | decide | lia | omega (config := {}))))) (by rw [List.length_append]; simp; (first | (apply ap_x; assumption; (repeat constructor); done) | (refine Nat.ne_of_gt ?_; simp only [*]; done) | (refine Nat.ne_of_lt ?_; simp only [*]; done) | ((fail_if_success (fail_if_success omega (config := {}))); (first | with_reducible assumption | decide | lia | omega (config := {}))))) hrr ?_)
  rw [hg, Int.toNat_natCast]
  intro h5 tk5 hvs5 nh5 pvs5 np5 hh5 hp5 F5 N5 K5
  have N6 := news_re N4 (by repeat (first | exact Rest.nil | (apply Rest.keep; focus ((repeat (first | exact off_nil | (refine off_cons ?_ ?_; focus (first | (apply ap_x; assumption; (repeat constructor); done) | (refine Nat.ne_of_gt ?_; simp only [*]; done) | (refine Nat.ne_of_lt ?_; simp only [*]; done) | ((fail_if_success (fail_if_success omega (config := {}))); (first | with_reducible assumption | decide | lia | omega (config := {}))))))); done)) | apply Rest.skip)) K5 N5
  dsimp only [List.cons_append, List.nil_append] at N6
  clear F4 N4 N5 K5
  k_steps
  have kN9 := ‹News h₀ L _ _›
  have kP9 := ‹Kept s.heap _ _›
  exact k _ _ _ _ _ _ hh5 hp5 (by assumption) (news_sub kN9 (by (first | ((repeat (first | exact sub_nil | refine sub_cons 0 rfl ?_ | refine sub_cons 1 rfl ?_ | refine sub_cons 2 rfl ?_ | refine sub_cons 3 rfl ?_ | refine sub_cons 4 rfl ?_ | refine sub_cons 5 rfl ?_ | refine sub_cons 6 rfl ?_ | refine sub_cons 7 rfl ?_ | refine sub_cons 8 rfl ?_ | refine sub_cons 9 rfl ?_ | refine sub_cons 10 rfl ?_ | refine sub_cons 11 rfl ?_ | refine sub_cons 12 rfl ?_ | refine sub_cons 13 rfl ?_)); done) | kcf_all))) (kept_shrink (same := [(x, instObj 144 dx), (dx, oDict D al hl pl), (al, oList avs na)]) N kN9 kP9 (by (first | ((repeat (first | exact ks_nil | refine ks_l 0 rfl ?_ | refine ks_l 1 rfl ?_ | refine ks_l 2 rfl ?_ | refine ks_l 3 rfl ?_ | refine ks_l 4 rfl ?_ | refine ks_r 0 rfl ?_ | refine ks_r 1 rfl ?_ | refine ks_r 2 rfl ?_ | refine ks_r 3 rfl ?_ | refine ks_r 4 rfl ?_ | refine ks_r 5 rfl ?_)); done) | simp)) (by (first | ((repeat (first | exact sub_nil | refine sub_cons 0 rfl ?_ | refine sub_cons 1 rfl ?_ | refine sub_cons 2 rfl ?_ | refine sub_cons 3 rfl ?_ | refine sub_cons 4 rfl ?_ | refine sub_cons 5 rfl ?_ | refine sub_cons 6 rfl ?_ | refine sub_cons 7 rfl ?_ | refine sub_cons 8 rfl ?_ | refine sub_cons 9 rfl ?_ | refine sub_cons 10 rfl ?_ | refine sub_cons 11 rfl ?_ | refine sub_cons 12 rfl ?_ | refine sub_cons 13 rfl ?_)); done) | kcf_all)) (by (first | ((repeat (first | exact sub_nil | refine sub_cons 0 rfl ?_ | refine sub_cons 1 rfl ?_ | refine sub_cons 2 rfl ?_ | refine sub_cons 3 rfl ?_ | refine sub_cons 4 rfl ?_ | refine sub_cons 5 rfl ?_ | refine sub_cons 6 rfl ?_ | refine sub_cons 7 rfl ?_ | refine sub_cons 8 rfl ?_ | refine sub_cons 9 rfl ?_ | refine sub_cons 10 rfl ?_ | refine sub_cons 11 rfl ?_ | refine sub_cons 12 rfl ?_ | refine sub_cons 13 rfl ?_)); done) | kcf_all)))


structure SinkS where
  sp : Nat
  t : Tok
  b : Int
  bt : Tok
  hvs : List Value
  nh : Nat
  pvs : List Value
  np : Nat
  heap : List Int
  place : List Int
theorem sink_spec {w : World} {env : Env} {outer : List Env} {L : Addr} {h₀ : Heap} {m : Str → Option Value} {dp un : Nat} {gd : Option (List Code)} {s : Shared} {Q E : Value → Shared → Prop}
    {x dx al hl pl : Addr} {D : DP} {avs hvs pvs : List Value} {na nh np : Nat} {act heap place : List Int} {spot : Int} {t1 : Tok}
    (C : Cx w env outer L h₀) (F : Fr h₀ L s.heap m) (N : News h₀ L s.heap [(x, instObj 144 dx), (dx, oDict D al hl pl), (al, oList avs na), (hl, oList hvs nh), (pl, oList pvs np)])
    (hdp : dp + 80 < recursionLimit) (hun : un + 400 < cLine)
    (o1 : @LT.lt Nat _ dx x) (o2 : @LT.lt Nat _ x al) (o3 : @LT.lt Nat _ al hl) (o4 : @LT.lt Nat _ hl pl) (ha : IntsAre avs act) (hh : IntsAre hvs heap) (hp : IntsAre pvs place) (la : act.length ≤ 1000) (lh : heap.length ≤ 1000) (lp : place.length = act.length) (h1 : 0 ≤ spot) (h1' : spot < heap.length) (hr : InRange heap act.length)
    (k : ∀ h' tk' hvs' nh' pvs' np', IntsAre hvs' (sinkL act (heap.getD spot.toNat 0) heap place spot.toNat).1 → IntsAre pvs' (sinkL act (heap.getD spot.toNat 0) heap place spot.toNat).2 → Fr h₀ L h' m → News h₀ L h' [(hl, oList hvs' nh'), (pl, oList pvs' np')] → Kept s.heap h' [hl, pl] → Q .none { s with heap := h', toks := tk' }) :
    wpAny (model PySem.Challenge.rw_rg0205_01.row.prog w) ⟨none, dp, some (env :: outer), gd, un⟩ (call (.ref 92) [.ref x, .int spot t1]) Q E s := by
  refine cx_elim C fun A₀ base mean mg mb B X T hf hke => ?_
  revert X
  k_fill
  intro X
  refine wpAny_call ?_
  refine' enterR (binds := [(Str.ofString "self", .ref x), (Str.ofString "spot", .int spot t1)]) B F X N T rfl hf hke ?k6 ?k7 ?k8 ?k9 ?kB ?_ ?c2 ?c3 ?c4 ?c5
  case k6 => k_is
  case k7 => k_is
  case k8 => exact Nat.lt_of_le_of_lt (Nat.le_add_right _ _) hdp
  case k9 => exact BindsTo.of_eq rfl
  case kB => exact locs rfl
  case c2 => exact rfl
  case c3 => exact rfl
  case c4 => exact rfl
  case c5 => decide
  intro g' L' h' FG' F' N' B' X' T' l1 hL C'
  dsimp only
  k_fold
  k_lt l1
  have ap := ap5 o1 o2 o3 o4
  obtain ⟨sp0, rfl⟩ := Int.eq_ofNat_of_zero_le h1
  simp only [Int.toNat_natCast] at k
  have hr0 := hr.at (i := sp0) (by (first | (apply ap_x; assumption; (repeat constructor); done) | (refine Nat.ne_of_gt ?_; simp only [*]; done) | (refine Nat.ne_of_lt ?_; simp only [*]; done) | ((fail_if_success (fail_if_success omega (config := {}))); (first | with_reducible assumption | decide | lia | omega (config := {})))))
  k_steps
  have N2 := ‹News g' L' _ _›
  have F2 := ‹Fr g' L' _ _›
  try dsimp only at F2 N2 ⊢
  refine stop_go (better_child_spec C' F2 (cb_drop N2 (by (first | ((repeat (first | exact sub_nil | refine sub_cons 0 rfl ?_ | refine sub_cons 1 rfl ?_ | refine sub_cons 2 rfl ?_ | refine sub_cons 3 rfl ?_ | refine sub_cons 4 rfl ?_ | refine sub_cons 5 rfl ?_ | refine sub_cons 6 rfl ?_ | refine sub_cons 7 rfl ?_ | refine sub_cons 8 rfl ?_ | refine sub_cons 9 rfl ?_ | refine sub_cons 10 rfl ?_ | refine sub_cons 11 rfl ?_ | refine sub_cons 12 rfl ?_ | refine sub_cons 13 rfl ?_)); done) | kcf_all))) (by show dp + 1 + 40 < recursionLimit; exact room2 hdp rfl) (by show un + 3 + 200 < cLine; exact room2 hun rfl) ha hh la lh (by (first | (apply ap_x; assumption; (repeat constructor); done) | (refine Nat.ne_of_gt ?_; simp only [*]; done) | (refine Nat.ne_of_lt ?_; simp only [*]; done) | ((fail_if_success (fail_if_success omega (config := {}))); (first | with_reducible assumption | decide | lia | omega (config := {}))))) (by (first | (apply ap_x; assumption; (repeat constructor); done) | (refine Nat.ne_of_gt ?_; simp only [*]; done) | (refine Nat.ne_of_lt ?_; simp only [*]; done) | ((fail_if_success (fail_if_success omega (config := {}))); (first | with_reducible assumption | decide | lia | omega (config := {}))))) hr ?_)
  intro h3 tk3 t3 F3 K3
  have N3 := news_all N2 K3
  clear F2 N2 K3
  rw [Int.toNat_natCast]
  k_steps
  have N9 := ‹News g' L' _ _›
  have F9 := ‹Fr g' L' _ _›
  try dsimp only at F9 N9 ⊢
  refine stop_go ?_
  refine ksw_while (σ := SinkS) (fun c => [(x, instObj 144 dx), (dx, oDict D al hl pl), (al, oList avs na), (hl, oList c.hvs c.nh), (pl, oList c.pvs c.np)]) (fun c => [(Str.ofString "spot", .int c.sp c.t), (Str.ofString "below", .int c.b c.bt)]) (fun _ => True) []
    (fun c => sinkL act (heap.getD sp0 0) c.heap c.place c.sp = sinkL act (heap.getD sp0 0) heap place sp0 ∧ c.b = betterC act c.heap c.sp ∧ c.heap.length = heap.length ∧ c.place.length = place.length ∧ c.sp < heap.length ∧ InRange c.heap act.length ∧ IntsAre c.hvs c.heap ∧ IntsAre c.pvs c.place)
    (fun c => heap.length - c.sp) ⟨sp0, t1, _, t3, hvs, nh, pvs, np, heap, place⟩ F9 N9 trivial (by kst_all) ⟨rfl, rfl, rfl, rfl, by show sp0 < heap.length; (first | (apply ap_x; assumption; (repeat constructor); done) | (refine Nat.ne_of_gt ?_; simp only [*]; done) | (refine Nat.ne_of_lt ?_; simp only [*]; done) | ((fail_if_success (fail_if_success omega (config := {}))); (first | with_reducible assumption | decide | lia | omega (config := {})))), hr, hh, hp⟩ ?_
  rintro ⟨sp, t, b, bt, hvs1, nh1, pvs1, np1, heap1, place1⟩ u h tk _ hJ F1 N1
  dsimp only at hJ
  have e := hJ.1
  have eb := hJ.2.1
  have lh1 := hJ.2.2.1
  have lp1 := hJ.2.2.2.1
  have hsp := hJ.2.2.2.2.1
  have hr1 := hJ.2.2.2.2.2.1
  have hh1 := hJ.2.2.2.2.2.2.1
  have hp1 := hJ.2.2.2.2.2.2.2
  clear hJ
  clear F9 N9
  dsimp only at e eb lh1 lp1 hsp hr1 hh1 hp1 F1 N1 ⊢
  have hbr : 0 ≤ b → sp < b.toNat ∧ b.toNat < heap1.length ∧ 0 ≤ heap1.getD b.toNat 0 ∧ heap1.getD b.toNat 0 < act.length := fun h0 => by
    rw [eb] at h0 ⊢
    have h2 := betterC_lt h0
    exact ⟨h2.1, h2.2, hr1.at h2.2⟩
  show wpAny _ _ _ _ _ _
  k_fold
  k_steps
  · have hb0 : 0 ≤ b := by (first | (apply ap_x; assumption; (repeat constructor); done) | (refine Nat.ne_of_gt ?_; simp only [*]; done) | (refine Nat.ne_of_lt ?_; simp only [*]; done) | ((fail_if_success (fail_if_success omega (config := {}))); (first | with_reducible assumption | decide | lia | omega (config := {}))))
    have hb := hbr hb0
    have N2 := ‹News g' L' _ _›
    have F2 := ‹Fr g' L' _ _›
    try dsimp only at F2 N2 ⊢
    simp only [Int.toNat_natCast] at F2 ⊢
    refine stop_go (is_before_spec C' F2 (cb_drop N2 (by (first | ((repeat (first | exact sub_nil | refine sub_cons 0 rfl ?_ | refine sub_cons 1 rfl ?_ | refine sub_cons 2 rfl ?_ | refine sub_cons 3 rfl ?_ | refine sub_cons 4 rfl ?_ | refine sub_cons 5 rfl ?_ | refine sub_cons 6 rfl ?_ | refine sub_cons 7 rfl ?_ | refine sub_cons 8 rfl ?_ | refine sub_cons 9 rfl ?_ | refine sub_cons 10 rfl ?_ | refine sub_cons 11 rfl ?_ | refine sub_cons 12 rfl ?_ | refine sub_cons 13 rfl ?_)); done) | kcf_all))) (by show dp + 1 + 20 < recursionLimit; exact room2 hdp rfl) (by show un + 3 + 100 < cLine; exact room2 hun rfl) ha la hb.2.2.1 hb.2.2.2 hr0.1 hr0.2 ?_)
    intro h3 tk3 F3 K3
    have N3 := news_all N2 K3
    clear F2 N2 K3
    k_steps
    · have hbt := ‹before _ _ _ = true›
      try dsimp only
      refine stop_go (put_spec C' (by assumption) (cb_drop N3 (by (first | ((repeat (first | exact sub_nil | refine sub_cons 0 rfl ?_ | refine sub_cons 1 rfl ?_ | refine sub_cons 2 rfl ?_ | refine sub_cons 3 rfl ?_ | refine sub_cons 4 rfl ?_ | refine sub_cons 5 rfl ?_ | refine sub_cons 6 rfl ?_ | refine sub_cons 7 rfl ?_ | refine sub_cons 8 rfl ?_ | refine sub_cons 9 rfl ?_ | refine sub_cons 10 rfl ?_ | refine sub_cons 11 rfl ?_ | refine sub_cons 12 rfl ?_ | refine sub_cons 13 rfl ?_)); done) | kcf_all))) (by show dp + 1 + 20 < recursionLimit; exact room2 hdp rfl) (by show un + 3 + 100 < cLine; exact room2 hun rfl) o1 o2 o3 o4 hh1 hp1 (by (first | (apply ap_x; assumption; (repeat constructor); done) | (refine Nat.ne_of_gt ?_; simp only [*]; done) | (refine Nat.ne_of_lt ?_; simp only [*]; done) | ((fail_if_success (fail_if_success omega (config := {}))); (first | with_reducible assumption | decide | lia | omega (config := {}))))) (by (first | (apply ap_x; assumption; (repeat constructor); done) | (refine Nat.ne_of_gt ?_; simp only [*]; done) | (refine Nat.ne_of_lt ?_; simp only [*]; done) | ((fail_if_success (fail_if_success omega (config := {}))); (first | with_reducible assumption | decide | lia | omega (config := {}))))) (by (first | (apply ap_x; assumption; (repeat constructor); done) | (refine Nat.ne_of_gt ?_; simp only [*]; done) | (refine Nat.ne_of_lt ?_; simp only [*]; done) | ((fail_if_success (fail_if_success omega (config := {}))); (first | with_reducible assumption | decide | lia | omega (config := {}))))) (by (first | (apply ap_x; assumption; (repeat constructor); done) | (refine Nat.ne_of_gt ?_; simp only [*]; done) | (refine Nat.ne_of_lt ?_; simp only [*]; done) | ((fail_if_success (fail_if_success omega (config := {}))); (first | with_reducible assumption | decide | lia | omega (config := {}))))) hb.2.2.1 (by (first | (apply ap_x; assumption; (repeat constructor); done) | (refine Nat.ne_of_gt ?_; simp only [*]; done) | (refine Nat.ne_of_lt ?_; simp only [*]; done) | ((fail_if_success (fail_if_success omega (config := {}))); (first | with_reducible assumption | decide | lia | omega (config := {}))))) ?_)
      intro h4 tk4 hvs4 nh4 pvs4 np4 hh4 hp4 F4 N4 K4
      simp only [Int.toNat_natCast] at hh4 hp4
      have N5 := news_re N3 (by repeat (first | exact Rest.nil | (apply Rest.keep; focus ((repeat (first | exact off_nil | (refine off_cons ?_ ?_; focus (first | (apply ap_x; assumption; (repeat constructor); done) | (refine Nat.ne_of_gt ?_; simp only [*]; done) | (refine Nat.ne_of_lt ?_; simp only [*]; done) | ((fail_if_success (fail_if_success omega (config := {}))); (first | with_reducible assumption | decide | lia | omega (config := {}))))))); done)) | apply Rest.skip)) K4 N4
      dsimp only [List.cons_append, List.nil_append] at N5
      clear F3 N3 N4 K4
      k_steps
      obtain ⟨bN, rfl⟩ := Int.eq_ofNat_of_zero_le hb0
      simp only [Int.toNat_natCast] at hb hbt hh4 hp4
      have hl4 : (heap1.set sp (heap1.getD bN 0)).length = heap.length := by rw [List.length_set]; exact lh1
      have hr4 := hr1.set (i := sp) hb.2.2.1 hb.2.2.2
      have N6 := ‹News g' L' _ _›
      have F6 := ‹Fr g' L' _ _›
      try dsimp only at F6 N6 ⊢
      refine stop_go (better_child_spec C' F6 (cb_drop N6 (by (first | ((repeat (first | exact sub_nil | refine sub_cons 0 rfl ?_ | refine sub_cons 1 rfl ?_ | refine sub_cons 2 rfl ?_ | refine sub_cons 3 rfl ?_ | refine sub_cons 4 rfl ?_ | refine sub_cons 5 rfl ?_ | refine sub_cons 6 rfl ?_ | refine sub_cons 7 rfl ?_ | refine sub_cons 8 rfl ?_ | refine sub_cons 9 rfl ?_ | refine sub_cons 10 rfl ?_ | refine sub_cons 11 rfl ?_ | refine sub_cons 12 rfl ?_ | refine sub_cons 13 rfl ?_)); done) | kcf_all))) (by show dp + 1 + 40 < recursionLimit; exact room2 hdp rfl) (by show un + 3 + 200 < cLine; exact room2 hun rfl) ha hh4 la (by (first | (apply ap_x; assumption; (repeat constructor); done) | (refine Nat.ne_of_gt ?_; simp only [*]; done) | (refine Nat.ne_of_lt ?_; simp only [*]; done) | ((fail_if_success (fail_if_success omega (config := {}))); (first | with_reducible assumption | decide | lia | omega (config := {}))))) (by (first | (apply ap_x; assumption; (repeat constructor); done) | (refine Nat.ne_of_gt ?_; simp only [*]; done) | (refine Nat.ne_of_lt ?_; simp only [*]; done) | ((fail_if_success (fail_if_success omega (config := {}))); (first | with_reducible assumption | decide | lia | omega (config := {}))))) (by (first | (apply ap_x; assumption; (repeat constructor); done) | (refine Nat.ne_of_gt ?_; simp only [*]; done) | (refine Nat.ne_of_lt ?_; simp only [*]; done) | ((fail_if_success (fail_if_success omega (config := {}))); (first | with_reducible assumption | decide | lia | omega (config := {}))))) hr4 ?_)
      intro h7 tk7 t7 F7 K7
      have N7 := news_all N6 K7
      clear F6 N6 K7
      rw [Int.toNat_natCast]
      k_steps
      have N8 := ‹News g' L' _ _›
      have F8 := ‹Fr g' L' _ _›
      refine stop_go (ksw_end ⟨bN, _, _, _, hvs4, nh4, pvs4, np4, _, _⟩ F8 N8 (by (first | ((repeat (first | exact sub_nil | refine sub_cons 0 rfl ?_ | refine sub_cons 1 rfl ?_ | refine sub_cons 2 rfl ?_ | refine sub_cons 3 rfl ?_ | refine sub_cons 4 rfl ?_ | refine sub_cons 5 rfl ?_ | refine sub_cons 6 rfl ?_ | refine sub_cons 7 rfl ?_ | refine sub_cons 8 rfl ?_ | refine sub_cons 9 rfl ?_ | refine sub_cons 10 rfl ?_ | refine sub_cons 11 rfl ?_ | refine sub_cons 12 rfl ?_ | refine sub_cons 13 rfl ?_)); done) | kcf_all)) trivial (by kst_all) (by intro z h2 h3; have e0 : z ≠ Str.ofString "spot" := h2 _ (.head _); have e1 : z ≠ Str.ofString "below" := h2 _ (.tail _ (.head _)); simp only [e0, e1, kstB, h3, if_false, Bool.false_eq_true] <;> rfl) ⟨?_, rfl, hl4, ?_, ?_, hr4, hh4, hp4⟩ (by show heap.length - bN < heap.length - sp; (first | (apply ap_x; assumption; (repeat constructor); done) | (refine Nat.ne_of_gt ?_; simp only [*]; done) | (refine Nat.ne_of_lt ?_; simp only [*]; done) | ((fail_if_success (fail_if_success omega (config := {}))); (first | with_reducible assumption | decide | lia | omega (config := {}))))))
      · show sinkL _ _ _ _ _ = _
        rw [← e]
        conv => rhs; rw [sinkL_eq, ← eb]
        rw [if_pos ⟨hb0, hbt⟩]
        rfl
      · show List.length _ = _
        rw [List.length_set]; exact lp1
      · show bN < _
        (first | (apply ap_x; assumption; (repeat constructor); done) | (refine Nat.ne_of_gt ?_; simp only [*]; done) | (refine Nat.ne_of_lt ?_; simp only [*]; done) | ((fail_if_success (fail_if_success omega (config := {}))); (first | with_reducible assumption | decide | lia | omega (config := {}))))
    · have hnb := ‹before _ _ _ = false›
      refine stop_go (put_spec C' (by assumption) (cb_drop N3 (by (first | ((repeat (first | exact sub_nil | refine sub_cons 0 rfl ?_ | refine sub_cons 1 rfl ?_ | refine sub_cons 2 rfl ?_ | refine sub_cons 3 rfl ?_ | refine sub_cons 4 rfl ?_ | refine sub_cons 5 rfl ?_ | refine sub_cons 6 rfl ?_ | refine sub_cons 7 rfl ?_ | refine sub_cons 8 rfl ?_ | refine sub_cons 9 rfl ?_ | refine sub_cons 10 rfl ?_ | refine sub_cons 11 rfl ?_ | refine sub_cons 12 rfl ?_ | refine sub_cons 13 rfl ?_)); done) | kcf_all))) (by show dp + 1 + 20 < recursionLimit; exact room2 hdp rfl) (by show un + 3 + 100 < cLine; exact room2 hun rfl) o1 o2 o3 o4 hh1 hp1 (by (first | (apply ap_x; assumption; (repeat constructor); done) | (refine Nat.ne_of_gt ?_; simp only [*]; done) | (refine Nat.ne_of_lt ?_; simp only [*]; done) | ((fail_if_success (fail_if_success omega (config := {}))); (first | with_reducible assumption | decide | lia | omega (config := {}))))) (by (first | (apply ap_x; assumption; (repeat constructor); done) | (refine Nat.ne_of_gt ?_; simp only [*]; done) | (refine Nat.ne_of_lt ?_; simp only [*]; done) | ((fail_if_success (fail_if_success omega (config := {}))); (first | with_reducible assumption | decide | lia | omega (config := {}))))) (by (first | (apply ap_x; assumption; (repeat constructor); done) | (refine Nat.ne_of_gt ?_; simp only [*]; done) | (refine Nat.ne_of_lt ?_; simp only [*]; done) | ((fail_if_success (fail_if_success omega (config := {}))); (first | with_reducible assumption | decide | lia | omega (config := {}))))) (by (first | (apply ap_x; assumption; (repeat constructor); done) | (refine Nat.ne_of_gt ?_; simp only [*]; done) | (refine Nat.ne_of_lt ?_; simp only [*]; done) | ((fail_if_success (fail_if_success omega (config := {}))); (first | with_reducible assumption | decide | lia | omega (config := {}))))) hr0.1 (by (first | (apply ap_x; assumption; (repeat constructor); done) | (refine Nat.ne_of_gt ?_; simp only [*]; done) | (refine Nat.ne_of_lt ?_; simp only [*]; done) | ((fail_if_success (fail_if_success omega (config := {}))); (first | with_reducible assumption | decide | lia | omega (config := {}))))) ?_)
      intro h4 tk4 hvs4 nh4 pvs4 np4 hh4 hp4 F4 N4 K4
      simp only [Int.toNat_natCast] at hh4 hp4
      have N5 := news_re N3 (by repeat (first | exact Rest.nil | (apply Rest.keep; focus ((repeat (first | exact off_nil | (refine off_cons ?_ ?_; focus (first | (apply ap_x; assumption; (repeat constructor); done) | (refine Nat.ne_of_gt ?_; simp only [*]; done) | (refine Nat.ne_of_lt ?_; simp only [*]; done) | ((fail_if_success (fail_if_success omega (config := {}))); (first | with_reducible assumption | decide | lia | omega (config := {}))))))); done)) | apply Rest.skip)) K4 N4
      dsimp only [List.cons_append, List.nil_append] at N5
      clear F3 N3 N4 K4
      k_steps
      have kN9 := ‹News h₀ L _ _›
      have kP9 := ‹Kept s.heap _ _›
      have er : sinkL act (heap.getD sp0 0) heap place sp0 = (heap1.set sp (heap.getD sp0 0), place1.set (heap.getD sp0 0).toNat sp) := by
        rw [← e, sinkL_eq, ← eb]
        rw [if_neg (fun h => by have h2 := h.2; rw [hnb] at h2; cases h2)]
      rw [er] at k
      exact k _ _ _ _ _ _ hh4 hp4 (by assumption) (news_sub kN9 (by (first | ((repeat (first | exact sub_nil | refine sub_cons 0 rfl ?_ | refine sub_cons 1 rfl ?_ | refine sub_cons 2 rfl ?_ | refine sub_cons 3 rfl ?_ | refine sub_cons 4 rfl ?_ | refine sub_cons 5 rfl ?_ | refine sub_cons 6 rfl ?_ | refine sub_cons 7 rfl ?_ | refine sub_cons 8 rfl ?_ | refine sub_cons 9 rfl ?_ | refine sub_cons 10 rfl ?_ | refine sub_cons 11 rfl ?_ | refine sub_cons 12 rfl ?_ | refine sub_cons 13 rfl ?_)); done) | kcf_all))) (kept_shrink (same := [(x, instObj 144 dx), (dx, oDict D al hl pl), (al, oList avs na)]) N kN9 kP9 (by (first | ((repeat (first | exact ks_nil | refine ks_l 0 rfl ?_ | refine ks_l 1 rfl ?_ | refine ks_l 2 rfl ?_ | refine ks_l 3 rfl ?_ | refine ks_l 4 rfl ?_ | refine ks_r 0 rfl ?_ | refine ks_r 1 rfl ?_ | refine ks_r 2 rfl ?_ | refine ks_r 3 rfl ?_ | refine ks_r 4 rfl ?_ | refine ks_r 5 rfl ?_)); done) | simp)) (by (first | ((repeat (first | exact sub_nil | refine sub_cons 0 rfl ?_ | refine sub_cons 1 rfl ?_ | refine sub_cons 2 rfl ?_ | refine sub_cons 3 rfl ?_ | refine sub_cons 4 rfl ?_ | refine sub_cons 5 rfl ?_ | refine sub_cons 6 rfl ?_ | refine sub_cons 7 rfl ?_ | refine sub_cons 8 rfl ?_ | refine sub_cons 9 rfl ?_ | refine sub_cons 10 rfl ?_ | refine sub_cons 11 rfl ?_ | refine sub_cons 12 rfl ?_ | refine sub_cons 13 rfl ?_)); done) | kcf_all)) (by (first | ((repeat (first | exact sub_nil | refine sub_cons 0 rfl ?_ | refine sub_cons 1 rfl ?_ | refine sub_cons 2 rfl ?_ | refine sub_cons 3 rfl ?_ | refine sub_cons 4 rfl ?_ | refine sub_cons 5 rfl ?_ | refine sub_cons 6 rfl ?_ | refine sub_cons 7 rfl ?_ | refine sub_cons 8 rfl ?_ | refine sub_cons 9 rfl ?_ | refine sub_cons 10 rfl ?_ | refine sub_cons 11 rfl ?_ | refine sub_cons 12 rfl ?_ | refine sub_cons 13 rfl ?_)); done) | kcf_all)))
  · simp only [Int.toNat_natCast]
    refine stop_go (put_spec C' (by assumption) (cb_drop N1 (by (first | ((repeat (first | exact sub_nil | refine sub_cons 0 rfl ?_ | refine sub_cons 1 rfl ?_ | refine sub_cons 2 rfl ?_ | refine sub_cons 3 rfl ?_ | refine sub_cons 4 rfl ?_ | refine sub_cons 5 rfl ?_ | refine sub_cons 6 rfl ?_ | refine sub_cons 7 rfl ?_ | refine sub_cons 8 rfl ?_ | refine sub_cons 9 rfl ?_ | refine sub_cons 10 rfl ?_ | refine sub_cons 11 rfl ?_ | refine sub_cons 12 rfl ?_ | refine sub_cons 13 rfl ?_)); done) | kcf_all))) (by show dp + 1 + 20 < recursionLimit; exact room2 hdp rfl) (by show un + 3 + 100 < cLine; exact room2 hun rfl) o1 o2 o3 o4 hh1 hp1 (by (first | (apply ap_x; assumption; (repeat constructor); done) | (refine Nat.ne_of_gt ?_; simp only [*]; done) | (refine Nat.ne_of_lt ?_; simp only [*]; done) | ((fail_if_success (fail_if_success omega (config := {}))); (first | with_reducible assumption | decide | lia | omega (config := {}))))) (by (first | (apply ap_x; assumption; (repeat constructor); done) | (refine Nat.ne_of_gt ?_; simp only [*]; done) | (refine Nat.ne_of_lt ?_; simp only [*]; done) | ((fail_if_success (fail_if_success omega (config := {}))); (first | with_reducible assumption | decide | lia | omega (config := {}))))) (by (first | (apply ap_x; assumption; (repeat constructor); done) | (refine Nat.ne_of_gt ?_; simp only [*]; done) | (refine Nat.ne_of_lt ?_; simp only [*]; done) | ((fail_if_success (fail_if_success omega (config := {}))); (first | with_reducible assumption | decide | lia | omega (config := {}))))) (by (first | (apply ap_x; assumption; (repeat constructor); done) | (refine Nat.ne_of_gt ?_; simp only [*]; done) | (refine Nat.ne_of_lt ?_; simp only [*]; done) | ((fail_if_success (fail_if_success omega (config := {}))); (first | with_reducible assumption | decide | lia | omega (config := {}))))) hr0.1 (by (first | (apply ap_x; assumption; (repeat constructor); done) | (refine Nat.ne_of_gt ?_; simp only [*]; done) | (refine Nat.ne_of_lt ?_; simp only [*]; done) | ((fail_if_success (fail_if_success omega (config := {}))); (first | with_reducible assumption | decide | lia | omega (config := {}))))) ?_)
    intro h4 tk4 hvs4 nh4 pvs4 np4 hh4 hp4 F4 N4 K4
    simp only [Int.toNat_natCast] at hh4 hp4
    have N5 := news_re N1 (by repeat (first | exact Rest.nil | (apply Rest.keep; focus ((repeat (first | exact off_nil | (refine off_cons ?_ ?_; focus (first | (apply ap_x; assumption; (repeat constructor); done) | (refine Nat.ne_of_gt ?_; simp only [*]; done) | (refine Nat.ne_of_lt ?_; simp only [*]; done) | ((fail_if_success (fail_if_success omega (config := {}))); (first | with_reducible assumption | decide | lia | omega (config := {}))))))); done)) | apply Rest.skip)) K4 N4
    dsimp only [List.cons_append, List.nil_append] at N5
    clear F1 N1 N4 K4
    k_steps
    have kN9 := ‹News h₀ L _ _›
    have kP9 := ‹Kept s.heap _ _›
    have er : sinkL act (heap.getD sp0 0) heap place sp0 = (heap1.set sp (heap.getD sp0 0), place1.set (heap.getD sp0 0).toNat sp) := by
      rw [← e, sinkL_eq, ← eb]
      rw [if_neg (fun h => by have h2 := h.1; (first | (apply ap_x; assumption; (repeat constructor); done) | (refine Nat.ne_of_gt ?_; simp only [*]; done) | (refine Nat.ne_of_lt ?_; simp only [*]; done) | ((fail_if_success (fail_if_success omega (config := {}))); (first | with_reducible assumption | decide | lia | omega (config := {})))))]
    rw [er] at k
    exact k _ _ _ _ _ _ hh4 hp4 (by assumption) (news_sub kN9 (by (first | ((repeat (first | exact sub_nil | refine sub_cons 0 rfl ?_ | refine sub_cons 1 rfl ?_ | refine sub_cons 2 rfl ?_ | refine sub_cons 3 rfl ?_ | refine sub_cons 4 rfl ?_ | refine sub_cons 5 rfl ?_ | refine sub_cons 6 rfl ?_ | refine sub_cons 7 rfl ?_ | refine sub_cons 8 rfl ?_ | refine sub_cons 9 rfl ?_ | refine sub_cons 10 rfl ?_ | refine sub_cons 11 rfl ?_ | refine sub_cons 12 rfl ?_ | refine sub_cons 13 rfl ?_)); done) | kcf_all))) (kept_shrink (same := [(x, instObj 144 dx), (dx, oDict D al hl pl), (al, oList avs na)]) N kN9 kP9 (by (first | ((repeat (first | exact ks_nil | refine ks_l 0 rfl ?_ | refine ks_l 1 rfl ?_ | refine ks_l 2 rfl ?_ | refine ks_l 3 rfl ?_ | refine ks_l 4 rfl ?_ | refine ks_r 0 rfl ?_ | refine ks_r 1 rfl ?_ | refine ks_r 2 rfl ?_ | refine ks_r 3 rfl ?_ | refine ks_r 4 rfl ?_ | refine ks_r 5 rfl ?_)); done) | simp)) (by (first | ((repeat (first | exact sub_nil | refine sub_cons 0 rfl ?_ | refine sub_cons 1 rfl ?_ | refine sub_cons 2 rfl ?_ | refine sub_cons 3 rfl ?_ | refine sub_cons 4 rfl ?_ | refine sub_cons 5 rfl ?_ | refine sub_cons 6 rfl ?_ | refine sub_cons 7 rfl ?_ | refine sub_cons 8 rfl ?_ | refine sub_cons 9 rfl ?_ | refine sub_cons 10 rfl ?_ | refine sub_cons 11 rfl ?_ | refine sub_cons 12 rfl ?_ | refine sub_cons 13 rfl ?_)); done) | kcf_all)) (by (first | ((repeat (first | exact sub_nil | refine sub_cons 0 rfl ?_ | refine sub_cons 1 rfl ?_ | refine sub_cons 2 rfl ?_ | refine sub_cons 3 rfl ?_ | refine sub_cons 4 rfl ?_ | refine sub_cons 5 rfl ?_ | refine sub_cons 6 rfl ?_ | refine sub_cons 7 rfl ?_ | refine sub_cons 8 rfl ?_ | refine sub_cons 9 rfl ?_ | refine sub_cons 10 rfl ?_ | refine sub_cons 11 rfl ?_ | refine sub_cons 12 rfl ?_ | refine sub_cons 13 rfl ?_)); done) | kcf_all)))

theorem pop_spec {w : World} {env : Env} {outer : List Env} {L : Addr} {h₀ : Heap} {m : Str → Option Value} {dp un : Nat} {gd : Option (List Code)} {s : Shared} {Q E : Value → Shared → Prop}
    {x dx al hl pl : Addr} {D : DP} {avs hvs pvs : List Value} {na nh np : Nat} {act heap place : List Int}
    (C : Cx w env outer L h₀) (F : Fr h₀ L s.heap m) (N : News h₀ L s.heap [(x, instObj 144 dx), (dx, oDict D al hl pl), (al, oList avs na), (hl, oList hvs nh), (pl, oList pvs np)])
    (hdp : dp + 180 < recursionLimit) (hun : un + 900 < cLine)
    (o1 : @LT.lt Nat _ dx x) (o2 : @LT.lt Nat _ x al) (o3 : @LT.lt Nat _ al hl) (o4 : @LT.lt Nat _ hl pl) (ha : IntsAre avs act) (hh : IntsAre hvs heap) (hp : IntsAre pvs place) (la : act.length ≤ 1000) (lh : heap.length ≤ 1000) (lp : place.length = act.length) (hr : InRange heap act.length)
    (k : ∀ h' tk' hvs' nh' pvs' np' t v9 H9 P9, popL act heap place = (v9, H9, P9) → IntsAre hvs' H9 → IntsAre pvs' P9 → Fr h₀ L h' m → News h₀ L h' [(hl, oList hvs' nh'), (pl, oList pvs' np')] → Kept s.heap h' [hl, pl] → Q (.int v9 t) { s with heap := h', toks := tk' }) :
    wpAny (model PySem.Challenge.rw_rg0205_01.row.prog w) ⟨none, dp, some (env :: outer), gd, un⟩ (call (.ref 106) [.ref x]) Q E s := by
  refine cx_elim C fun A₀ base mean mg mb B X T hf hke => ?_
  revert X
  k_fill
  intro X
  refine wpAny_call ?_
  refine' enterR (binds := [(Str.ofString "self", .ref x)]) B F X N T rfl hf hke ?k6 ?k7 ?k8 ?k9 ?kB ?_ ?c2 ?c3 ?c4 ?c5
  case k6 => k_is
  case k7 => k_is
  case k8 => exact Nat.lt_of_le_of_lt (Nat.le_add_right _ _) hdp
  case k9 => exact BindsTo.of_eq rfl
  case kB => exact locs rfl
  case c2 => exact rfl
  case c3 => exact rfl
  case c4 => exact rfl
  case c5 => decide
  intro g' L' h' FG' F' N' B' X' T' l1 hL C'
  dsimp only
  k_fold
  k_lt l1
  have ap := ap5 o1 o2 o3 o4
  have lv1 := IntsAre.length ha
  have lv2 := IntsAre.length hh
  have lv3 := IntsAre.length hp
  rcases Nat.eq_zero_or_pos heap.length with hz | hz
  · k_steps
    all_goals (try (exfalso; (first | (apply ap_x; assumption; (repeat constructor); done) | (refine Nat.ne_of_gt ?_; simp only [*]; done) | (refine Nat.ne_of_lt ?_; simp only [*]; done) | ((fail_if_success (fail_if_success omega (config := {}))); (first | with_reducible assumption | decide | lia | omega (config := {}))))))
    have er : popL act heap place = (0, heap, place) := by unfold popL; rw [if_pos (by (first | (apply ap_x; assumption; (repeat constructor); done) | (refine Nat.ne_of_gt ?_; simp only [*]; done) | (refine Nat.ne_of_lt ?_; simp only [*]; done) | ((fail_if_success (fail_if_success omega (config := {}))); (first | with_reducible assumption | decide | lia | omega (config := {})))))]
    have kN9 := ‹News h₀ L _ _›
    have kP9 := ‹Kept s.heap _ _›
    exact k _ _ _ _ _ _ _ _ _ _ er hh hp (by assumption) (news_sub kN9 (by (first | ((repeat (first | exact sub_nil | refine sub_cons 0 rfl ?_ | refine sub_cons 1 rfl ?_ | refine sub_cons 2 rfl ?_ | refine sub_cons 3 rfl ?_ | refine sub_cons 4 rfl ?_ | refine sub_cons 5 rfl ?_ | refine sub_cons 6 rfl ?_ | refine sub_cons 7 rfl ?_ | refine sub_cons 8 rfl ?_ | refine sub_cons 9 rfl ?_ | refine sub_cons 10 rfl ?_ | refine sub_cons 11 rfl ?_ | refine sub_cons 12 rfl ?_ | refine sub_cons 13 rfl ?_)); done) | kcf_all))) (kept_shrink (same := [(x, instObj 144 dx), (dx, oDict D al hl pl), (al, oList avs na)]) N kN9 kP9 (by (first | ((repeat (first | exact ks_nil | refine ks_l 0 rfl ?_ | refine ks_l 1 rfl ?_ | refine ks_l 2 rfl ?_ | refine ks_l 3 rfl ?_ | refine ks_l 4 rfl ?_ | refine ks_r 0 rfl ?_ | refine ks_r 1 rfl ?_ | refine ks_r 2 rfl ?_ | refine ks_r 3 rfl ?_ | refine ks_r 4 rfl ?_ | refine ks_r 5 rfl ?_)); done) | simp)) (by (first | ((repeat (first | exact sub_nil | refine sub_cons 0 rfl ?_ | refine sub_cons 1 rfl ?_ | refine sub_cons 2 rfl ?_ | refine sub_cons 3 rfl ?_ | refine sub_cons 4 rfl ?_ | refine sub_cons 5 rfl ?_ | refine sub_cons 6 rfl ?_ | refine sub_cons 7 rfl ?_ | refine sub_cons 8 rfl ?_ | refine sub_cons 9 rfl ?_ | refine sub_cons 10 rfl ?_ | refine sub_cons 11 rfl ?_ | refine sub_cons 12 rfl ?_ | refine sub_cons 13 rfl ?_)); done) | kcf_all)) (by (first | ((repeat (first | exact sub_nil | refine sub_cons 0 rfl ?_ | refine sub_cons 1 rfl ?_ | refine sub_cons 2 rfl ?_ | refine sub_cons 3 rfl ?_ | refine sub_cons 4 rfl ?_ | refine sub_cons 5 rfl ?_ | refine sub_cons 6 rfl ?_ | refine sub_cons 7 rfl ?_ | refine sub_cons 8 rfl ?_ | refine sub_cons 9 rfl ?_ | refine sub_cons 10 rfl ?_ | refine sub_cons 11 rfl ?_ | refine sub_cons 12 rfl ?_ | refine sub_cons 13 rfl ?_)); done) | kcf_all)))
  · have hr0 : 0 ≤ heap.getD (Int.toNat 0) 0 ∧ heap.getD (Int.toNat 0) 0 < act.length := hr.at (i := 0) hz
    have lvd : hvs.dropLast.length = heap.length - 1 := by rw [List.length_dropLast, lv2]
    have lvd2 : heap.dropLast.length = heap.length - 1 := by rw [List.length_dropLast]
    k_steps
    all_goals (try (exfalso; (first | (apply ap_x; assumption; (repeat constructor); done) | (refine Nat.ne_of_gt ?_; simp only [*]; done) | (refine Nat.ne_of_lt ?_; simp only [*]; done) | ((fail_if_success (fail_if_success omega (config := {}))); (first | with_reducible assumption | decide | lia | omega (config := {}))))))
    · have N2 := ‹News g' L' _ _›
      have F2 := ‹Fr g' L' _ _›
      try dsimp only at F2 N2 ⊢
      have hp4 := ‹IntsAre (pvs.set _ _) _›
      try dsimp only at hp4
      have hh4 := ‹IntsAre hvs.dropLast _›
      have e1 : heap.getLastD 0 = heap.getD (heap.length - 1) 0 := by rw [List.getLastD_eq_getLast?, List.getLast?_eq_getElem?, List.getD_eq_getElem?_getD]
      have hrl := hr.at (i := heap.length - 1) (by (first | (apply ap_x; assumption; (repeat constructor); done) | (refine Nat.ne_of_gt ?_; simp only [*]; done) | (refine Nat.ne_of_lt ?_; simp only [*]; done) | ((fail_if_success (fail_if_success omega (config := {}))); (first | with_reducible assumption | decide | lia | omega (config := {})))))
      rw [← e1] at hrl
      refine stop_go (put_spec C' F2 (cb_drop N2 (by (first | ((repeat (first | exact sub_nil | refine sub_cons 0 rfl ?_ | refine sub_cons 1 rfl ?_ | refine sub_cons 2 rfl ?_ | refine sub_cons 3 rfl ?_ | refine sub_cons 4 rfl ?_ | refine sub_cons 5 rfl ?_ | refine sub_cons 6 rfl ?_ | refine sub_cons 7 rfl ?_ | refine sub_cons 8 rfl ?_ | refine sub_cons 9 rfl ?_ | refine sub_cons 10 rfl ?_ | refine sub_cons 11 rfl ?_ | refine sub_cons 12 rfl ?_ | refine sub_cons 13 rfl ?_)); done) | kcf_all))) (by show dp + 1 + 20 < recursionLimit; exact room2 hdp rfl) (by show un + 3 + 100 < cLine; exact room2 hun rfl) o1 o2 o3 o4 hh4 hp4 (by (first | (apply ap_x; assumption; (repeat constructor); done) | (refine Nat.ne_of_gt ?_; simp only [*]; done) | (refine Nat.ne_of_lt ?_; simp only [*]; done) | ((fail_if_success (fail_if_success omega (config := {}))); (first | with_reducible assumption | decide | lia | omega (config := {}))))) (by rw [List.length_set]; (first | (apply ap_x; assumption; (repeat constructor); done) | (refine Nat.ne_of_gt ?_; simp only [*]; done) | (refine Nat.ne_of_lt ?_; simp only [*]; done) | ((fail_if_success (fail_if_success omega (config := {}))); (first | with_reducible assumption | decide | lia | omega (config := {}))))) (by (first | (apply ap_x; assumption; (repeat constructor); done) | (refine Nat.ne_of_gt ?_; simp only [*]; done) | (refine Nat.ne_of_lt ?_; simp only [*]; done) | ((fail_if_success (fail_if_success omega (config := {}))); (first | with_reducible assumption | decide | lia | omega (config := {}))))) (by (first | (apply ap_x; assumption; (repeat constructor); done) | (refine Nat.ne_of_gt ?_; simp only [*]; done) | (refine Nat.ne_of_lt ?_; simp only [*]; done) | ((fail_if_success (fail_if_success omega (config := {}))); (first | with_reducible assumption | decide | lia | omega (config := {}))))) hrl.1 (by rw [List.length_set]; (first | (apply ap_x; assumption; (repeat constructor); done) | (refine Nat.ne_of_gt ?_; simp only [*]; done) | (refine Nat.ne_of_lt ?_; simp only [*]; done) | ((fail_if_success (fail_if_success omega (config := {}))); (first | with_reducible assumption | decide | lia | omega (config := {}))))) ?_)
      intro h4 tk4 hvs4 nh4 pvs4 np4 hh4' hp4' F4 N4 K4
      have N5 := news_re N2 (by repeat (first | exact Rest.nil | (apply Rest.keep; focus ((repeat (first | exact off_nil | (refine off_cons ?_ ?_; focus (first | (apply ap_x; assumption; (repeat constructor); done) | (refine Nat.ne_of_gt ?_; simp only [*]; done) | (refine Nat.ne_of_lt ?_; simp only [*]; done) | ((fail_if_success (fail_if_success omega (config := {}))); (first | with_reducible assumption | decide | lia | omega (config := {}))))))); done)) | apply Rest.skip)) K4 N4
      dsimp only [List.cons_append, List.nil_append] at N5
      clear F2 N2 N4 K4
      k_steps
      have N6 := ‹News g' L' _ _›
      have F6 := ‹Fr g' L' _ _›
      try dsimp only at F6 N6 ⊢
      have hrd : InRange (heap.dropLast.set (Int.toNat 0) (heap.getLastD 0)) act.length := InRange.set (fun v hv => hr v (List.dropLast_subset _ hv)) hrl.1 hrl.2
      refine stop_go (sink_spec C' F6 (cb_drop N6 (by (first | ((repeat (first | exact sub_nil | refine sub_cons 0 rfl ?_ | refine sub_cons 1 rfl ?_ | refine sub_cons 2 rfl ?_ | refine sub_cons 3 rfl ?_ | refine sub_cons 4 rfl ?_ | refine sub_cons 5 rfl ?_ | refine sub_cons 6 rfl ?_ | refine sub_cons 7 rfl ?_ | refine sub_cons 8 rfl ?_ | refine sub_cons 9 rfl ?_ | refine sub_cons 10 rfl ?_ | refine sub_cons 11 rfl ?_ | refine sub_cons 12 rfl ?_ | refine sub_cons 13 rfl ?_)); done) | kcf_all))) (by show dp + 1 + 80 < recursionLimit; exact room2 hdp rfl) (by show un + 3 + 400 < cLine; exact room2 hun rfl) o1 o2 o3 o4 ha hh4' hp4' la (by rw [List.length_set]; (first | (apply ap_x; assumption; (repeat constructor); done) | (refine Nat.ne_of_gt ?_; simp only [*]; done) | (refine Nat.ne_of_lt ?_; simp only [*]; done) | ((fail_if_success (fail_if_success omega (config := {}))); (first | with_reducible assumption | decide | lia | omega (config := {}))))) (by rw [List.length_set, List.length_set]; exact lp) (by (first | (apply ap_x; assumption; (repeat constructor); done) | (refine Nat.ne_of_gt ?_; simp only [*]; done) | (refine Nat.ne_of_lt ?_; simp only [*]; done) | ((fail_if_success (fail_if_success omega (config := {}))); (first | with_reducible assumption | decide | lia | omega (config := {}))))) (by rw [List.length_set]; (first | (apply ap_x; assumption; (repeat constructor); done) | (refine Nat.ne_of_gt ?_; simp only [*]; done) | (refine Nat.ne_of_lt ?_; simp only [*]; done) | ((fail_if_success (fail_if_success omega (config := {}))); (first | with_reducible assumption | decide | lia | omega (config := {}))))) hrd ?_)
      intro h7 tk7 hvs7 nh7 pvs7 np7 hh7 hp7 F7 N7 K7
      have N8 := news_re N6 (by repeat (first | exact Rest.nil | (apply Rest.keep; focus ((repeat (first | exact off_nil | (refine off_cons ?_ ?_; focus (first | (apply ap_x; assumption; (repeat constructor); done) | (refine Nat.ne_of_gt ?_; simp only [*]; done) | (refine Nat.ne_of_lt ?_; simp only [*]; done) | ((fail_if_success (fail_if_success omega (config := {}))); (first | with_reducible assumption | decide | lia | omega (config := {}))))))); done)) | apply Rest.skip)) K7 N7
      dsimp only [List.cons_append, List.nil_append] at N8
      clear F6 N6 N7 K7
      k_steps
      have eg : (heap.dropLast.set (Int.toNat 0) (heap.getLastD 0)).getD (Int.toNat 0) 0 = heap.getLastD 0 := by
        rw [List.getD_eq_getElem?_getD, List.getElem?_set_self (by show 0 < _; (first | (apply ap_x; assumption; (repeat constructor); done) | (refine Nat.ne_of_gt ?_; simp only [*]; done) | (refine Nat.ne_of_lt ?_; simp only [*]; done) | ((fail_if_success (fail_if_success omega (config := {}))); (first | with_reducible assumption | decide | lia | omega (config := {})))))]; rfl
      rw [eg] at hh7 hp7
      have er : popL act heap place = (heap.getD 0 0, sinkL act (heap.getLastD 0) (heap.dropLast.set 0 (heap.getLastD 0)) ((place.set (heap.getD 0 0).toNat (-1)).set (heap.getLastD 0).toNat 0) 0) := by
        unfold popL; rw [if_neg (by (first | (apply ap_x; assumption; (repeat constructor); done) | (refine Nat.ne_of_gt ?_; simp only [*]; done) | (refine Nat.ne_of_lt ?_; simp only [*]; done) | ((fail_if_success (fail_if_success omega (config := {}))); (first | with_reducible assumption | decide | lia | omega (config := {}))))), if_neg (by (first | (apply ap_x; assumption; (repeat constructor); done) | (refine Nat.ne_of_gt ?_; simp only [*]; done) | (refine Nat.ne_of_lt ?_; simp only [*]; done) | ((fail_if_success (fail_if_success omega (config := {}))); (first | with_reducible assumption | decide | lia | omega (config := {})))))]
      have kN9 := ‹News h₀ L _ _›
      have kP9 := ‹Kept s.heap _ _›
      exact k _ _ _ _ _ _ _ _ _ _ er hh7 hp7 (by assumption) (news_sub kN9 (by (first | ((repeat (first | exact sub_nil | refine sub_cons 0 rfl ?_ | refine sub_cons 1 rfl ?_ | refine sub_cons 2 rfl ?_ | refine sub_cons 3 rfl ?_ | refine sub_cons 4 rfl ?_ | refine sub_cons 5 rfl ?_ | refine sub_cons 6 rfl ?_ | refine sub_cons 7 rfl ?_ | refine sub_cons 8 rfl ?_ | refine sub_cons 9 rfl ?_ | refine sub_cons 10 rfl ?_ | refine sub_cons 11 rfl ?_ | refine sub_cons 12 rfl ?_ | refine sub_cons 13 rfl ?_)); done) | kcf_all))) (kept_shrink (same := [(x, instObj 144 dx), (dx, oDict D al hl pl), (al, oList avs na)]) N kN9 kP9 (by (first | ((repeat (first | exact ks_nil | refine ks_l 0 rfl ?_ | refine ks_l 1 rfl ?_ | refine ks_l 2 rfl ?_ | refine ks_l 3 rfl ?_ | refine ks_l 4 rfl ?_ | refine ks_r 0 rfl ?_ | refine ks_r 1 rfl ?_ | refine ks_r 2 rfl ?_ | refine ks_r 3 rfl ?_ | refine ks_r 4 rfl ?_ | refine ks_r 5 rfl ?_)); done) | simp)) (by (first | ((repeat (first | exact sub_nil | refine sub_cons 0 rfl ?_ | refine sub_cons 1 rfl ?_ | refine sub_cons 2 rfl ?_ | refine sub_cons 3 rfl ?_ | refine sub_cons 4 rfl ?_ | refine sub_cons 5 rfl ?_ | refine sub_cons 6 rfl ?_ | refine sub_cons 7 rfl ?_ | refine sub_cons 8 rfl ?_ | refine sub_cons 9 rfl ?_ | refine sub_cons 10 rfl ?_ | refine sub_cons 11 rfl ?_ | refine sub_cons 12 rfl ?_ | refine sub_cons 13 rfl ?_)); done) | kcf_all)) (by (first | ((repeat (first | exact sub_nil | refine sub_cons 0 rfl ?_ | refine sub_cons 1 rfl ?_ | refine sub_cons 2 rfl ?_ | refine sub_cons 3 rfl ?_ | refine sub_cons 4 rfl ?_ | refine sub_cons 5 rfl ?_ | refine sub_cons 6 rfl ?_ | refine sub_cons 7 rfl ?_ | refine sub_cons 8 rfl ?_ | refine sub_cons 9 rfl ?_ | refine sub_cons 10 rfl ?_ | refine sub_cons 11 rfl ?_ | refine sub_cons 12 rfl ?_ | refine sub_cons 13 rfl ?_)); done) | kcf_all)))
    · have er : popL act heap place = (heap.getD 0 0, heap.dropLast, place.set (heap.getD 0 0).toNat (-1)) := by
        unfold popL; rw [if_neg (by (first | (apply ap_x; assumption; (repeat constructor); done) | (refine Nat.ne_of_gt ?_; simp only [*]; done) | (refine Nat.ne_of_lt ?_; simp only [*]; done) | ((fail_if_success (fail_if_success omega (config := {}))); (first | with_reducible assumption | decide | lia | omega (config := {}))))), if_pos (by (first | (apply ap_x; assumption; (repeat constructor); done) | (refine Nat.ne_of_gt ?_; simp only [*]; done) | (refine Nat.ne_of_lt ?_; simp only [*]; done) | ((fail_if_success (fail_if_success omega (config := {}))); (first | with_reducible assumption | decide | lia | omega (config := {})))))]
      have kN9 := ‹News h₀ L _ _›
      have kP9 := ‹Kept s.heap _ _›
      exact k _ _ _ _ _ _ _ _ _ _ er (by assumption) (by assumption) (by assumption) (news_sub kN9 (by (first | ((repeat (first | exact sub_nil | refine sub_cons 0 rfl ?_ | refine sub_cons 1 rfl ?_ | refine sub_cons 2 rfl ?_ | refine sub_cons 3 rfl ?_ | refine sub_cons 4 rfl ?_ | refine sub_cons 5 rfl ?_ | refine sub_cons 6 rfl ?_ | refine sub_cons 7 rfl ?_ | refine sub_cons 8 rfl ?_ | refine sub_cons 9 rfl ?_ | refine sub_cons 10 rfl ?_ | refine sub_cons 11 rfl ?_ | refine sub_cons 12 rfl ?_ | refine sub_cons 13 rfl ?_)); done) | kcf_all))) (kept_shrink (same := [(x, instObj 144 dx), (dx, oDict D al hl pl), (al, oList avs na)]) N kN9 kP9 (by (first | ((repeat (first | exact ks_nil | refine ks_l 0 rfl ?_ | refine ks_l 1 rfl ?_ | refine ks_l 2 rfl ?_ | refine ks_l 3 rfl ?_ | refine ks_l 4 rfl ?_ | refine ks_r 0 rfl ?_ | refine ks_r 1 rfl ?_ | refine ks_r 2 rfl ?_ | refine ks_r 3 rfl ?_ | refine ks_r 4 rfl ?_ | refine ks_r 5 rfl ?_)); done) | simp)) (by (first | ((repeat (first | exact sub_nil | refine sub_cons 0 rfl ?_ | refine sub_cons 1 rfl ?_ | refine sub_cons 2 rfl ?_ | refine sub_cons 3 rfl ?_ | refine sub_cons 4 rfl ?_ | refine sub_cons 5 rfl ?_ | refine sub_cons 6 rfl ?_ | refine sub_cons 7 rfl ?_ | refine sub_cons 8 rfl ?_ | refine sub_cons 9 rfl ?_ | refine sub_cons 10 rfl ?_ | refine sub_cons 11 rfl ?_ | refine sub_cons 12 rfl ?_ | refine sub_cons 13 rfl ?_)); done) | kcf_all)) (by (first | ((repeat (first | exact sub_nil | refine sub_cons 0 rfl ?_ | refine sub_cons 1 rfl ?_ | refine sub_cons 2 rfl ?_ | refine sub_cons 3 rfl ?_ | refine sub_cons 4 rfl ?_ | refine sub_cons 5 rfl ?_ | refine sub_cons 6 rfl ?_ | refine sub_cons 7 rfl ?_ | refine sub_cons 8 rfl ?_ | refine sub_cons 9 rfl ?_ | refine sub_cons 10 rfl ?_ | refine sub_cons 11 rfl ?_ | refine sub_cons 12 rfl ?_ | refine sub_cons 13 rfl ?_)); done) | kcf_all)))
-- RgC4

theorem new_spec {w : World} {env : Env} {outer : List Env} {L : Addr} {h₀ : Heap} {m : Str → Option Value} {dp un : Nat} {gd : Option (List Code)} {s : Shared} {Q E : Value → Shared → Prop} {news : List (Addr × Obj)}
    (C : Cx w env outer L h₀) (F : Fr h₀ L s.heap m) (N : News h₀ L s.heap news)
    (hdp : dp + 40 < recursionLimit) (hun : un + 200 < cLine)
    (k : ∀ x dx al hl pl D h' tk' avs na hvs nh pvs np, @LT.lt Nat _ dx x → @LT.lt Nat _ x al → @LT.lt Nat _ al hl → @LT.lt Nat _ hl pl → (∀ p ∈ news, @LT.lt Nat _ p.1 dx) → IntsAre avs [0] → IntsAre hvs [] → IntsAre pvs [-1] → Fr h₀ L h' m → News h₀ L h' ([(x, instObj 144 dx), (dx, oDict D al hl pl), (al, oList avs na), (hl, oList hvs nh), (pl, oList pvs np)] ++ news) → Q (.ref x) { s with heap := h', toks := tk' }) :
    wpAny (model PySem.Challenge.rw_rg0205_01.row.prog w) ⟨none, dp, some (env :: outer), gd, un⟩ (call (.ref 144) []) Q E s := by
  refine cx_elim C fun A₀ base mean mg mb B X T hf hke => ?_
  revert X
  k_fill
  intro X
  refine' call_cls F X N ?k4 ?k5 ?k6 ?_
  case k4 => k_is
  case k5 => k_is
  case k6 => k_is
  intro x dx h1 F1 N1 l1' l2
  have N2 : News h₀ L h1 [(x, instObj 144 dx), (dx, dictOf [] 0)] := cb_drop N1 (by (first | ((repeat (first | exact sub_nil | refine sub_cons 0 rfl ?_ | refine sub_cons 1 rfl ?_ | refine sub_cons 2 rfl ?_ | refine sub_cons 3 rfl ?_ | refine sub_cons 4 rfl ?_ | refine sub_cons 5 rfl ?_ | refine sub_cons 6 rfl ?_ | refine sub_cons 7 rfl ?_ | refine sub_cons 8 rfl ?_ | refine sub_cons 9 rfl ?_ | refine sub_cons 10 rfl ?_ | refine sub_cons 11 rfl ?_ | refine sub_cons 12 rfl ?_ | refine sub_cons 13 rfl ?_)); done) | kcf_all))
  k_lt2 l2
  refine' enterR (binds := [(Str.ofString "self", .ref x), (Str.ofString "limit", .int 1000000000000 210)]) B F1 X N2 T rfl hf hke ?k6 ?k7 ?k8 ?k9 ?kB ?_ ?c2 ?c3 ?c4 ?c5
  case k6 => k_is
  case k7 => k_is
  case k8 => ktr_room
  case k9 => exact binds_K (by k_in) rfl (by k_is) rfl rfl rfl
  case kB => exact locs rfl
  case c2 => exact rfl
  case c3 => exact rfl
  case c4 => exact rfl
  case c5 => decide
  intro g' L' h' FG' F' N' B' X' T' l1 hL C'
  dsimp only
  k_fold
  k_lt l1
  k_steps
  have kN9 := ‹News h₀ L _ _›
  have kP9 := ‹Kept h1 _ _›
  have kF9 := ‹Fr h₀ L _ _›
  dsimp only at kN9 kP9 kF9
  have hlt : ∀ p ∈ news, @LT.lt Nat _ p.1 dx := l1'
  have hrest := news_re (news := news) (rest := news) (as := [x, dx]) (news_sub N1 (by intro p hp; exact .tail _ (.tail _ hp))) (rest_all fun p hp hm => by
    have h3 := hlt p hp
    rcases List.mem_cons.mp hm with e | hm
    · rw [e] at h3; exact absurd h3 (by (first | (apply ap_x; assumption; (repeat constructor); done) | (refine Nat.ne_of_gt ?_; simp only [*]; done) | (refine Nat.ne_of_lt ?_; simp only [*]; done) | ((fail_if_success (fail_if_success omega (config := {}))); (first | with_reducible assumption | decide | lia | omega (config := {})))))
    · rw [List.mem_singleton.mp hm] at h3; exact absurd h3 (by (first | (apply ap_x; assumption; (repeat constructor); done) | (refine Nat.ne_of_gt ?_; simp only [*]; done) | (refine Nat.ne_of_lt ?_; simp only [*]; done) | ((fail_if_success (fail_if_success omega (config := {}))); (first | with_reducible assumption | decide | lia | omega (config := {})))))) kP9 kN9
  refine' k x dx _ _ _ ⟨_, _, _, _, _, _, _, _, _, _, _, _, _, _, _⟩ _ _ _ _ _ _ _ _ l2 ?o2 ?o3 ?o4 hlt ?i1 ?i2 ?i3 kF9 (cb_drop hrest ?sub)
  case sub => (first | ((repeat (first | exact sub_nil | refine sub_cons 0 rfl ?_ | refine sub_cons 1 rfl ?_ | refine sub_cons 2 rfl ?_ | refine sub_cons 3 rfl ?_ | refine sub_cons 4 rfl ?_ | refine sub_cons 5 rfl ?_ | refine sub_cons 6 rfl ?_ | refine sub_cons 7 rfl ?_ | refine sub_cons 8 rfl ?_ | refine sub_cons 9 rfl ?_ | refine sub_cons 10 rfl ?_ | refine sub_cons 11 rfl ?_ | refine sub_cons 12 rfl ?_ | refine sub_cons 13 rfl ?_)); done) | kcf_all)
  case o2 => (first | (apply ap_x; assumption; (repeat constructor); done) | (refine Nat.ne_of_gt ?_; simp only [*]; done) | (refine Nat.ne_of_lt ?_; simp only [*]; done) | ((fail_if_success (fail_if_success omega (config := {}))); (first | with_reducible assumption | decide | lia | omega (config := {}))))
  case o3 => (first | (apply ap_x; assumption; (repeat constructor); done) | (refine Nat.ne_of_gt ?_; simp only [*]; done) | (refine Nat.ne_of_lt ?_; simp only [*]; done) | ((fail_if_success (fail_if_success omega (config := {}))); (first | with_reducible assumption | decide | lia | omega (config := {}))))
  case o4 => (first | (apply ap_x; assumption; (repeat constructor); done) | (refine Nat.ne_of_gt ?_; simp only [*]; done) | (refine Nat.ne_of_lt ?_; simp only [*]; done) | ((fail_if_success (fail_if_success omega (config := {}))); (first | with_reducible assumption | decide | lia | omega (config := {}))))
  case i1 => exact .cons _ _ .nil
  case i2 => exact .nil
  case i3 => exact .cons _ _ .nil
-- RgC5

structure GrowS where
  k : Nat
  avs : List Value
  na : Nat
  hvs : List Value
  nh : Nat
  pvs : List Value
  np : Nat
theorem grow_spec {w : World} {env : Env} {outer : List Env} {L : Addr} {h₀ : Heap} {m : Str → Option Value} {dp un : Nat} {gd : Option (List Code)} {s : Shared} {Q E : Value → Shared → Prop}
    {x dx al hl pl : Addr} {D : DP} {avs hvs pvs : List Value} {na nh np : Nat} {n : Int} {t1 : Tok}
    (C : Cx w env outer L h₀) (F : Fr h₀ L s.heap m) (N : News h₀ L s.heap [(x, instObj 144 dx), (dx, oDict D al hl pl), (al, oList avs na), (hl, oList hvs nh), (pl, oList pvs np)])
    (hdp : dp + 180 < recursionLimit) (hun : un + 900 < cLine)
    (o1 : @LT.lt Nat _ dx x) (o2 : @LT.lt Nat _ x al) (o3 : @LT.lt Nat _ al hl) (o4 : @LT.lt Nat _ hl pl) (ha : IntsAre avs [0]) (hh : IntsAre hvs []) (hp : IntsAre pvs [-1]) (h1 : 0 ≤ n) (h1' : n < 900)
    (k : ∀ h' tk' avs' na' hvs' nh' pvs' np', IntsAre avs' (List.replicate (n.toNat + 1) 0) → IntsAre hvs' (upto n.toNat) → IntsAre pvs' (places n.toNat) → Fr h₀ L h' m → News h₀ L h' [(al, oList avs' na'), (hl, oList hvs' nh'), (pl, oList pvs' np')] → Kept s.heap h' [al, hl, pl] → Q .none { s with heap := h', toks := tk' }) :
    wpAny (model PySem.Challenge.rw_rg0205_01.row.prog w) ⟨none, dp, some (env :: outer), gd, un⟩ (call (.ref 64) [.ref x, .int n t1]) Q E s := by
  refine cx_elim C fun A₀ base mean mg mb B X T hf hke => ?_
  revert X
  k_fill
  intro X
  refine wpAny_call ?_
  refine' enterR (binds := [(Str.ofString "self", .ref x), (Str.ofString "n", .int n t1)]) B F X N T rfl hf hke ?k6 ?k7 ?k8 ?k9 ?kB ?_ ?c2 ?c3 ?c4 ?c5
  case k6 => k_is
  case k7 => k_is
  case k8 => exact Nat.lt_of_le_of_lt (Nat.le_add_right _ _) hdp
  case k9 => exact BindsTo.of_eq rfl
  case kB => exact locs rfl
  case c2 => exact rfl
  case c3 => exact rfl
  case c4 => exact rfl
  case c5 => decide
  intro g' L' h' FG' F' N' B' X' T' l1 hL C'
  dsimp only
  k_fold
  k_lt l1
  have ap := ap5 o1 o2 o3 o4
  obtain ⟨n0, rfl⟩ := Int.eq_ofNat_of_zero_le h1
  simp only [Int.toNat_natCast] at k
  k_steps
  have N9 := ‹News g' L' _ _›
  have F9 := ‹Fr g' L' _ _›
  try dsimp only at F9 N9 ⊢
  refine stop_go ?_
  refine ksw_while (σ := GrowS) (fun c => [(x, instObj 144 dx), (dx, oDict D al hl pl), (al, oList c.avs c.na), (hl, oList c.hvs c.nh), (pl, oList c.pvs c.np)]) (fun c => []) (fun _ => True) []
    (fun c => IntsAre c.avs (List.replicate (c.k + 1) 0) ∧ IntsAre c.hvs (upto c.k) ∧ IntsAre c.pvs (places c.k) ∧ c.k ≤ n0)
    (fun c => n0 - c.k) ⟨0, avs, na, hvs, nh, pvs, np⟩ F9 N9 trivial (by kst_all) ⟨ha, hh, hp, Nat.zero_le _⟩ ?_
  rintro ⟨k0, avs1, na1, hvs1, nh1, pvs1, np1⟩ u h tk _ hJ F1 N1
  dsimp only at hJ
  have ha1 := hJ.1
  have hh1 := hJ.2.1
  have hp1 := hJ.2.2.1
  have hk1 := hJ.2.2.2
  clear hJ
  clear F9 N9
  dsimp only at ha1 hh1 hp1 hk1 F1 N1 ⊢
  have lv1 := IntsAre.length ha1
  have lv2 := IntsAre.length hh1
  have lv3 := IntsAre.length hp1
  rw [List.length_replicate] at lv1
  rw [upto_length] at lv2
  rw [places_length] at lv3
  show wpAny _ _ _ _ _ _
  k_fold
  k_steps
  refine stop_go (many_spec C' F1 (cb_drop N1 (by (first | ((repeat (first | exact sub_nil | refine sub_cons 0 rfl ?_ | refine sub_cons 1 rfl ?_ | refine sub_cons 2 rfl ?_ | refine sub_cons 3 rfl ?_ | refine sub_cons 4 rfl ?_ | refine sub_cons 5 rfl ?_ | refine sub_cons 6 rfl ?_ | refine sub_cons 7 rfl ?_ | refine sub_cons 8 rfl ?_ | refine sub_cons 9 rfl ?_ | refine sub_cons 10 rfl ?_ | refine sub_cons 11 rfl ?_ | refine sub_cons 12 rfl ?_ | refine sub_cons 13 rfl ?_)); done) | kcf_all))) (by show dp + 1 + 20 < recursionLimit; exact room2 hdp rfl) (by show un + 3 + 100 < cLine; exact room2 hun rfl) ha1 (by rw [List.length_replicate]; (first | (apply ap_x; assumption; (repeat constructor); done) | (refine Nat.ne_of_gt ?_; simp only [*]; done) | (refine Nat.ne_of_lt ?_; simp only [*]; done) | ((fail_if_success (fail_if_success omega (config := {}))); (first | with_reducible assumption | decide | lia | omega (config := {}))))) ?_)
  intro h3 tk3 t3 F3 K3
  have N3 := news_all N1 K3
  clear F1 N1 K3
  rw [List.length_replicate]
  k_steps
  · have N4 := ‹News g' L' _ _›
    have F4 := ‹Fr g' L' _ _›
    try dsimp only at F4 N4 ⊢
    simp only [List.push_toArray] at N4
    refine stop_go (many_spec C' F4 (cb_drop N4 (by (first | ((repeat (first | exact sub_nil | refine sub_cons 0 rfl ?_ | refine sub_cons 1 rfl ?_ | refine sub_cons 2 rfl ?_ | refine sub_cons 3 rfl ?_ | refine sub_cons 4 rfl ?_ | refine sub_cons 5 rfl ?_ | refine sub_cons 6 rfl ?_ | refine sub_cons 7 rfl ?_ | refine sub_cons 8 rfl ?_ | refine sub_cons 9 rfl ?_ | refine sub_cons 10 rfl ?_ | refine sub_cons 11 rfl ?_ | refine sub_cons 12 rfl ?_ | refine sub_cons 13 rfl ?_)); done) | kcf_all))) (by show dp + 1 + 20 < recursionLimit; exact room2 hdp rfl) (by show un + 3 + 100 < cLine; exact room2 hun rfl) (ints_push0 ha1) (by rw [List.length_replicate]; (first | (apply ap_x; assumption; (repeat constructor); done) | (refine Nat.ne_of_gt ?_; simp only [*]; done) | (refine Nat.ne_of_lt ?_; simp only [*]; done) | ((fail_if_success (fail_if_success omega (config := {}))); (first | with_reducible assumption | decide | lia | omega (config := {}))))) ?_)
    intro h5 tk5 t5 F5 K5
    have N5 := news_all N4 K5
    clear F4 N4 K5
    rw [List.length_replicate]
    have ev : ((k0 + 2 : Nat) : Int) - 1 = (k0 : Int) + 1 := by (first | (apply ap_x; assumption; (repeat constructor); done) | (refine Nat.ne_of_gt ?_; simp only [*]; done) | (refine Nat.ne_of_lt ?_; simp only [*]; done) | ((fail_if_success (fail_if_success omega (config := {}))); (first | with_reducible assumption | decide | lia | omega (config := {}))))
    rw [ev]
    k_steps
    refine stop_go (push_spec C' F5 (cb_drop N5 (by (first | ((repeat (first | exact sub_nil | refine sub_cons 0 rfl ?_ | refine sub_cons 1 rfl ?_ | refine sub_cons 2 rfl ?_ | refine sub_cons 3 rfl ?_ | refine sub_cons 4 rfl ?_ | refine sub_cons 5 rfl ?_ | refine sub_cons 6 rfl ?_ | refine sub_cons 7 rfl ?_ | refine sub_cons 8 rfl ?_ | refine sub_cons 9 rfl ?_ | refine sub_cons 10 rfl ?_ | refine sub_cons 11 rfl ?_ | refine sub_cons 12 rfl ?_ | refine sub_cons 13 rfl ?_)); done) | kcf_all))) (by show dp + 1 + 80 < recursionLimit; exact room2 hdp rfl) (by show un + 3 + 400 < cLine; exact room2 hun rfl) o1 o2 o3 o4 (ints_push0 ha1) hh1 (IntsAre.append hp1 (.cons _ _ .nil)) (by rw [List.length_replicate]; (first | (apply ap_x; assumption; (repeat constructor); done) | (refine Nat.ne_of_gt ?_; simp only [*]; done) | (refine Nat.ne_of_lt ?_; simp only [*]; done) | ((fail_if_success (fail_if_success omega (config := {}))); (first | with_reducible assumption | decide | lia | omega (config := {}))))) (by rw [upto_length]; (first | (apply ap_x; assumption; (repeat constructor); done) | (refine Nat.ne_of_gt ?_; simp only [*]; done) | (refine Nat.ne_of_lt ?_; simp only [*]; done) | ((fail_if_success (fail_if_success omega (config := {}))); (first | with_reducible assumption | decide | lia | omega (config := {}))))) (by rw [List.length_append, places_length, List.length_replicate]; rfl) (by (first | (apply ap_x; assumption; (repeat constructor); done) | (refine Nat.ne_of_gt ?_; simp only [*]; done) | (refine Nat.ne_of_lt ?_; simp only [*]; done) | ((fail_if_success (fail_if_success omega (config := {}))); (first | with_reducible assumption | decide | lia | omega (config := {}))))) (by rw [List.length_replicate]; (first | (apply ap_x; assumption; (repeat constructor); done) | (refine Nat.ne_of_gt ?_; simp only [*]; done) | (refine Nat.ne_of_lt ?_; simp only [*]; done) | ((fail_if_success (fail_if_success omega (config := {}))); (first | with_reducible assumption | decide | lia | omega (config := {}))))) (upto_range _ (by rw [List.length_replicate]; (first | (apply ap_x; assumption; (repeat constructor); done) | (refine Nat.ne_of_gt ?_; simp only [*]; done) | (refine Nat.ne_of_lt ?_; simp only [*]; done) | ((fail_if_success (fail_if_success omega (config := {}))); (first | with_reducible assumption | decide | lia | omega (config := {})))))) (by rw [places_push_getD]; decide) ?_)
    intro h6 tk6 hvs6 nh6 pvs6 np6 hh6 hp6 F6 N6 K6
    rw [upto_length, grow_rise] at hh6 hp6
    have N7 := news_re N5 (by repeat (first | exact Rest.nil | (apply Rest.keep; focus ((repeat (first | exact off_nil | (refine off_cons ?_ ?_; focus (first | (apply ap_x; assumption; (repeat constructor); done) | (refine Nat.ne_of_gt ?_; simp only [*]; done) | (refine Nat.ne_of_lt ?_; simp only [*]; done) | ((fail_if_success (fail_if_success omega (config := {}))); (first | with_reducible assumption | decide | lia | omega (config := {}))))))); done)) | apply Rest.skip)) K6 N6
    dsimp only [List.cons_append, List.nil_append] at N7
    clear F5 N5 N6 K6
    k_steps
    have N8 := ‹News g' L' _ _›
    have F8 := ‹Fr g' L' _ _›
    refine stop_go (ksw_end ⟨k0 + 1, _, _, hvs6, nh6, pvs6, np6⟩ F8 N8 (by (first | ((repeat (first | exact sub_nil | refine sub_cons 0 rfl ?_ | refine sub_cons 1 rfl ?_ | refine sub_cons 2 rfl ?_ | refine sub_cons 3 rfl ?_ | refine sub_cons 4 rfl ?_ | refine sub_cons 5 rfl ?_ | refine sub_cons 6 rfl ?_ | refine sub_cons 7 rfl ?_ | refine sub_cons 8 rfl ?_ | refine sub_cons 9 rfl ?_ | refine sub_cons 10 rfl ?_ | refine sub_cons 11 rfl ?_ | refine sub_cons 12 rfl ?_ | refine sub_cons 13 rfl ?_)); done) | kcf_all)) trivial (by kst_all) (by intro z h2 h3; rfl) ⟨ints_push0 ha1, hh6, hp6, ?_⟩ ?_)
    · show k0 + 1 ≤ n0
      (first | (apply ap_x; assumption; (repeat constructor); done) | (refine Nat.ne_of_gt ?_; simp only [*]; done) | (refine Nat.ne_of_lt ?_; simp only [*]; done) | ((fail_if_success (fail_if_success omega (config := {}))); (first | with_reducible assumption | decide | lia | omega (config := {}))))
    · show n0 - (k0 + 1) < n0 - k0
      (first | (apply ap_x; assumption; (repeat constructor); done) | (refine Nat.ne_of_gt ?_; simp only [*]; done) | (refine Nat.ne_of_lt ?_; simp only [*]; done) | ((fail_if_success (fail_if_success omega (config := {}))); (first | with_reducible assumption | decide | lia | omega (config := {}))))
  · have ek : k0 = n0 := by (first | (apply ap_x; assumption; (repeat constructor); done) | (refine Nat.ne_of_gt ?_; simp only [*]; done) | (refine Nat.ne_of_lt ?_; simp only [*]; done) | ((fail_if_success (fail_if_success omega (config := {}))); (first | with_reducible assumption | decide | lia | omega (config := {}))))
    subst ek
    have kN9 := ‹News h₀ L _ _›
    have kP9 := ‹Kept s.heap _ _›
    exact k _ _ _ _ _ _ _ _ ha1 hh1 hp1 (by assumption) (news_sub kN9 (by (first | ((repeat (first | exact sub_nil | refine sub_cons 0 rfl ?_ | refine sub_cons 1 rfl ?_ | refine sub_cons 2 rfl ?_ | refine sub_cons 3 rfl ?_ | refine sub_cons 4 rfl ?_ | refine sub_cons 5 rfl ?_ | refine sub_cons 6 rfl ?_ | refine sub_cons 7 rfl ?_ | refine sub_cons 8 rfl ?_ | refine sub_cons 9 rfl ?_ | refine sub_cons 10 rfl ?_ | refine sub_cons 11 rfl ?_ | refine sub_cons 12 rfl ?_ | refine sub_cons 13 rfl ?_)); done) | kcf_all))) (kept_shrink (same := [(x, instObj 144 dx), (dx, oDict D al hl pl)]) N kN9 kP9 (by (first | ((repeat (first | exact ks_nil | refine ks_l 0 rfl ?_ | refine ks_l 1 rfl ?_ | refine ks_l 2 rfl ?_ | refine ks_l 3 rfl ?_ | refine ks_l 4 rfl ?_ | refine ks_r 0 rfl ?_ | refine ks_r 1 rfl ?_ | refine ks_r 2 rfl ?_ | refine ks_r 3 rfl ?_ | refine ks_r 4 rfl ?_ | refine ks_r 5 rfl ?_)); done) | simp)) (by (first | ((repeat (first | exact sub_nil | refine sub_cons 0 rfl ?_ | refine sub_cons 1 rfl ?_ | refine sub_cons 2 rfl ?_ | refine sub_cons 3 rfl ?_ | refine sub_cons 4 rfl ?_ | refine sub_cons 5 rfl ?_ | refine sub_cons 6 rfl ?_ | refine sub_cons 7 rfl ?_ | refine sub_cons 8 rfl ?_ | refine sub_cons 9 rfl ?_ | refine sub_cons 10 rfl ?_ | refine sub_cons 11 rfl ?_ | refine sub_cons 12 rfl ?_ | refine sub_cons 13 rfl ?_)); done) | kcf_all)) (by (first | ((repeat (first | exact sub_nil | refine sub_cons 0 rfl ?_ | refine sub_cons 1 rfl ?_ | refine sub_cons 2 rfl ?_ | refine sub_cons 3 rfl ?_ | refine sub_cons 4 rfl ?_ | refine sub_cons 5 rfl ?_ | refine sub_cons 6 rfl ?_ | refine sub_cons 7 rfl ?_ | refine sub_cons 8 rfl ?_ | refine sub_cons 9 rfl ?_ | refine sub_cons 10 rfl ?_ | refine sub_cons 11 rfl ?_ | refine sub_cons 12 rfl ?_ | refine sub_cons 13 rfl ?_)); done) | kcf_all)))
section
local macro_rules | `(tactic| walk_at "CompSrcT") => `(tactic| apply stop_of)
local macro_rules | `(tactic| walk_at "CompSrc") => `(tactic| apply stop_of)
local macro_rules | `(tactic| walk_at "CompEnd") => `(tactic| apply stop_of)
local macro_rules | `(tactic| walk_at "exec For Name Subscript cons nil") => `(tactic| apply stop_of)
local macro_rules | `(tactic| walk_at "exec For Tuple Call cons nil") => `(tactic| apply stop_of)
local macro_rules | `(tactic| walk_at "ItemsRest") => `(tactic| apply stop_of)
local macro_rules | `(tactic| walk_at "UnrEndW") => `(tactic| apply stop_of)
local macro_rules | `(tactic| walk_at "pyIter ref") => `(tactic| apply stop_of)
local macro_rules | `(tactic| walk_at "call type:zip") => `(tactic| apply stop_of)
-- RgD1
abbrev oTup (x1 x2 : Int) (t1 t2 : Tok) : Obj := { cls := .type "tuple", data := .seq #[.int x1 t1, .int x2 t2] }
theorem rank_spec {w : World} {env : Env} {outer : List Env} {L : Addr} {h₀ : Heap} {m : Str → Option Value} {dp un : Nat} {gd : Option (List Code)} {s : Shared} {Q E : Value → Shared → Prop}
    {x dx al hl pl : Addr} {D : DP} {avs : List Value} {na : Nat} {act : List Int} {var : Int} {t1 : Tok}
    (C : Cx w env outer L h₀) (F : Fr h₀ L s.heap m) (N : News h₀ L s.heap [(x, instObj 144 dx), (dx, oDict D al hl pl), (al, oList avs na)])
    (hdp : dp + 20 < recursionLimit) (hun : un + 100 < cLine)
    (ha : IntsAre avs act) (la : act.length ≤ 1000) (h1 : 0 ≤ var) (h1' : var < act.length)
    (k : ∀ h' tk' r u1 u2, (∀ b o, s.heap.get? b = some o → @LT.lt Nat _ b r) → Fr h₀ L h' m → News h₀ L h' [(r, oTup (0 - act.getD var.toNat 0) var u1 u2)] → KeptAll s.heap h' → Q (.ref r) { s with heap := h', toks := tk' }) :
    wpAny (model PySem.Challenge.rw_rg0205_01.row.prog w) ⟨none, dp, some (env :: outer), gd, un⟩ (call (.ref 162) [.ref x, .int var t1]) Q E s := by
  refine cx_elim C fun A₀ base mean mg mb B X T hf hke => ?_
  revert X
  k_fill
  intro X
  refine wpAny_call ?_
  refine' enterR (binds := [(Str.ofString "some", .ref x), (Str.ofString "var", .int var t1)]) B F X N T rfl hf hke ?k6 ?k7 ?k8 ?k9 ?kB ?_ ?c2 ?c3 ?c4 ?c5
  case k6 => k_is
  case k7 => k_is
  case k8 => exact Nat.lt_of_le_of_lt (Nat.le_add_right _ _) hdp
  case k9 => exact BindsTo.of_eq rfl
  case kB => exact locs rfl
  case c2 => exact rfl
  case c3 => exact rfl
  case c4 => exact rfl
  case c5 => decide
  intro g' L' h' FG' F' N' B' X' T' l1 hL C'
  dsimp only
  k_fold
  k_lt l1
  (repeat' (first | (k_unfold; (try dsimp only)) | (k_end; wrow_close) | ((with_reducible show wpAny _ _ (newTuple _) _ _ _); k_here; k_dflt (refine' newTuple_R ?F ?N ?_ ?z; (case F => k_asm); (case N => k_asm); (case z => kmk_size)); intro _ _ _ _ zl zm; (try k_lt zl); (revert zl zm; intro _ _); (try k_sweep)) | walk1 | (dsimp only; walk1) | (leave1; walk_say "STEP leave1"; try dsimp only) | fail "no step"))
  have kN9 := ‹News h₀ L _ _›
  have kP9 := ‹Kept s.heap _ _›
  dsimp only at kN9
  have hD9 := ‹@LT.lt Nat _ L' _›
  have kS9 : Kept s.heap _ [] := kept_shrink (same := [(x, instObj 144 dx), (dx, oDict D al hl pl), (al, oList avs na)]) N kN9 kP9 (by (first | ((repeat (first | exact ks_nil | refine ks_l 0 rfl ?_ | refine ks_l 1 rfl ?_ | refine ks_l 2 rfl ?_ | refine ks_l 3 rfl ?_ | refine ks_l 4 rfl ?_ | refine ks_r 0 rfl ?_ | refine ks_r 1 rfl ?_ | refine ks_r 2 rfl ?_ | refine ks_r 3 rfl ?_ | refine ks_r 4 rfl ?_ | refine ks_r 5 rfl ?_)); done) | simp)) (by (first | ((repeat (first | exact sub_nil | refine sub_cons 0 rfl ?_ | refine sub_cons 1 rfl ?_ | refine sub_cons 2 rfl ?_ | refine sub_cons 3 rfl ?_ | refine sub_cons 4 rfl ?_ | refine sub_cons 5 rfl ?_ | refine sub_cons 6 rfl ?_ | refine sub_cons 7 rfl ?_ | refine sub_cons 8 rfl ?_ | refine sub_cons 9 rfl ?_ | refine sub_cons 10 rfl ?_ | refine sub_cons 11 rfl ?_ | refine sub_cons 12 rfl ?_ | refine sub_cons 13 rfl ?_)); done) | kcf_all)) (by (first | ((repeat (first | exact sub_nil | refine sub_cons 0 rfl ?_ | refine sub_cons 1 rfl ?_ | refine sub_cons 2 rfl ?_ | refine sub_cons 3 rfl ?_ | refine sub_cons 4 rfl ?_ | refine sub_cons 5 rfl ?_ | refine sub_cons 6 rfl ?_ | refine sub_cons 7 rfl ?_ | refine sub_cons 8 rfl ?_ | refine sub_cons 9 rfl ?_ | refine sub_cons 10 rfl ?_ | refine sub_cons 11 rfl ?_ | refine sub_cons 12 rfl ?_ | refine sub_cons 13 rfl ?_)); done) | kcf_all))
  refine k _ _ _ _ _ (fun b o e => Nat.lt_trans (hL b o e) hD9) (by assumption) (news_sub kN9 (by (first | ((repeat (first | exact sub_nil | refine sub_cons 0 rfl ?_ | refine sub_cons 1 rfl ?_ | refine sub_cons 2 rfl ?_ | refine sub_cons 3 rfl ?_ | refine sub_cons 4 rfl ?_ | refine sub_cons 5 rfl ?_ | refine sub_cons 6 rfl ?_ | refine sub_cons 7 rfl ?_ | refine sub_cons 8 rfl ?_ | refine sub_cons 9 rfl ?_ | refine sub_cons 10 rfl ?_ | refine sub_cons 11 rfl ?_ | refine sub_cons 12 rfl ?_ | refine sub_cons 13 rfl ?_)); done) | kcf_all))) (fun b o e => kS9 b o e (by simp))

theorem pinch_spec {w : World} {env : Env} {outer : List Env} {L : Addr} {h₀ : Heap} {m : Str → Option Value} {dp un : Nat} {gd : Option (List Code)} {s : Shared} {Q E : Value → Shared → Prop}
    {d cl : Addr} {ta : Nat} {cvs : List Value} {nc : Nat} {od : Obj} {cells : List Int} {at_ many : Int} {t1 : Tok}
    (C : Cx w env outer L h₀) (F : Fr h₀ L s.heap m) (N : News h₀ L s.heap [(d, od), (cl, oList cvs nc)])
    (hdp : dp + 20 < recursionLimit) (hun : un + 100 < cLine)
    (o1 : @Ne Nat d cl) (hod : od.IsDictOf (strKind PySem.Challenge.rw_rg0205_01.row.prog w) [(Str.ofString "cells", .ref cl), (Str.ofString "at", .int at_ ta)]) (hc : IntsAre cvs cells) (lc : cells.length ≤ 1000) (h1 : 0 ≤ at_) (h1' : at_ < 1000) (hm : 0 < many) (hm' : many < 1000)
    (k : ∀ h' tk' r u1 ta' od', 0 ≤ r → r < many → od'.IsDictOf (strKind PySem.Challenge.rw_rg0205_01.row.prog w) [(Str.ofString "cells", .ref cl), (Str.ofString "at", .int (at_ + 1) ta')] → Fr h₀ L h' m → News h₀ L h' [(d, od')] → Kept s.heap h' [d] → Q (.int r u1) { s with heap := h', toks := tk' }) :
    wpAny (model PySem.Challenge.rw_rg0205_01.row.prog w) ⟨none, dp, some (env :: outer), gd, un⟩ (call (.ref 155) [.ref d, .int many t1]) Q E s := by
  refine cx_elim C fun A₀ base mean mg mb B X T hf hke => ?_
  revert X
  k_fill
  intro X
  refine wpAny_call ?_
  refine' enterR (binds := [(Str.ofString "salt", .ref d), (Str.ofString "many", .int many t1)]) B F X N T rfl hf hke ?k6 ?k7 ?k8 ?k9 ?kB ?_ ?c2 ?c3 ?c4 ?c5
  case k6 => k_is
  case k7 => k_is
  case k8 => exact Nat.lt_of_le_of_lt (Nat.le_add_right _ _) hdp
  case k9 => exact BindsTo.of_eq rfl
  case kB => exact locs rfl
  case c2 => exact rfl
  case c3 => exact rfl
  case c4 => exact rfl
  case c5 => decide
  intro g' L' h' FG' F' N' B' X' T' l1 hL C'
  dsimp only
  k_fold
  k_lt l1
  have lv1 := IntsAre.length hc
  (repeat' (first | (k_unfold; (try dsimp only)) | (k_end; wrow_close) | ((with_reducible show wpAny _ _ (newTuple _) _ _ _); k_here; k_dflt (refine' newTuple_R ?F ?N ?_ ?z; (case F => k_asm); (case N => k_asm); (case z => kmk_size)); intro _ _ _ _ zl zm; (try k_lt zl); (revert zl zm; intro _ _); (try k_sweep)) | walk1 | (dsimp only; walk1) | (leave1; walk_say "STEP leave1"; try dsimp only) | fail "no step"))
  all_goals
    have kN9 := ‹News h₀ L _ _›
    have kP9 := ‹Kept s.heap _ _›
    refine k _ _ _ _ _ _ (Int.fmod_nonneg_of_pos _ hm) (Int.fmod_lt_of_pos _ hm) (by assumption) (by assumption) (news_sub kN9 (by (first | ((repeat (first | exact sub_nil | refine sub_cons 0 rfl ?_ | refine sub_cons 1 rfl ?_ | refine sub_cons 2 rfl ?_ | refine sub_cons 3 rfl ?_ | refine sub_cons 4 rfl ?_ | refine sub_cons 5 rfl ?_ | refine sub_cons 6 rfl ?_ | refine sub_cons 7 rfl ?_ | refine sub_cons 8 rfl ?_ | refine sub_cons 9 rfl ?_ | refine sub_cons 10 rfl ?_ | refine sub_cons 11 rfl ?_ | refine sub_cons 12 rfl ?_ | refine sub_cons 13 rfl ?_)); done) | kcf_all))) (kept_shrink (same := [(cl, oList cvs nc)]) N kN9 kP9 (by (first | ((repeat (first | exact ks_nil | refine ks_l 0 rfl ?_ | refine ks_l 1 rfl ?_ | refine ks_l 2 rfl ?_ | refine ks_l 3 rfl ?_ | refine ks_l 4 rfl ?_ | refine ks_r 0 rfl ?_ | refine ks_r 1 rfl ?_ | refine ks_r 2 rfl ?_ | refine ks_r 3 rfl ?_ | refine ks_r 4 rfl ?_ | refine ks_r 5 rfl ?_)); done) | simp)) (by (first | ((repeat (first | exact sub_nil | refine sub_cons 0 rfl ?_ | refine sub_cons 1 rfl ?_ | refine sub_cons 2 rfl ?_ | refine sub_cons 3 rfl ?_ | refine sub_cons 4 rfl ?_ | refine sub_cons 5 rfl ?_ | refine sub_cons 6 rfl ?_ | refine sub_cons 7 rfl ?_ | refine sub_cons 8 rfl ?_ | refine sub_cons 9 rfl ?_ | refine sub_cons 10 rfl ?_ | refine sub_cons 11 rfl ?_ | refine sub_cons 12 rfl ?_ | refine sub_cons 13 rfl ?_)); done) | kcf_all)) (by (first | ((repeat (first | exact sub_nil | refine sub_cons 0 rfl ?_ | refine sub_cons 1 rfl ?_ | refine sub_cons 2 rfl ?_ | refine sub_cons 3 rfl ?_ | refine sub_cons 4 rfl ?_ | refine sub_cons 5 rfl ?_ | refine sub_cons 6 rfl ?_ | refine sub_cons 7 rfl ?_ | refine sub_cons 8 rfl ?_ | refine sub_cons 9 rfl ?_ | refine sub_cons 10 rfl ?_ | refine sub_cons 11 rfl ?_ | refine sub_cons 12 rfl ?_ | refine sub_cons 13 rfl ?_)); done) | kcf_all)))
-- RgD2
/-- who comes first, as the law's rank says it -/
noncomputable def rankLt (act : List Int) (a b : Int) : Bool := lexLt (0 - act.getD a.toNat 0) a (0 - act.getD b.toNat 0) b
noncomputable def Ord (act heap : List Int) (many : Nat) : Prop := ∀ k, 1 ≤ k → k < many → rankLt act (heap.getD k 0) (heap.getD ((k - 1) / 2) 0) = false
theorem foldl_skip (l : List Int) : ∀ a : List Int, l.foldl (fun l _ => l) a = a := by
  induction l with
  | nil => intro a; rfl
  | cons x r ih => intro a; rw [List.foldl_cons]; exact ih a
theorem ordered_spec {w : World} {env : Env} {outer : List Env} {L : Addr} {h₀ : Heap} {m : Str → Option Value} {dp un : Nat} {gd : Option (List Code)} {s : Shared} {Q E : Value → Shared → Prop}
    {x dx al hl pl : Addr} {D : DP} {avs hvs : List Value} {na nh : Nat} {act heap : List Int} {many : Int} {t1 : Tok}
    (C : Cx w env outer L h₀) (F : Fr h₀ L s.heap m) (N : News h₀ L s.heap [(x, instObj 144 dx), (dx, oDict D al hl pl), (al, oList avs na), (hl, oList hvs nh)])
    (hdp : dp + 60 < recursionLimit) (hun : un + 300 < cLine)
    (o1 : @LT.lt Nat _ dx x) (o2 : @LT.lt Nat _ x al) (o3 : @LT.lt Nat _ al hl) (o4 : @LT.lt Nat _ hl pl) (ha : IntsAre avs act) (hh : IntsAre hvs heap) (la : act.length ≤ 1000) (lh : heap.length ≤ 1000) (h1 : 1 ≤ many) (h1' : many ≤ heap.length) (hr : InRange heap act.length) (ho : Ord act heap many.toNat)
    (k : ∀ h' tk', Fr h₀ L h' m → KeptAll s.heap h' → Q (.bool true) { s with heap := h', toks := tk' }) :
    wpAny (model PySem.Challenge.rw_rg0205_01.row.prog w) ⟨none, dp, some (env :: outer), gd, un⟩ (call (.ref 179) [.ref x, .int many t1]) Q E s := by
  refine cx_elim C fun A₀ base mean mg mb B X T hf hke => ?_
  revert X
  k_fill
  intro X
  refine wpAny_call ?_
  refine' enterRC (binds := [(Str.ofString "some", .ref x), (Str.ofString "many", .int many t1)]) B F X N T rfl hf hke ?k6 ?k7 ?k8 ?k9 ?kB ?kD ?_ ?c2 ?c3 ?c4
  case k6 => k_is
  case k7 => k_is
  case k8 => exact Nat.lt_of_le_of_lt (Nat.le_add_right _ _) hdp
  case k9 => exact BindsTo.of_eq rfl
  case kB => exact rfl
  case kD => decide +kernel
  case c2 => exact rfl
  case c3 => exact rfl
  case c4 => exact rfl
  intro g' L' h' tk' cells' FG' F' N' Y' B' X' T' l1 hL C'
  k_lt l1
  have ap := ap5 o1 o2 o3 o4
  k_cells Y'
  try dsimp only [List.cons_append, List.nil_append] at N'
  dsimp only
  try k_fold
  have lv1 := IntsAre.length ha
  have lv2 := IntsAre.length hh
  (repeat' (first | (k_unfold; (try dsimp only)) | (k_end; wrow_close) | ((with_reducible show wpAny _ _ (compareOp CmpOp.Gt (Value.ref _) (Value.ref _)) _ _ _); refine tup_gt (News.isTup (by k_asm) (by k_mem)) (News.isTup (by k_asm) (by k_mem)) (by ktr_units) ?_) | ((with_reducible show wpAny _ _ (eval (Expr.ListComp _ _ _ _) _) _ _ _); k_here; k_dflt (first | (refine LCt.ListComp_T (F₀ := by k_asm) (by with_unfolding_all rfl) (by decide) (by rfl) (by decide) (by rfl) ?_) | (refine LCg.ListComp_U (F₀ := by k_asm) (by with_unfolding_all rfl) (by decide) (by rfl) (by decide) (by rfl) ?_))) | walk1 | (dsimp only; walk1) | (leave1; walk_say "STEP leave1"; try dsimp only) | fail "no step"))
  rename_i hR hF hN hK
  refine stop_go (LCt.CompSrcT.range (by rfl) hF hN hR (small_one (by (first | (apply ap_x; assumption; (repeat constructor); done) | (refine Nat.ne_of_gt ?_; simp only [*]; done) | (refine Nat.ne_of_lt ?_; simp only [*]; done) | ((fail_if_success (fail_if_success omega (config := {}))); (first | with_reducible assumption | decide | lia | omega (config := {}))))) (by (first | (apply ap_x; assumption; (repeat constructor); done) | (refine Nat.ne_of_gt ?_; simp only [*]; done) | (refine Nat.ne_of_lt ?_; simp only [*]; done) | ((fail_if_success (fail_if_success omega (config := {}))); (first | with_reducible assumption | decide | lia | omega (config := {}))))) (by (first | (apply ap_x; assumption; (repeat constructor); done) | (refine Nat.ne_of_gt ?_; simp only [*]; done) | (refine Nat.ne_of_lt ?_; simp only [*]; done) | ((fail_if_success (fail_if_success omega (config := {}))); (first | with_reducible assumption | decide | lia | omega (config := {}))))) (by (first | (apply ap_x; assumption; (repeat constructor); done) | (refine Nat.ne_of_gt ?_; simp only [*]; done) | (refine Nat.ne_of_lt ?_; simp only [*]; done) | ((fail_if_success (fail_if_success omega (config := {}))); (first | with_reducible assumption | decide | lia | omega (config := {})))))) (rangeSize_nat _ _) (by rw [sizeLine_eq]; (first | (apply ap_x; assumption; (repeat constructor); done) | (refine Nat.ne_of_gt ?_; simp only [*]; done) | (refine Nat.ne_of_lt ?_; simp only [*]; done) | ((fail_if_success (fail_if_success omega (config := {}))); (first | with_reducible assumption | decide | lia | omega (config := {}))))) ?_)
  intro gg
  refine' kci_range (fun l _ => l) (fun k0 kt I oI Cc oC Dd m2 ys l0 hh0 tk0 E0 hlo hhi hyl hC hx2 F1 N1 off ne _ => ?_) ?_ ?_
  · replace ne := hide_of ne
    replace off := hide_of off
    obtain ⟨kn, rfl⟩ := Int.eq_ofNat_of_zero_le (show 0 ≤ k0 by (first | (apply ap_x; assumption; (repeat constructor); done) | (refine Nat.ne_of_gt ?_; simp only [*]; done) | (refine Nat.ne_of_lt ?_; simp only [*]; done) | ((fail_if_success (fail_if_success omega (config := {}))); (first | with_reducible assumption | decide | lia | omega (config := {})))))
    have hkn : 0 < kn := by (first | (apply ap_x; assumption; (repeat constructor); done) | (refine Nat.ne_of_gt ?_; simp only [*]; done) | (refine Nat.ne_of_lt ?_; simp only [*]; done) | ((fail_if_success (fail_if_success omega (config := {}))); (first | with_reducible assumption | decide | lia | omega (config := {}))))
    have hab := above_nat hkn
    have hga := hr.at (i := (kn - 1) / 2) (by (first | (apply ap_x; assumption; (repeat constructor); done) | (refine Nat.ne_of_gt ?_; simp only [*]; done) | (refine Nat.ne_of_lt ?_; simp only [*]; done) | ((fail_if_success (fail_if_success omega (config := {}))); (first | with_reducible assumption | decide | lia | omega (config := {})))))
    have hgk := hr.at (i := kn) (by (first | (apply ap_x; assumption; (repeat constructor); done) | (refine Nat.ne_of_gt ?_; simp only [*]; done) | (refine Nat.ne_of_lt ?_; simp only [*]; done) | ((fail_if_success (fail_if_success omega (config := {}))); (first | with_reducible assumption | decide | lia | omega (config := {})))))
    have hok := ho kn hkn (by (first | (apply ap_x; assumption; (repeat constructor); done) | (refine Nat.ne_of_gt ?_; simp only [*]; done) | (refine Nat.ne_of_lt ?_; simp only [*]; done) | ((fail_if_success (fail_if_success omega (config := {}))); (first | with_reducible assumption | decide | lia | omega (config := {})))))
    (repeat' (first | (k_unfold; (try dsimp only)) | (k_end; wrow_close) | ((with_reducible show wpAny _ _ (compareOp CmpOp.Gt (Value.ref _) (Value.ref _)) _ _ _); refine tup_gt (News.isTup (by k_asm) (by k_mem)) (News.isTup (by k_asm) (by k_mem)) (by ktr_units) ?_) | ((with_reducible show wpAny _ _ (eval (Expr.ListComp _ _ _ _) _) _ _ _); k_here; k_dflt (first | (refine LCt.ListComp_T (F₀ := by k_asm) (by with_unfolding_all rfl) (by decide) (by rfl) (by decide) (by rfl) ?_) | (refine LCg.ListComp_U (F₀ := by k_asm) (by with_unfolding_all rfl) (by decide) (by rfl) (by decide) (by rfl) ?_))) | walk1 | (dsimp only; walk1) | (leave1; walk_say "STEP leave1"; try dsimp only) | fail "no step"))
    have N2 := ‹News g' L' _ _›
    have F2 := ‹Fr g' L' _ _›
    try dsimp only at F2 N2 ⊢
    rw [hab]
    refine stop_go (rank_spec C' F2 (cb_drop N2 (by (first | ((repeat (first | exact sub_nil | refine sub_cons 0 rfl ?_ | refine sub_cons 1 rfl ?_ | refine sub_cons 2 rfl ?_ | refine sub_cons 3 rfl ?_ | refine sub_cons 4 rfl ?_ | refine sub_cons 5 rfl ?_ | refine sub_cons 6 rfl ?_ | refine sub_cons 7 rfl ?_ | refine sub_cons 8 rfl ?_ | refine sub_cons 9 rfl ?_ | refine sub_cons 10 rfl ?_ | refine sub_cons 11 rfl ?_ | refine sub_cons 12 rfl ?_ | refine sub_cons 13 rfl ?_)); done) | kcf_all))) (by show dp + 1 + 20 < recursionLimit; exact room2 hdp rfl) (by show un + 3 + 100 < cLine; exact room2 hun rfl) ha la hga.1 hga.2 ?_)
    intro h3 tk3 r3 u3 u3' hr3 F3 N3 K3
    have N4 := news_join N3 (news_all N2 K3)
    have l9 := allLt_news N2 hr3
    dsimp only [AllLt] at l9
    dsimp only [List.cons_append, List.nil_append] at N4
    clear F2 N2 N3 K3 hr3
    (repeat' (first | (k_unfold; (try dsimp only)) | (k_end; wrow_close) | ((with_reducible show wpAny _ _ (compareOp CmpOp.Gt (Value.ref _) (Value.ref _)) _ _ _); refine tup_gt (News.isTup (by k_asm) (by k_mem)) (News.isTup (by k_asm) (by k_mem)) (by ktr_units) ?_) | ((with_reducible show wpAny _ _ (eval (Expr.ListComp _ _ _ _) _) _ _ _); k_here; k_dflt (first | (refine LCt.ListComp_T (F₀ := by k_asm) (by with_unfolding_all rfl) (by decide) (by rfl) (by decide) (by rfl) ?_) | (refine LCg.ListComp_U (F₀ := by k_asm) (by with_unfolding_all rfl) (by decide) (by rfl) (by decide) (by rfl) ?_))) | walk1 | (dsimp only; walk1) | (leave1; walk_say "STEP leave1"; try dsimp only) | fail "no step"))
    have N5 := ‹News g' L' _ _›
    have F5 := ‹Fr g' L' _ _›
    try dsimp only at F5 N5 ⊢
    refine stop_go (rank_spec C' F5 (cb_drop N5 (by (first | ((repeat (first | exact sub_nil | refine sub_cons 0 rfl ?_ | refine sub_cons 1 rfl ?_ | refine sub_cons 2 rfl ?_ | refine sub_cons 3 rfl ?_ | refine sub_cons 4 rfl ?_ | refine sub_cons 5 rfl ?_ | refine sub_cons 6 rfl ?_ | refine sub_cons 7 rfl ?_ | refine sub_cons 8 rfl ?_ | refine sub_cons 9 rfl ?_ | refine sub_cons 10 rfl ?_ | refine sub_cons 11 rfl ?_ | refine sub_cons 12 rfl ?_ | refine sub_cons 13 rfl ?_)); done) | kcf_all))) (by show dp + 1 + 20 < recursionLimit; exact room2 hdp rfl) (by show un + 3 + 100 < cLine; exact room2 hun rfl) ha la hgk.1 hgk.2 ?_)
    intro h6 tk6 r6 u6 u6' hr6 F6 N6 K6
    have N7 := news_join N6 (news_all N5 K6)
    have l10 := allLt_news N5 hr6
    dsimp only [AllLt] at l10
    dsimp only [List.cons_append, List.nil_append] at N7
    clear F5 N5 N6 K6 hr6 F3 N4
    (repeat' (first | (k_unfold; (try dsimp only)) | (k_end; wrow_close) | ((with_reducible show wpAny _ _ (compareOp CmpOp.Gt (Value.ref _) (Value.ref _)) _ _ _); refine tup_gt (News.isTup (by k_asm) (by k_mem)) (News.isTup (by k_asm) (by k_mem)) (by ktr_units) ?_) | ((with_reducible show wpAny _ _ (eval (Expr.ListComp _ _ _ _) _) _ _ _); k_here; k_dflt (first | (refine LCt.ListComp_T (F₀ := by k_asm) (by with_unfolding_all rfl) (by decide) (by rfl) (by decide) (by rfl) ?_) | (refine LCg.ListComp_U (F₀ := by k_asm) (by with_unfolding_all rfl) (by decide) (by rfl) (by decide) (by rfl) ?_))) | walk1 | (dsimp only; walk1) | (leave1; walk_say "STEP leave1"; try dsimp only) | fail "no step"))
    · have hbad := ‹lexLt _ _ _ _ = true›
      exact absurd (hbad.symm.trans hok) (by decide)
    · refine stop_go (LCg.CompEnd.intro F6 N7 [_, (x, instObj 144 dx), (dx, oDict D al hl pl), (al, oList avs na), (hl, oList hvs nh)] (by (first | ((repeat (first | exact sub_nil | refine sub_cons 0 rfl ?_ | refine sub_cons 1 rfl ?_ | refine sub_cons 2 rfl ?_ | refine sub_cons 3 rfl ?_ | refine sub_cons 4 rfl ?_ | refine sub_cons 5 rfl ?_ | refine sub_cons 6 rfl ?_ | refine sub_cons 7 rfl ?_ | refine sub_cons 8 rfl ?_ | refine sub_cons 9 rfl ?_ | refine sub_cons 10 rfl ?_ | refine sub_cons 11 rfl ?_ | refine sub_cons 12 rfl ?_ | refine sub_cons 13 rfl ?_)); done) | kcf_all)) off.out trivial (kci_no rfl rfl))
  · unfold KPfDone
    intro ys hys hyl D9 h9 tk9 F9 N9 off9
    rw [foldl_skip] at hys
    replace off9 := hide_of off9
    dsimp only
    (repeat' (first | (k_unfold; (try dsimp only)) | (k_end; wrow_close) | ((with_reducible show wpAny _ _ (compareOp CmpOp.Gt (Value.ref _) (Value.ref _)) _ _ _); refine tup_gt (News.isTup (by k_asm) (by k_mem)) (News.isTup (by k_asm) (by k_mem)) (by ktr_units) ?_) | ((with_reducible show wpAny _ _ (eval (Expr.ListComp _ _ _ _) _) _ _ _); k_here; k_dflt (first | (refine LCt.ListComp_T (F₀ := by k_asm) (by with_unfolding_all rfl) (by decide) (by rfl) (by decide) (by rfl) ?_) | (refine LCg.ListComp_U (F₀ := by k_asm) (by with_unfolding_all rfl) (by decide) (by rfl) (by decide) (by rfl) ?_))) | walk1 | (dsimp only; walk1) | (leave1; walk_say "STEP leave1"; try dsimp only) | fail "no step"))
    have kN9 := ‹News h₀ L _ _›
    have kP9 := ‹Kept s.heap _ _›
    have kS9 : Kept s.heap _ [] := kept_shrink (same := [(x, instObj 144 dx), (dx, oDict D al hl pl), (al, oList avs na), (hl, oList hvs nh)]) N kN9 kP9 (by (first | ((repeat (first | exact ks_nil | refine ks_l 0 rfl ?_ | refine ks_l 1 rfl ?_ | refine ks_l 2 rfl ?_ | refine ks_l 3 rfl ?_ | refine ks_l 4 rfl ?_ | refine ks_r 0 rfl ?_ | refine ks_r 1 rfl ?_ | refine ks_r 2 rfl ?_ | refine ks_r 3 rfl ?_ | refine ks_r 4 rfl ?_ | refine ks_r 5 rfl ?_)); done) | simp)) (by (first | ((repeat (first | exact sub_nil | refine sub_cons 0 rfl ?_ | refine sub_cons 1 rfl ?_ | refine sub_cons 2 rfl ?_ | refine sub_cons 3 rfl ?_ | refine sub_cons 4 rfl ?_ | refine sub_cons 5 rfl ?_ | refine sub_cons 6 rfl ?_ | refine sub_cons 7 rfl ?_ | refine sub_cons 8 rfl ?_ | refine sub_cons 9 rfl ?_ | refine sub_cons 10 rfl ?_ | refine sub_cons 11 rfl ?_ | refine sub_cons 12 rfl ?_ | refine sub_cons 13 rfl ?_)); done) | kcf_all)) (by (first | ((repeat (first | exact sub_nil | refine sub_cons 0 rfl ?_ | refine sub_cons 1 rfl ?_ | refine sub_cons 2 rfl ?_ | refine sub_cons 3 rfl ?_ | refine sub_cons 4 rfl ?_ | refine sub_cons 5 rfl ?_ | refine sub_cons 6 rfl ?_ | refine sub_cons 7 rfl ?_ | refine sub_cons 8 rfl ?_ | refine sub_cons 9 rfl ?_ | refine sub_cons 10 rfl ?_ | refine sub_cons 11 rfl ?_ | refine sub_cons 12 rfl ?_ | refine sub_cons 13 rfl ?_)); done) | kcf_all))
    exact k _ _ (by assumption) (fun b o e => kS9 b o e (by simp))
  · intro l k
    exact Nat.le_succ _
-- RgQ3

section
variable {lt : Nat → Nat → Bool} {n : Nat} {Inv : Shared → Prop} {cmp : Nat → Nat → (Bool → Shared → Prop) → Shared → Prop}
abbrev gp (p : Array Nat) (i : Nat) : Nat := p.getD i 0
theorem gp_eq {p q : Array Nat} {i j : Nat} (h : p[i]? = q[j]?) : gp p i = gp q j := by
  unfold gp
  rw [Array.getD_eq_getD_getElem?, Array.getD_eq_getD_getElem?, h]
structure StrictO (lt : Nat → Nat → Bool) (n : Nat) : Prop where
  trans : ∀ i j k, i < n → j < n → k < n → lt i j = true → lt j k = true → lt i k = true
  tot : ∀ i j, i < n → j < n → i ≠ j → lt i j = false → lt j i = true
  asym : ∀ i j, i < n → j < n → lt i j = true → lt j i = false
structure PermN (n : Nat) (p : Array Nat) : Prop where
  perm : p.toList.Perm (List.range n)
theorem PermN.size {p : Array Nat} (h : PermN n p) : p.size = n := by
  have := h.perm.length_eq
  simpa using this
theorem PermN.ltn {p : Array Nat} (h : PermN n p) {i : Nat} (hi : i < n) : gp p i < n := by
  have hs := h.size
  have hm : gp p i ∈ p.toList := by
    unfold gp
    rw [Array.getD_eq_getD_getElem?, Array.getElem?_eq_getElem (by (first | exact u_lt ‹_› | exact u_n ‹_› | exact p_lt ‹_› | exact p_ne ‹_› | exact p_nf ‹_› | exact p_l ‹_› | exact b_1 ‹_› | exact Nat.ne_of_gt ‹_› | exact Nat.ne_of_lt ‹_› | exact u_ne ‹_› ‹_› | exact u_nf ‹_› ‹_› | exact u_ab ‹_› ‹_› | exact p_n ‹_› ‹_› | exact p_k ‹_› ‹_› | exact l_e ‹_› ‹_› | exact l_f ‹_› ‹_› | exact b_2 ‹_› ‹_› | exact u_1 _ | exact u_2 _ | (apply Nat.lt_trans; assumption; assumption; done) | (apply Nat.lt_of_lt_of_le; assumption; assumption; done) | (apply Nat.lt_of_le_of_lt; assumption; assumption; done) | (apply Nat.le_trans; assumption; assumption; done) | ((fail_if_success (fail_if_success omega (config := {}))); (first | with_reducible assumption | decide | lia | omega (config := {})))))]
    simp
  exact List.mem_range.mp (h.perm.mem_iff.mp hm)
theorem PermN.ne {p : Array Nat} (h : PermN n p) {i j : Nat} (hi : i < n) (hj : j < n) (hne : i ≠ j) : gp p i ≠ gp p j := by
  have hs := h.size
  have nd : p.toList.Nodup := h.perm.nodup_iff.mpr List.nodup_range
  intro e
  unfold gp at e
  rw [Array.getD_eq_getD_getElem?, Array.getD_eq_getD_getElem?, Array.getElem?_eq_getElem (by (first | exact u_lt ‹_› | exact u_n ‹_› | exact p_lt ‹_› | exact p_ne ‹_› | exact p_nf ‹_› | exact p_l ‹_› | exact b_1 ‹_› | exact Nat.ne_of_gt ‹_› | exact Nat.ne_of_lt ‹_› | exact u_ne ‹_› ‹_› | exact u_nf ‹_› ‹_› | exact u_ab ‹_› ‹_› | exact p_n ‹_› ‹_› | exact p_k ‹_› ‹_› | exact l_e ‹_› ‹_› | exact l_f ‹_› ‹_› | exact b_2 ‹_› ‹_› | exact u_1 _ | exact u_2 _ | (apply Nat.lt_trans; assumption; assumption; done) | (apply Nat.lt_of_lt_of_le; assumption; assumption; done) | (apply Nat.lt_of_le_of_lt; assumption; assumption; done) | (apply Nat.le_trans; assumption; assumption; done) | ((fail_if_success (fail_if_success omega (config := {}))); (first | with_reducible assumption | decide | lia | omega (config := {}))))), Array.getElem?_eq_getElem (by (first | exact u_lt ‹_› | exact u_n ‹_› | exact p_lt ‹_› | exact p_ne ‹_› | exact p_nf ‹_› | exact p_l ‹_› | exact b_1 ‹_› | exact Nat.ne_of_gt ‹_› | exact Nat.ne_of_lt ‹_› | exact u_ne ‹_› ‹_› | exact u_nf ‹_› ‹_› | exact u_ab ‹_› ‹_› | exact p_n ‹_› ‹_› | exact p_k ‹_› ‹_› | exact l_e ‹_› ‹_› | exact l_f ‹_› ‹_› | exact b_2 ‹_› ‹_› | exact u_1 _ | exact u_2 _ | (apply Nat.lt_trans; assumption; assumption; done) | (apply Nat.lt_of_lt_of_le; assumption; assumption; done) | (apply Nat.lt_of_le_of_lt; assumption; assumption; done) | (apply Nat.le_trans; assumption; assumption; done) | ((fail_if_success (fail_if_success omega (config := {}))); (first | with_reducible assumption | decide | lia | omega (config := {})))))] at e
  have e' : p[i]'(by (first | exact u_lt ‹_› | exact u_n ‹_› | exact p_lt ‹_› | exact p_ne ‹_› | exact p_nf ‹_› | exact p_l ‹_› | exact b_1 ‹_› | exact Nat.ne_of_gt ‹_› | exact Nat.ne_of_lt ‹_› | exact u_ne ‹_› ‹_› | exact u_nf ‹_› ‹_› | exact u_ab ‹_› ‹_› | exact p_n ‹_› ‹_› | exact p_k ‹_› ‹_› | exact l_e ‹_› ‹_› | exact l_f ‹_› ‹_› | exact b_2 ‹_› ‹_› | exact u_1 _ | exact u_2 _ | (apply Nat.lt_trans; assumption; assumption; done) | (apply Nat.lt_of_lt_of_le; assumption; assumption; done) | (apply Nat.lt_of_le_of_lt; assumption; assumption; done) | (apply Nat.le_trans; assumption; assumption; done) | ((fail_if_success (fail_if_success omega (config := {}))); (first | with_reducible assumption | decide | lia | omega (config := {}))))) = p[j]'(by (first | exact u_lt ‹_› | exact u_n ‹_› | exact p_lt ‹_› | exact p_ne ‹_› | exact p_nf ‹_› | exact p_l ‹_› | exact b_1 ‹_› | exact Nat.ne_of_gt ‹_› | exact Nat.ne_of_lt ‹_› | exact u_ne ‹_› ‹_› | exact u_nf ‹_› ‹_› | exact u_ab ‹_› ‹_› | exact p_n ‹_› ‹_› | exact p_k ‹_› ‹_› | exact l_e ‹_› ‹_› | exact l_f ‹_› ‹_› | exact b_2 ‹_› ‹_› | exact u_1 _ | exact u_2 _ | (apply Nat.lt_trans; assumption; assumption; done) | (apply Nat.lt_of_lt_of_le; assumption; assumption; done) | (apply Nat.lt_of_le_of_lt; assumption; assumption; done) | (apply Nat.le_trans; assumption; assumption; done) | ((fail_if_success (fail_if_success omega (config := {}))); (first | with_reducible assumption | decide | lia | omega (config := {}))))) := e
  have key : ∀ a b : Nat, (ha : a < p.size) → (hb : b < p.size) → a < b → p[a] ≠ p[b] := fun a b ha hb hab => by
    have := (List.pairwise_iff_getElem.mp nd) a b (by simpa using ha) (by simpa using hb) hab
    simpa using this
  rcases Nat.lt_or_gt_of_ne hne with c | c
  · exact key i j (by (first | exact u_lt ‹_› | exact u_n ‹_› | exact p_lt ‹_› | exact p_ne ‹_› | exact p_nf ‹_› | exact p_l ‹_› | exact b_1 ‹_› | exact Nat.ne_of_gt ‹_› | exact Nat.ne_of_lt ‹_› | exact u_ne ‹_› ‹_› | exact u_nf ‹_› ‹_› | exact u_ab ‹_› ‹_› | exact p_n ‹_› ‹_› | exact p_k ‹_› ‹_› | exact l_e ‹_› ‹_› | exact l_f ‹_› ‹_› | exact b_2 ‹_› ‹_› | exact u_1 _ | exact u_2 _ | (apply Nat.lt_trans; assumption; assumption; done) | (apply Nat.lt_of_lt_of_le; assumption; assumption; done) | (apply Nat.lt_of_le_of_lt; assumption; assumption; done) | (apply Nat.le_trans; assumption; assumption; done) | ((fail_if_success (fail_if_success omega (config := {}))); (first | with_reducible assumption | decide | lia | omega (config := {}))))) (by (first | exact u_lt ‹_› | exact u_n ‹_› | exact p_lt ‹_› | exact p_ne ‹_› | exact p_nf ‹_› | exact p_l ‹_› | exact b_1 ‹_› | exact Nat.ne_of_gt ‹_› | exact Nat.ne_of_lt ‹_› | exact u_ne ‹_› ‹_› | exact u_nf ‹_› ‹_› | exact u_ab ‹_› ‹_› | exact p_n ‹_› ‹_› | exact p_k ‹_› ‹_› | exact l_e ‹_› ‹_› | exact l_f ‹_› ‹_› | exact b_2 ‹_› ‹_› | exact u_1 _ | exact u_2 _ | (apply Nat.lt_trans; assumption; assumption; done) | (apply Nat.lt_of_lt_of_le; assumption; assumption; done) | (apply Nat.lt_of_le_of_lt; assumption; assumption; done) | (apply Nat.le_trans; assumption; assumption; done) | ((fail_if_success (fail_if_success omega (config := {}))); (first | with_reducible assumption | decide | lia | omega (config := {}))))) c e'
  · exact key j i (by (first | exact u_lt ‹_› | exact u_n ‹_› | exact p_lt ‹_› | exact p_ne ‹_› | exact p_nf ‹_› | exact p_l ‹_› | exact b_1 ‹_› | exact Nat.ne_of_gt ‹_› | exact Nat.ne_of_lt ‹_› | exact u_ne ‹_› ‹_› | exact u_nf ‹_› ‹_› | exact u_ab ‹_› ‹_› | exact p_n ‹_› ‹_› | exact p_k ‹_› ‹_› | exact l_e ‹_› ‹_› | exact l_f ‹_› ‹_› | exact b_2 ‹_› ‹_› | exact u_1 _ | exact u_2 _ | (apply Nat.lt_trans; assumption; assumption; done) | (apply Nat.lt_of_lt_of_le; assumption; assumption; done) | (apply Nat.lt_of_le_of_lt; assumption; assumption; done) | (apply Nat.le_trans; assumption; assumption; done) | ((fail_if_success (fail_if_success omega (config := {}))); (first | with_reducible assumption | decide | lia | omega (config := {}))))) (by (first | exact u_lt ‹_› | exact u_n ‹_› | exact p_lt ‹_› | exact p_ne ‹_› | exact p_nf ‹_› | exact p_l ‹_› | exact b_1 ‹_› | exact Nat.ne_of_gt ‹_› | exact Nat.ne_of_lt ‹_› | exact u_ne ‹_› ‹_› | exact u_nf ‹_› ‹_› | exact u_ab ‹_› ‹_› | exact p_n ‹_› ‹_› | exact p_k ‹_› ‹_› | exact l_e ‹_› ‹_› | exact l_f ‹_› ‹_› | exact b_2 ‹_› ‹_› | exact u_1 _ | exact u_2 _ | (apply Nat.lt_trans; assumption; assumption; done) | (apply Nat.lt_of_lt_of_le; assumption; assumption; done) | (apply Nat.lt_of_le_of_lt; assumption; assumption; done) | (apply Nat.le_trans; assumption; assumption; done) | ((fail_if_success (fail_if_success omega (config := {}))); (first | with_reducible assumption | decide | lia | omega (config := {}))))) c e'.symm
theorem PermN.range (n : Nat) : PermN n (List.toArray (List.range n)) := ⟨.refl _⟩
theorem PermN.of {p q : Array Nat} (h : PermN n p) (hq : q.Perm p) : PermN n q := ⟨(Array.perm_iff_toList_perm.mp hq).trans h.perm⟩
noncomputable def SortedN (lt : Nat → Nat → Bool) (p : Array Nat) (k : Nat) : Prop := ∀ i j, i < j → j < k → lt (gp p i) (gp p j) = true
noncomputable def DescN (lt : Nat → Nat → Bool) (p : Array Nat) (k : Nat) : Prop := ∀ i j, i < j → j < k → lt (gp p j) (gp p i) = true
theorem kas_y {α : Type} {T₁ T₂ : KasT α} {Q : α → Shared → Prop} {s : Shared} (h : T₁.kasWp cmp Q s) : (if true = true then T₁ else T₂).kasWp cmp Q s := by rw [if_pos rfl]; exact h
theorem kas_n {α : Type} {c : Prop} [Decidable c] {T₁ T₂ : KasT α} {Q : α → Shared → Prop} {s : Shared} (hc : ¬ c) (h : T₂.kasWp cmp Q s) : (if c then T₁ else T₂).kasWp cmp Q s := by rw [if_neg hc]; exact h
theorem kas_asc_ok (O : StrictO lt n) (hc : ∀ i j K s, i < n → j < n → i ≠ j → Inv s → (∀ s', Inv s' → K (lt i j) s') → cmp i j K s) {p : Array Nat} (hp : PermN n p) {Q : Nat → Shared → Prop} :
    ∀ f m s, 1 ≤ m → m + f ≤ n → Inv s → SortedN lt p m → (∀ m' s', Inv s' → m ≤ m' → m' ≤ m + f → SortedN lt p m' → (m' < m + f → lt (gp p m') (gp p (m' - 1)) = true) → Q m' s') → (kas_asc p f m).kasWp cmp Q s
  | 0, m, s, h1, h2, hi, hs, k => k m s hi (Nat.le_refl _) (Nat.le_refl _) hs (fun c => by (first | exact u_lt ‹_› | exact u_n ‹_› | exact p_lt ‹_› | exact p_ne ‹_› | exact p_nf ‹_› | exact p_l ‹_› | exact b_1 ‹_› | exact Nat.ne_of_gt ‹_› | exact Nat.ne_of_lt ‹_› | exact u_ne ‹_› ‹_› | exact u_nf ‹_› ‹_› | exact u_ab ‹_› ‹_› | exact p_n ‹_› ‹_› | exact p_k ‹_› ‹_› | exact l_e ‹_› ‹_› | exact l_f ‹_› ‹_› | exact b_2 ‹_› ‹_› | exact u_1 _ | exact u_2 _ | (apply Nat.lt_trans; assumption; assumption; done) | (apply Nat.lt_of_lt_of_le; assumption; assumption; done) | (apply Nat.lt_of_le_of_lt; assumption; assumption; done) | (apply Nat.le_trans; assumption; assumption; done) | ((fail_if_success (fail_if_success omega (config := {}))); (first | with_reducible assumption | decide | lia | omega (config := {})))))
  | f + 1, m, s, h1, h2, hi, hs, k => by
    refine hc _ _ _ _ (hp.ltn (by (first | exact u_lt ‹_› | exact u_n ‹_› | exact p_lt ‹_› | exact p_ne ‹_› | exact p_nf ‹_› | exact p_l ‹_› | exact b_1 ‹_› | exact Nat.ne_of_gt ‹_› | exact Nat.ne_of_lt ‹_› | exact u_ne ‹_› ‹_› | exact u_nf ‹_› ‹_› | exact u_ab ‹_› ‹_› | exact p_n ‹_› ‹_› | exact p_k ‹_› ‹_› | exact l_e ‹_› ‹_› | exact l_f ‹_› ‹_› | exact b_2 ‹_› ‹_› | exact u_1 _ | exact u_2 _ | (apply Nat.lt_trans; assumption; assumption; done) | (apply Nat.lt_of_lt_of_le; assumption; assumption; done) | (apply Nat.lt_of_le_of_lt; assumption; assumption; done) | (apply Nat.le_trans; assumption; assumption; done) | ((fail_if_success (fail_if_success omega (config := {}))); (first | with_reducible assumption | decide | lia | omega (config := {})))))) (hp.ltn (by (first | exact u_lt ‹_› | exact u_n ‹_› | exact p_lt ‹_› | exact p_ne ‹_› | exact p_nf ‹_› | exact p_l ‹_› | exact b_1 ‹_› | exact Nat.ne_of_gt ‹_› | exact Nat.ne_of_lt ‹_› | exact u_ne ‹_› ‹_› | exact u_nf ‹_› ‹_› | exact u_ab ‹_› ‹_› | exact p_n ‹_› ‹_› | exact p_k ‹_› ‹_› | exact l_e ‹_› ‹_› | exact l_f ‹_› ‹_› | exact b_2 ‹_› ‹_› | exact u_1 _ | exact u_2 _ | (apply Nat.lt_trans; assumption; assumption; done) | (apply Nat.lt_of_lt_of_le; assumption; assumption; done) | (apply Nat.lt_of_le_of_lt; assumption; assumption; done) | (apply Nat.le_trans; assumption; assumption; done) | ((fail_if_success (fail_if_success omega (config := {}))); (first | with_reducible assumption | decide | lia | omega (config := {})))))) (hp.ne (by (first | exact u_lt ‹_› | exact u_n ‹_› | exact p_lt ‹_› | exact p_ne ‹_› | exact p_nf ‹_› | exact p_l ‹_› | exact b_1 ‹_› | exact Nat.ne_of_gt ‹_› | exact Nat.ne_of_lt ‹_› | exact u_ne ‹_› ‹_› | exact u_nf ‹_› ‹_› | exact u_ab ‹_› ‹_› | exact p_n ‹_› ‹_› | exact p_k ‹_› ‹_› | exact l_e ‹_› ‹_› | exact l_f ‹_› ‹_› | exact b_2 ‹_› ‹_› | exact u_1 _ | exact u_2 _ | (apply Nat.lt_trans; assumption; assumption; done) | (apply Nat.lt_of_lt_of_le; assumption; assumption; done) | (apply Nat.lt_of_le_of_lt; assumption; assumption; done) | (apply Nat.le_trans; assumption; assumption; done) | ((fail_if_success (fail_if_success omega (config := {}))); (first | with_reducible assumption | decide | lia | omega (config := {}))))) (by (first | exact u_lt ‹_› | exact u_n ‹_› | exact p_lt ‹_› | exact p_ne ‹_› | exact p_nf ‹_› | exact p_l ‹_› | exact b_1 ‹_› | exact Nat.ne_of_gt ‹_› | exact Nat.ne_of_lt ‹_› | exact u_ne ‹_› ‹_› | exact u_nf ‹_› ‹_› | exact u_ab ‹_› ‹_› | exact p_n ‹_› ‹_› | exact p_k ‹_› ‹_› | exact l_e ‹_› ‹_› | exact l_f ‹_› ‹_› | exact b_2 ‹_› ‹_› | exact u_1 _ | exact u_2 _ | (apply Nat.lt_trans; assumption; assumption; done) | (apply Nat.lt_of_lt_of_le; assumption; assumption; done) | (apply Nat.lt_of_le_of_lt; assumption; assumption; done) | (apply Nat.le_trans; assumption; assumption; done) | ((fail_if_success (fail_if_success omega (config := {}))); (first | with_reducible assumption | decide | lia | omega (config := {}))))) (by (first | exact u_lt ‹_› | exact u_n ‹_› | exact p_lt ‹_› | exact p_ne ‹_› | exact p_nf ‹_› | exact p_l ‹_› | exact b_1 ‹_› | exact Nat.ne_of_gt ‹_› | exact Nat.ne_of_lt ‹_› | exact u_ne ‹_› ‹_› | exact u_nf ‹_› ‹_› | exact u_ab ‹_› ‹_› | exact p_n ‹_› ‹_› | exact p_k ‹_› ‹_› | exact l_e ‹_› ‹_› | exact l_f ‹_› ‹_› | exact b_2 ‹_› ‹_› | exact u_1 _ | exact u_2 _ | (apply Nat.lt_trans; assumption; assumption; done) | (apply Nat.lt_of_lt_of_le; assumption; assumption; done) | (apply Nat.lt_of_le_of_lt; assumption; assumption; done) | (apply Nat.le_trans; assumption; assumption; done) | ((fail_if_success (fail_if_success omega (config := {}))); (first | with_reducible assumption | decide | lia | omega (config := {})))))) hi fun s' hi' => ?_
    cases hb : lt (gp p m) (gp p (m - 1)) with
    | true =>
      refine kas_y ?_
      exact k m s' hi' (Nat.le_refl _) (by (first | exact u_lt ‹_› | exact u_n ‹_› | exact p_lt ‹_› | exact p_ne ‹_› | exact p_nf ‹_› | exact p_l ‹_› | exact b_1 ‹_› | exact Nat.ne_of_gt ‹_› | exact Nat.ne_of_lt ‹_› | exact u_ne ‹_› ‹_› | exact u_nf ‹_› ‹_› | exact u_ab ‹_› ‹_› | exact p_n ‹_› ‹_› | exact p_k ‹_› ‹_› | exact l_e ‹_› ‹_› | exact l_f ‹_› ‹_› | exact b_2 ‹_› ‹_› | exact u_1 _ | exact u_2 _ | (apply Nat.lt_trans; assumption; assumption; done) | (apply Nat.lt_of_lt_of_le; assumption; assumption; done) | (apply Nat.lt_of_le_of_lt; assumption; assumption; done) | (apply Nat.le_trans; assumption; assumption; done) | ((fail_if_success (fail_if_success omega (config := {}))); (first | with_reducible assumption | decide | lia | omega (config := {}))))) hs fun _ => hb
    | false =>
      refine kas_n (by simp) ?_
      have hb' := O.tot _ _ (hp.ltn (by (first | exact u_lt ‹_› | exact u_n ‹_› | exact p_lt ‹_› | exact p_ne ‹_› | exact p_nf ‹_› | exact p_l ‹_› | exact b_1 ‹_› | exact Nat.ne_of_gt ‹_› | exact Nat.ne_of_lt ‹_› | exact u_ne ‹_› ‹_› | exact u_nf ‹_› ‹_› | exact u_ab ‹_› ‹_› | exact p_n ‹_› ‹_› | exact p_k ‹_› ‹_› | exact l_e ‹_› ‹_› | exact l_f ‹_› ‹_› | exact b_2 ‹_› ‹_› | exact u_1 _ | exact u_2 _ | (apply Nat.lt_trans; assumption; assumption; done) | (apply Nat.lt_of_lt_of_le; assumption; assumption; done) | (apply Nat.lt_of_le_of_lt; assumption; assumption; done) | (apply Nat.le_trans; assumption; assumption; done) | ((fail_if_success (fail_if_success omega (config := {}))); (first | with_reducible assumption | decide | lia | omega (config := {})))))) (hp.ltn (by (first | exact u_lt ‹_› | exact u_n ‹_› | exact p_lt ‹_› | exact p_ne ‹_› | exact p_nf ‹_› | exact p_l ‹_› | exact b_1 ‹_› | exact Nat.ne_of_gt ‹_› | exact Nat.ne_of_lt ‹_› | exact u_ne ‹_› ‹_› | exact u_nf ‹_› ‹_› | exact u_ab ‹_› ‹_› | exact p_n ‹_› ‹_› | exact p_k ‹_› ‹_› | exact l_e ‹_› ‹_› | exact l_f ‹_› ‹_› | exact b_2 ‹_› ‹_› | exact u_1 _ | exact u_2 _ | (apply Nat.lt_trans; assumption; assumption; done) | (apply Nat.lt_of_lt_of_le; assumption; assumption; done) | (apply Nat.lt_of_le_of_lt; assumption; assumption; done) | (apply Nat.le_trans; assumption; assumption; done) | ((fail_if_success (fail_if_success omega (config := {}))); (first | with_reducible assumption | decide | lia | omega (config := {})))))) (hp.ne (by (first | exact u_lt ‹_› | exact u_n ‹_› | exact p_lt ‹_› | exact p_ne ‹_› | exact p_nf ‹_› | exact p_l ‹_› | exact b_1 ‹_› | exact Nat.ne_of_gt ‹_› | exact Nat.ne_of_lt ‹_› | exact u_ne ‹_› ‹_› | exact u_nf ‹_› ‹_› | exact u_ab ‹_› ‹_› | exact p_n ‹_› ‹_› | exact p_k ‹_› ‹_› | exact l_e ‹_› ‹_› | exact l_f ‹_› ‹_› | exact b_2 ‹_› ‹_› | exact u_1 _ | exact u_2 _ | (apply Nat.lt_trans; assumption; assumption; done) | (apply Nat.lt_of_lt_of_le; assumption; assumption; done) | (apply Nat.lt_of_le_of_lt; assumption; assumption; done) | (apply Nat.le_trans; assumption; assumption; done) | ((fail_if_success (fail_if_success omega (config := {}))); (first | with_reducible assumption | decide | lia | omega (config := {}))))) (by (first | exact u_lt ‹_› | exact u_n ‹_› | exact p_lt ‹_› | exact p_ne ‹_› | exact p_nf ‹_› | exact p_l ‹_› | exact b_1 ‹_› | exact Nat.ne_of_gt ‹_› | exact Nat.ne_of_lt ‹_› | exact u_ne ‹_› ‹_› | exact u_nf ‹_› ‹_› | exact u_ab ‹_› ‹_› | exact p_n ‹_› ‹_› | exact p_k ‹_› ‹_› | exact l_e ‹_› ‹_› | exact l_f ‹_› ‹_› | exact b_2 ‹_› ‹_› | exact u_1 _ | exact u_2 _ | (apply Nat.lt_trans; assumption; assumption; done) | (apply Nat.lt_of_lt_of_le; assumption; assumption; done) | (apply Nat.lt_of_le_of_lt; assumption; assumption; done) | (apply Nat.le_trans; assumption; assumption; done) | ((fail_if_success (fail_if_success omega (config := {}))); (first | with_reducible assumption | decide | lia | omega (config := {}))))) (by (first | exact u_lt ‹_› | exact u_n ‹_› | exact p_lt ‹_› | exact p_ne ‹_› | exact p_nf ‹_› | exact p_l ‹_› | exact b_1 ‹_› | exact Nat.ne_of_gt ‹_› | exact Nat.ne_of_lt ‹_› | exact u_ne ‹_› ‹_› | exact u_nf ‹_› ‹_› | exact u_ab ‹_› ‹_› | exact p_n ‹_› ‹_› | exact p_k ‹_› ‹_› | exact l_e ‹_› ‹_› | exact l_f ‹_› ‹_› | exact b_2 ‹_› ‹_› | exact u_1 _ | exact u_2 _ | (apply Nat.lt_trans; assumption; assumption; done) | (apply Nat.lt_of_lt_of_le; assumption; assumption; done) | (apply Nat.lt_of_le_of_lt; assumption; assumption; done) | (apply Nat.le_trans; assumption; assumption; done) | ((fail_if_success (fail_if_success omega (config := {}))); (first | with_reducible assumption | decide | lia | omega (config := {})))))) hb
      refine kas_asc_ok O hc hp f (m + 1) s' (by (first | exact u_lt ‹_› | exact u_n ‹_› | exact p_lt ‹_› | exact p_ne ‹_› | exact p_nf ‹_› | exact p_l ‹_› | exact b_1 ‹_› | exact Nat.ne_of_gt ‹_› | exact Nat.ne_of_lt ‹_› | exact u_ne ‹_› ‹_› | exact u_nf ‹_› ‹_› | exact u_ab ‹_› ‹_› | exact p_n ‹_› ‹_› | exact p_k ‹_› ‹_› | exact l_e ‹_› ‹_› | exact l_f ‹_› ‹_› | exact b_2 ‹_› ‹_› | exact u_1 _ | exact u_2 _ | (apply Nat.lt_trans; assumption; assumption; done) | (apply Nat.lt_of_lt_of_le; assumption; assumption; done) | (apply Nat.lt_of_le_of_lt; assumption; assumption; done) | (apply Nat.le_trans; assumption; assumption; done) | ((fail_if_success (fail_if_success omega (config := {}))); (first | with_reducible assumption | decide | lia | omega (config := {}))))) (by (first | exact u_lt ‹_› | exact u_n ‹_› | exact p_lt ‹_› | exact p_ne ‹_› | exact p_nf ‹_› | exact p_l ‹_› | exact b_1 ‹_› | exact Nat.ne_of_gt ‹_› | exact Nat.ne_of_lt ‹_› | exact u_ne ‹_› ‹_› | exact u_nf ‹_› ‹_› | exact u_ab ‹_› ‹_› | exact p_n ‹_› ‹_› | exact p_k ‹_› ‹_› | exact l_e ‹_› ‹_› | exact l_f ‹_› ‹_› | exact b_2 ‹_› ‹_› | exact u_1 _ | exact u_2 _ | (apply Nat.lt_trans; assumption; assumption; done) | (apply Nat.lt_of_lt_of_le; assumption; assumption; done) | (apply Nat.lt_of_le_of_lt; assumption; assumption; done) | (apply Nat.le_trans; assumption; assumption; done) | ((fail_if_success (fail_if_success omega (config := {}))); (first | with_reducible assumption | decide | lia | omega (config := {}))))) hi' (fun i j h h' => ?_) fun m' s'' i1 i2 i3 i4 i5 => k m' s'' i1 (by (first | exact u_lt ‹_› | exact u_n ‹_› | exact p_lt ‹_› | exact p_ne ‹_› | exact p_nf ‹_› | exact p_l ‹_› | exact b_1 ‹_› | exact Nat.ne_of_gt ‹_› | exact Nat.ne_of_lt ‹_› | exact u_ne ‹_› ‹_› | exact u_nf ‹_› ‹_› | exact u_ab ‹_› ‹_› | exact p_n ‹_› ‹_› | exact p_k ‹_› ‹_› | exact l_e ‹_› ‹_› | exact l_f ‹_› ‹_› | exact b_2 ‹_› ‹_› | exact u_1 _ | exact u_2 _ | (apply Nat.lt_trans; assumption; assumption; done) | (apply Nat.lt_of_lt_of_le; assumption; assumption; done) | (apply Nat.lt_of_le_of_lt; assumption; assumption; done) | (apply Nat.le_trans; assumption; assumption; done) | ((fail_if_success (fail_if_success omega (config := {}))); (first | with_reducible assumption | decide | lia | omega (config := {}))))) (by (first | exact u_lt ‹_› | exact u_n ‹_› | exact p_lt ‹_› | exact p_ne ‹_› | exact p_nf ‹_› | exact p_l ‹_› | exact b_1 ‹_› | exact Nat.ne_of_gt ‹_› | exact Nat.ne_of_lt ‹_› | exact u_ne ‹_› ‹_› | exact u_nf ‹_› ‹_› | exact u_ab ‹_› ‹_› | exact p_n ‹_› ‹_› | exact p_k ‹_› ‹_› | exact l_e ‹_› ‹_› | exact l_f ‹_› ‹_› | exact b_2 ‹_› ‹_› | exact u_1 _ | exact u_2 _ | (apply Nat.lt_trans; assumption; assumption; done) | (apply Nat.lt_of_lt_of_le; assumption; assumption; done) | (apply Nat.lt_of_le_of_lt; assumption; assumption; done) | (apply Nat.le_trans; assumption; assumption; done) | ((fail_if_success (fail_if_success omega (config := {}))); (first | with_reducible assumption | decide | lia | omega (config := {}))))) i4 (fun c => i5 (by (first | exact u_lt ‹_› | exact u_n ‹_› | exact p_lt ‹_› | exact p_ne ‹_› | exact p_nf ‹_› | exact p_l ‹_› | exact b_1 ‹_› | exact Nat.ne_of_gt ‹_› | exact Nat.ne_of_lt ‹_› | exact u_ne ‹_› ‹_› | exact u_nf ‹_› ‹_› | exact u_ab ‹_› ‹_› | exact p_n ‹_› ‹_› | exact p_k ‹_› ‹_› | exact l_e ‹_› ‹_› | exact l_f ‹_› ‹_› | exact b_2 ‹_› ‹_› | exact u_1 _ | exact u_2 _ | (apply Nat.lt_trans; assumption; assumption; done) | (apply Nat.lt_of_lt_of_le; assumption; assumption; done) | (apply Nat.lt_of_le_of_lt; assumption; assumption; done) | (apply Nat.le_trans; assumption; assumption; done) | ((fail_if_success (fail_if_success omega (config := {}))); (first | with_reducible assumption | decide | lia | omega (config := {}))))))
      rcases Nat.lt_or_ge j m with hj | hj
      · exact hs i j h hj
      · have : j = m := by (first | exact u_lt ‹_› | exact u_n ‹_› | exact p_lt ‹_› | exact p_ne ‹_› | exact p_nf ‹_› | exact p_l ‹_› | exact b_1 ‹_› | exact Nat.ne_of_gt ‹_› | exact Nat.ne_of_lt ‹_› | exact u_ne ‹_› ‹_› | exact u_nf ‹_› ‹_› | exact u_ab ‹_› ‹_› | exact p_n ‹_› ‹_› | exact p_k ‹_› ‹_› | exact l_e ‹_› ‹_› | exact l_f ‹_› ‹_› | exact b_2 ‹_› ‹_› | exact u_1 _ | exact u_2 _ | (apply Nat.lt_trans; assumption; assumption; done) | (apply Nat.lt_of_lt_of_le; assumption; assumption; done) | (apply Nat.lt_of_le_of_lt; assumption; assumption; done) | (apply Nat.le_trans; assumption; assumption; done) | ((fail_if_success (fail_if_success omega (config := {}))); (first | with_reducible assumption | decide | lia | omega (config := {}))))
        subst this
        rcases Nat.lt_or_ge i (j - 1) with c | c
        · exact O.trans _ _ _ (hp.ltn (by (first | exact u_lt ‹_› | exact u_n ‹_› | exact p_lt ‹_› | exact p_ne ‹_› | exact p_nf ‹_› | exact p_l ‹_› | exact b_1 ‹_› | exact Nat.ne_of_gt ‹_› | exact Nat.ne_of_lt ‹_› | exact u_ne ‹_› ‹_› | exact u_nf ‹_› ‹_› | exact u_ab ‹_› ‹_› | exact p_n ‹_› ‹_› | exact p_k ‹_› ‹_› | exact l_e ‹_› ‹_› | exact l_f ‹_› ‹_› | exact b_2 ‹_› ‹_› | exact u_1 _ | exact u_2 _ | (apply Nat.lt_trans; assumption; assumption; done) | (apply Nat.lt_of_lt_of_le; assumption; assumption; done) | (apply Nat.lt_of_le_of_lt; assumption; assumption; done) | (apply Nat.le_trans; assumption; assumption; done) | ((fail_if_success (fail_if_success omega (config := {}))); (first | with_reducible assumption | decide | lia | omega (config := {})))))) (hp.ltn (by (first | exact u_lt ‹_› | exact u_n ‹_› | exact p_lt ‹_› | exact p_ne ‹_› | exact p_nf ‹_› | exact p_l ‹_› | exact b_1 ‹_› | exact Nat.ne_of_gt ‹_› | exact Nat.ne_of_lt ‹_› | exact u_ne ‹_› ‹_› | exact u_nf ‹_› ‹_› | exact u_ab ‹_› ‹_› | exact p_n ‹_› ‹_› | exact p_k ‹_› ‹_› | exact l_e ‹_› ‹_› | exact l_f ‹_› ‹_› | exact b_2 ‹_› ‹_› | exact u_1 _ | exact u_2 _ | (apply Nat.lt_trans; assumption; assumption; done) | (apply Nat.lt_of_lt_of_le; assumption; assumption; done) | (apply Nat.lt_of_le_of_lt; assumption; assumption; done) | (apply Nat.le_trans; assumption; assumption; done) | ((fail_if_success (fail_if_success omega (config := {}))); (first | with_reducible assumption | decide | lia | omega (config := {})))))) (hp.ltn (by (first | exact u_lt ‹_› | exact u_n ‹_› | exact p_lt ‹_› | exact p_ne ‹_› | exact p_nf ‹_› | exact p_l ‹_› | exact b_1 ‹_› | exact Nat.ne_of_gt ‹_› | exact Nat.ne_of_lt ‹_› | exact u_ne ‹_› ‹_› | exact u_nf ‹_› ‹_› | exact u_ab ‹_› ‹_› | exact p_n ‹_› ‹_› | exact p_k ‹_› ‹_› | exact l_e ‹_› ‹_› | exact l_f ‹_› ‹_› | exact b_2 ‹_› ‹_› | exact u_1 _ | exact u_2 _ | (apply Nat.lt_trans; assumption; assumption; done) | (apply Nat.lt_of_lt_of_le; assumption; assumption; done) | (apply Nat.lt_of_le_of_lt; assumption; assumption; done) | (apply Nat.le_trans; assumption; assumption; done) | ((fail_if_success (fail_if_success omega (config := {}))); (first | with_reducible assumption | decide | lia | omega (config := {})))))) (hs i (j - 1) c (by (first | exact u_lt ‹_› | exact u_n ‹_› | exact p_lt ‹_› | exact p_ne ‹_› | exact p_nf ‹_› | exact p_l ‹_› | exact b_1 ‹_› | exact Nat.ne_of_gt ‹_› | exact Nat.ne_of_lt ‹_› | exact u_ne ‹_› ‹_› | exact u_nf ‹_› ‹_› | exact u_ab ‹_› ‹_› | exact p_n ‹_› ‹_› | exact p_k ‹_› ‹_› | exact l_e ‹_› ‹_› | exact l_f ‹_› ‹_› | exact b_2 ‹_› ‹_› | exact u_1 _ | exact u_2 _ | (apply Nat.lt_trans; assumption; assumption; done) | (apply Nat.lt_of_lt_of_le; assumption; assumption; done) | (apply Nat.lt_of_le_of_lt; assumption; assumption; done) | (apply Nat.le_trans; assumption; assumption; done) | ((fail_if_success (fail_if_success omega (config := {}))); (first | with_reducible assumption | decide | lia | omega (config := {})))))) hb'
        · have : i = j - 1 := by (first | exact u_lt ‹_› | exact u_n ‹_› | exact p_lt ‹_› | exact p_ne ‹_› | exact p_nf ‹_› | exact p_l ‹_› | exact b_1 ‹_› | exact Nat.ne_of_gt ‹_› | exact Nat.ne_of_lt ‹_› | exact u_ne ‹_› ‹_› | exact u_nf ‹_› ‹_› | exact u_ab ‹_› ‹_› | exact p_n ‹_› ‹_› | exact p_k ‹_› ‹_› | exact l_e ‹_› ‹_› | exact l_f ‹_› ‹_› | exact b_2 ‹_› ‹_› | exact u_1 _ | exact u_2 _ | (apply Nat.lt_trans; assumption; assumption; done) | (apply Nat.lt_of_lt_of_le; assumption; assumption; done) | (apply Nat.lt_of_le_of_lt; assumption; assumption; done) | (apply Nat.le_trans; assumption; assumption; done) | ((fail_if_success (fail_if_success omega (config := {}))); (first | with_reducible assumption | decide | lia | omega (config := {}))))
          subst this
          exact hb'
theorem kas_desc_ok (O : StrictO lt n) (hc : ∀ i j K s, i < n → j < n → i ≠ j → Inv s → (∀ s', Inv s' → K (lt i j) s') → cmp i j K s) {p : Array Nat} (hp : PermN n p) {Q : Array Nat × Nat × Nat → Shared → Prop} :
    ∀ f m s, 1 ≤ m → m + f ≤ n → Inv s → DescN lt p m → (∀ m' s', Inv s' → m ≤ m' → m' ≤ m + f → DescN lt p m' → Q (p, m', 0) s') → (kas_desc f p m 0).kasWp cmp Q s
  | 0, m, s, h1, h2, hi, hs, k => k m s hi (Nat.le_refl _) (Nat.le_refl _) hs
  | f + 1, m, s, h1, h2, hi, hs, k => by
    refine hc _ _ _ _ (hp.ltn (by (first | exact u_lt ‹_› | exact u_n ‹_› | exact p_lt ‹_› | exact p_ne ‹_› | exact p_nf ‹_› | exact p_l ‹_› | exact b_1 ‹_› | exact Nat.ne_of_gt ‹_› | exact Nat.ne_of_lt ‹_› | exact u_ne ‹_› ‹_› | exact u_nf ‹_› ‹_› | exact u_ab ‹_› ‹_› | exact p_n ‹_› ‹_› | exact p_k ‹_› ‹_› | exact l_e ‹_› ‹_› | exact l_f ‹_› ‹_› | exact b_2 ‹_› ‹_› | exact u_1 _ | exact u_2 _ | (apply Nat.lt_trans; assumption; assumption; done) | (apply Nat.lt_of_lt_of_le; assumption; assumption; done) | (apply Nat.lt_of_le_of_lt; assumption; assumption; done) | (apply Nat.le_trans; assumption; assumption; done) | ((fail_if_success (fail_if_success omega (config := {}))); (first | with_reducible assumption | decide | lia | omega (config := {})))))) (hp.ltn (by (first | exact u_lt ‹_› | exact u_n ‹_› | exact p_lt ‹_› | exact p_ne ‹_› | exact p_nf ‹_› | exact p_l ‹_› | exact b_1 ‹_› | exact Nat.ne_of_gt ‹_› | exact Nat.ne_of_lt ‹_› | exact u_ne ‹_› ‹_› | exact u_nf ‹_› ‹_› | exact u_ab ‹_› ‹_› | exact p_n ‹_› ‹_› | exact p_k ‹_› ‹_› | exact l_e ‹_› ‹_› | exact l_f ‹_› ‹_› | exact b_2 ‹_› ‹_› | exact u_1 _ | exact u_2 _ | (apply Nat.lt_trans; assumption; assumption; done) | (apply Nat.lt_of_lt_of_le; assumption; assumption; done) | (apply Nat.lt_of_le_of_lt; assumption; assumption; done) | (apply Nat.le_trans; assumption; assumption; done) | ((fail_if_success (fail_if_success omega (config := {}))); (first | with_reducible assumption | decide | lia | omega (config := {})))))) (hp.ne (by (first | exact u_lt ‹_› | exact u_n ‹_› | exact p_lt ‹_› | exact p_ne ‹_› | exact p_nf ‹_› | exact p_l ‹_› | exact b_1 ‹_› | exact Nat.ne_of_gt ‹_› | exact Nat.ne_of_lt ‹_› | exact u_ne ‹_› ‹_› | exact u_nf ‹_› ‹_› | exact u_ab ‹_› ‹_› | exact p_n ‹_› ‹_› | exact p_k ‹_› ‹_› | exact l_e ‹_› ‹_› | exact l_f ‹_› ‹_› | exact b_2 ‹_› ‹_› | exact u_1 _ | exact u_2 _ | (apply Nat.lt_trans; assumption; assumption; done) | (apply Nat.lt_of_lt_of_le; assumption; assumption; done) | (apply Nat.lt_of_le_of_lt; assumption; assumption; done) | (apply Nat.le_trans; assumption; assumption; done) | ((fail_if_success (fail_if_success omega (config := {}))); (first | with_reducible assumption | decide | lia | omega (config := {}))))) (by (first | exact u_lt ‹_› | exact u_n ‹_› | exact p_lt ‹_› | exact p_ne ‹_› | exact p_nf ‹_› | exact p_l ‹_› | exact b_1 ‹_› | exact Nat.ne_of_gt ‹_› | exact Nat.ne_of_lt ‹_› | exact u_ne ‹_› ‹_› | exact u_nf ‹_› ‹_› | exact u_ab ‹_› ‹_› | exact p_n ‹_› ‹_› | exact p_k ‹_› ‹_› | exact l_e ‹_› ‹_› | exact l_f ‹_› ‹_› | exact b_2 ‹_› ‹_› | exact u_1 _ | exact u_2 _ | (apply Nat.lt_trans; assumption; assumption; done) | (apply Nat.lt_of_lt_of_le; assumption; assumption; done) | (apply Nat.lt_of_le_of_lt; assumption; assumption; done) | (apply Nat.le_trans; assumption; assumption; done) | ((fail_if_success (fail_if_success omega (config := {}))); (first | with_reducible assumption | decide | lia | omega (config := {}))))) (by (first | exact u_lt ‹_› | exact u_n ‹_› | exact p_lt ‹_› | exact p_ne ‹_› | exact p_nf ‹_› | exact p_l ‹_› | exact b_1 ‹_› | exact Nat.ne_of_gt ‹_› | exact Nat.ne_of_lt ‹_› | exact u_ne ‹_› ‹_› | exact u_nf ‹_› ‹_› | exact u_ab ‹_› ‹_› | exact p_n ‹_› ‹_› | exact p_k ‹_› ‹_› | exact l_e ‹_› ‹_› | exact l_f ‹_› ‹_› | exact b_2 ‹_› ‹_› | exact u_1 _ | exact u_2 _ | (apply Nat.lt_trans; assumption; assumption; done) | (apply Nat.lt_of_lt_of_le; assumption; assumption; done) | (apply Nat.lt_of_le_of_lt; assumption; assumption; done) | (apply Nat.le_trans; assumption; assumption; done) | ((fail_if_success (fail_if_success omega (config := {}))); (first | with_reducible assumption | decide | lia | omega (config := {})))))) hi fun s' hi' => ?_
    cases hb : lt (gp p m) (gp p (m - 1)) with
    | true =>
      refine kas_y (kas_n (by (first | exact u_lt ‹_› | exact u_n ‹_› | exact p_lt ‹_› | exact p_ne ‹_› | exact p_nf ‹_› | exact p_l ‹_› | exact b_1 ‹_› | exact Nat.ne_of_gt ‹_› | exact Nat.ne_of_lt ‹_› | exact u_ne ‹_› ‹_› | exact u_nf ‹_› ‹_› | exact u_ab ‹_› ‹_› | exact p_n ‹_› ‹_› | exact p_k ‹_› ‹_› | exact l_e ‹_› ‹_› | exact l_f ‹_› ‹_› | exact b_2 ‹_› ‹_› | exact u_1 _ | exact u_2 _ | (apply Nat.lt_trans; assumption; assumption; done) | (apply Nat.lt_of_lt_of_le; assumption; assumption; done) | (apply Nat.lt_of_le_of_lt; assumption; assumption; done) | (apply Nat.le_trans; assumption; assumption; done) | ((fail_if_success (fail_if_success omega (config := {}))); (first | with_reducible assumption | decide | lia | omega (config := {}))))) ?_)
      refine kas_desc_ok O hc hp f (m + 1) s' (by (first | exact u_lt ‹_› | exact u_n ‹_› | exact p_lt ‹_› | exact p_ne ‹_› | exact p_nf ‹_› | exact p_l ‹_› | exact b_1 ‹_› | exact Nat.ne_of_gt ‹_› | exact Nat.ne_of_lt ‹_› | exact u_ne ‹_› ‹_› | exact u_nf ‹_› ‹_› | exact u_ab ‹_› ‹_› | exact p_n ‹_› ‹_› | exact p_k ‹_› ‹_› | exact l_e ‹_› ‹_› | exact l_f ‹_› ‹_› | exact b_2 ‹_› ‹_› | exact u_1 _ | exact u_2 _ | (apply Nat.lt_trans; assumption; assumption; done) | (apply Nat.lt_of_lt_of_le; assumption; assumption; done) | (apply Nat.lt_of_le_of_lt; assumption; assumption; done) | (apply Nat.le_trans; assumption; assumption; done) | ((fail_if_success (fail_if_success omega (config := {}))); (first | with_reducible assumption | decide | lia | omega (config := {}))))) (by (first | exact u_lt ‹_› | exact u_n ‹_› | exact p_lt ‹_› | exact p_ne ‹_› | exact p_nf ‹_› | exact p_l ‹_› | exact b_1 ‹_› | exact Nat.ne_of_gt ‹_› | exact Nat.ne_of_lt ‹_› | exact u_ne ‹_› ‹_› | exact u_nf ‹_› ‹_› | exact u_ab ‹_› ‹_› | exact p_n ‹_› ‹_› | exact p_k ‹_› ‹_› | exact l_e ‹_› ‹_› | exact l_f ‹_› ‹_› | exact b_2 ‹_› ‹_› | exact u_1 _ | exact u_2 _ | (apply Nat.lt_trans; assumption; assumption; done) | (apply Nat.lt_of_lt_of_le; assumption; assumption; done) | (apply Nat.lt_of_le_of_lt; assumption; assumption; done) | (apply Nat.le_trans; assumption; assumption; done) | ((fail_if_success (fail_if_success omega (config := {}))); (first | with_reducible assumption | decide | lia | omega (config := {}))))) hi' (fun i j h h' => ?_) fun m' s'' i1 i2 i3 i4 => k m' s'' i1 (by (first | exact u_lt ‹_› | exact u_n ‹_› | exact p_lt ‹_› | exact p_ne ‹_› | exact p_nf ‹_› | exact p_l ‹_› | exact b_1 ‹_› | exact Nat.ne_of_gt ‹_› | exact Nat.ne_of_lt ‹_› | exact u_ne ‹_› ‹_› | exact u_nf ‹_› ‹_› | exact u_ab ‹_› ‹_› | exact p_n ‹_› ‹_› | exact p_k ‹_› ‹_› | exact l_e ‹_› ‹_› | exact l_f ‹_› ‹_› | exact b_2 ‹_› ‹_› | exact u_1 _ | exact u_2 _ | (apply Nat.lt_trans; assumption; assumption; done) | (apply Nat.lt_of_lt_of_le; assumption; assumption; done) | (apply Nat.lt_of_le_of_lt; assumption; assumption; done) | (apply Nat.le_trans; assumption; assumption; done) | ((fail_if_success (fail_if_success omega (config := {}))); (first | with_reducible assumption | decide | lia | omega (config := {}))))) (by (first | exact u_lt ‹_› | exact u_n ‹_› | exact p_lt ‹_› | exact p_ne ‹_› | exact p_nf ‹_› | exact p_l ‹_› | exact b_1 ‹_› | exact Nat.ne_of_gt ‹_› | exact Nat.ne_of_lt ‹_› | exact u_ne ‹_› ‹_› | exact u_nf ‹_› ‹_› | exact u_ab ‹_› ‹_› | exact p_n ‹_› ‹_› | exact p_k ‹_› ‹_› | exact l_e ‹_› ‹_› | exact l_f ‹_› ‹_› | exact b_2 ‹_› ‹_› | exact u_1 _ | exact u_2 _ | (apply Nat.lt_trans; assumption; assumption; done) | (apply Nat.lt_of_lt_of_le; assumption; assumption; done) | (apply Nat.lt_of_le_of_lt; assumption; assumption; done) | (apply Nat.le_trans; assumption; assumption; done) | ((fail_if_success (fail_if_success omega (config := {}))); (first | with_reducible assumption | decide | lia | omega (config := {}))))) i4
      rcases Nat.lt_or_ge j m with hj | hj
      · exact hs i j h hj
      · have : j = m := by (first | exact u_lt ‹_› | exact u_n ‹_› | exact p_lt ‹_› | exact p_ne ‹_› | exact p_nf ‹_› | exact p_l ‹_› | exact b_1 ‹_› | exact Nat.ne_of_gt ‹_› | exact Nat.ne_of_lt ‹_› | exact u_ne ‹_› ‹_› | exact u_nf ‹_› ‹_› | exact u_ab ‹_› ‹_› | exact p_n ‹_› ‹_› | exact p_k ‹_› ‹_› | exact l_e ‹_› ‹_› | exact l_f ‹_› ‹_› | exact b_2 ‹_› ‹_› | exact u_1 _ | exact u_2 _ | (apply Nat.lt_trans; assumption; assumption; done) | (apply Nat.lt_of_lt_of_le; assumption; assumption; done) | (apply Nat.lt_of_le_of_lt; assumption; assumption; done) | (apply Nat.le_trans; assumption; assumption; done) | ((fail_if_success (fail_if_success omega (config := {}))); (first | with_reducible assumption | decide | lia | omega (config := {}))))
        subst this
        rcases Nat.lt_or_ge i (j - 1) with c | c
        · exact O.trans _ _ _ (hp.ltn (by (first | exact u_lt ‹_› | exact u_n ‹_› | exact p_lt ‹_› | exact p_ne ‹_› | exact p_nf ‹_› | exact p_l ‹_› | exact b_1 ‹_› | exact Nat.ne_of_gt ‹_› | exact Nat.ne_of_lt ‹_› | exact u_ne ‹_› ‹_› | exact u_nf ‹_› ‹_› | exact u_ab ‹_› ‹_› | exact p_n ‹_› ‹_› | exact p_k ‹_› ‹_› | exact l_e ‹_› ‹_› | exact l_f ‹_› ‹_› | exact b_2 ‹_› ‹_› | exact u_1 _ | exact u_2 _ | (apply Nat.lt_trans; assumption; assumption; done) | (apply Nat.lt_of_lt_of_le; assumption; assumption; done) | (apply Nat.lt_of_le_of_lt; assumption; assumption; done) | (apply Nat.le_trans; assumption; assumption; done) | ((fail_if_success (fail_if_success omega (config := {}))); (first | with_reducible assumption | decide | lia | omega (config := {})))))) (hp.ltn (by (first | exact u_lt ‹_› | exact u_n ‹_› | exact p_lt ‹_› | exact p_ne ‹_› | exact p_nf ‹_› | exact p_l ‹_› | exact b_1 ‹_› | exact Nat.ne_of_gt ‹_› | exact Nat.ne_of_lt ‹_› | exact u_ne ‹_› ‹_› | exact u_nf ‹_› ‹_› | exact u_ab ‹_› ‹_› | exact p_n ‹_› ‹_› | exact p_k ‹_› ‹_› | exact l_e ‹_› ‹_› | exact l_f ‹_› ‹_› | exact b_2 ‹_› ‹_› | exact u_1 _ | exact u_2 _ | (apply Nat.lt_trans; assumption; assumption; done) | (apply Nat.lt_of_lt_of_le; assumption; assumption; done) | (apply Nat.lt_of_le_of_lt; assumption; assumption; done) | (apply Nat.le_trans; assumption; assumption; done) | ((fail_if_success (fail_if_success omega (config := {}))); (first | with_reducible assumption | decide | lia | omega (config := {})))))) (hp.ltn (by (first | exact u_lt ‹_› | exact u_n ‹_› | exact p_lt ‹_› | exact p_ne ‹_› | exact p_nf ‹_› | exact p_l ‹_› | exact b_1 ‹_› | exact Nat.ne_of_gt ‹_› | exact Nat.ne_of_lt ‹_› | exact u_ne ‹_› ‹_› | exact u_nf ‹_› ‹_› | exact u_ab ‹_› ‹_› | exact p_n ‹_› ‹_› | exact p_k ‹_› ‹_› | exact l_e ‹_› ‹_› | exact l_f ‹_› ‹_› | exact b_2 ‹_› ‹_› | exact u_1 _ | exact u_2 _ | (apply Nat.lt_trans; assumption; assumption; done) | (apply Nat.lt_of_lt_of_le; assumption; assumption; done) | (apply Nat.lt_of_le_of_lt; assumption; assumption; done) | (apply Nat.le_trans; assumption; assumption; done) | ((fail_if_success (fail_if_success omega (config := {}))); (first | with_reducible assumption | decide | lia | omega (config := {})))))) hb (hs i (j - 1) c (by (first | exact u_lt ‹_› | exact u_n ‹_› | exact p_lt ‹_› | exact p_ne ‹_› | exact p_nf ‹_› | exact p_l ‹_› | exact b_1 ‹_› | exact Nat.ne_of_gt ‹_› | exact Nat.ne_of_lt ‹_› | exact u_ne ‹_› ‹_› | exact u_nf ‹_› ‹_› | exact u_ab ‹_› ‹_› | exact p_n ‹_› ‹_› | exact p_k ‹_› ‹_› | exact l_e ‹_› ‹_› | exact l_f ‹_› ‹_› | exact b_2 ‹_› ‹_› | exact u_1 _ | exact u_2 _ | (apply Nat.lt_trans; assumption; assumption; done) | (apply Nat.lt_of_lt_of_le; assumption; assumption; done) | (apply Nat.lt_of_le_of_lt; assumption; assumption; done) | (apply Nat.le_trans; assumption; assumption; done) | ((fail_if_success (fail_if_success omega (config := {}))); (first | with_reducible assumption | decide | lia | omega (config := {}))))))
        · have : i = j - 1 := by (first | exact u_lt ‹_› | exact u_n ‹_› | exact p_lt ‹_› | exact p_ne ‹_› | exact p_nf ‹_› | exact p_l ‹_› | exact b_1 ‹_› | exact Nat.ne_of_gt ‹_› | exact Nat.ne_of_lt ‹_› | exact u_ne ‹_› ‹_› | exact u_nf ‹_› ‹_› | exact u_ab ‹_› ‹_› | exact p_n ‹_› ‹_› | exact p_k ‹_› ‹_› | exact l_e ‹_› ‹_› | exact l_f ‹_› ‹_› | exact b_2 ‹_› ‹_› | exact u_1 _ | exact u_2 _ | (apply Nat.lt_trans; assumption; assumption; done) | (apply Nat.lt_of_lt_of_le; assumption; assumption; done) | (apply Nat.lt_of_le_of_lt; assumption; assumption; done) | (apply Nat.le_trans; assumption; assumption; done) | ((fail_if_success (fail_if_success omega (config := {}))); (first | with_reducible assumption | decide | lia | omega (config := {}))))
          subst this
          exact hb
    | false =>
      refine kas_n (by simp) ?_
      have hb' := O.tot _ _ (hp.ltn (by (first | exact u_lt ‹_› | exact u_n ‹_› | exact p_lt ‹_› | exact p_ne ‹_› | exact p_nf ‹_› | exact p_l ‹_› | exact b_1 ‹_› | exact Nat.ne_of_gt ‹_› | exact Nat.ne_of_lt ‹_› | exact u_ne ‹_› ‹_› | exact u_nf ‹_› ‹_› | exact u_ab ‹_› ‹_› | exact p_n ‹_› ‹_› | exact p_k ‹_› ‹_› | exact l_e ‹_› ‹_› | exact l_f ‹_› ‹_› | exact b_2 ‹_› ‹_› | exact u_1 _ | exact u_2 _ | (apply Nat.lt_trans; assumption; assumption; done) | (apply Nat.lt_of_lt_of_le; assumption; assumption; done) | (apply Nat.lt_of_le_of_lt; assumption; assumption; done) | (apply Nat.le_trans; assumption; assumption; done) | ((fail_if_success (fail_if_success omega (config := {}))); (first | with_reducible assumption | decide | lia | omega (config := {})))))) (hp.ltn (by (first | exact u_lt ‹_› | exact u_n ‹_› | exact p_lt ‹_› | exact p_ne ‹_› | exact p_nf ‹_› | exact p_l ‹_› | exact b_1 ‹_› | exact Nat.ne_of_gt ‹_› | exact Nat.ne_of_lt ‹_› | exact u_ne ‹_› ‹_› | exact u_nf ‹_› ‹_› | exact u_ab ‹_› ‹_› | exact p_n ‹_› ‹_› | exact p_k ‹_› ‹_› | exact l_e ‹_› ‹_› | exact l_f ‹_› ‹_› | exact b_2 ‹_› ‹_› | exact u_1 _ | exact u_2 _ | (apply Nat.lt_trans; assumption; assumption; done) | (apply Nat.lt_of_lt_of_le; assumption; assumption; done) | (apply Nat.lt_of_le_of_lt; assumption; assumption; done) | (apply Nat.le_trans; assumption; assumption; done) | ((fail_if_success (fail_if_success omega (config := {}))); (first | with_reducible assumption | decide | lia | omega (config := {})))))) (hp.ne (by (first | exact u_lt ‹_› | exact u_n ‹_› | exact p_lt ‹_› | exact p_ne ‹_› | exact p_nf ‹_› | exact p_l ‹_› | exact b_1 ‹_› | exact Nat.ne_of_gt ‹_› | exact Nat.ne_of_lt ‹_› | exact u_ne ‹_› ‹_› | exact u_nf ‹_› ‹_› | exact u_ab ‹_› ‹_› | exact p_n ‹_› ‹_› | exact p_k ‹_› ‹_› | exact l_e ‹_› ‹_› | exact l_f ‹_› ‹_› | exact b_2 ‹_› ‹_› | exact u_1 _ | exact u_2 _ | (apply Nat.lt_trans; assumption; assumption; done) | (apply Nat.lt_of_lt_of_le; assumption; assumption; done) | (apply Nat.lt_of_le_of_lt; assumption; assumption; done) | (apply Nat.le_trans; assumption; assumption; done) | ((fail_if_success (fail_if_success omega (config := {}))); (first | with_reducible assumption | decide | lia | omega (config := {}))))) (by (first | exact u_lt ‹_› | exact u_n ‹_› | exact p_lt ‹_› | exact p_ne ‹_› | exact p_nf ‹_› | exact p_l ‹_› | exact b_1 ‹_› | exact Nat.ne_of_gt ‹_› | exact Nat.ne_of_lt ‹_› | exact u_ne ‹_› ‹_› | exact u_nf ‹_› ‹_› | exact u_ab ‹_› ‹_› | exact p_n ‹_› ‹_› | exact p_k ‹_› ‹_› | exact l_e ‹_› ‹_› | exact l_f ‹_› ‹_› | exact b_2 ‹_› ‹_› | exact u_1 _ | exact u_2 _ | (apply Nat.lt_trans; assumption; assumption; done) | (apply Nat.lt_of_lt_of_le; assumption; assumption; done) | (apply Nat.lt_of_le_of_lt; assumption; assumption; done) | (apply Nat.le_trans; assumption; assumption; done) | ((fail_if_success (fail_if_success omega (config := {}))); (first | with_reducible assumption | decide | lia | omega (config := {}))))) (by (first | exact u_lt ‹_› | exact u_n ‹_› | exact p_lt ‹_› | exact p_ne ‹_› | exact p_nf ‹_› | exact p_l ‹_› | exact b_1 ‹_› | exact Nat.ne_of_gt ‹_› | exact Nat.ne_of_lt ‹_› | exact u_ne ‹_› ‹_› | exact u_nf ‹_› ‹_› | exact u_ab ‹_› ‹_› | exact p_n ‹_› ‹_› | exact p_k ‹_› ‹_› | exact l_e ‹_› ‹_› | exact l_f ‹_› ‹_› | exact b_2 ‹_› ‹_› | exact u_1 _ | exact u_2 _ | (apply Nat.lt_trans; assumption; assumption; done) | (apply Nat.lt_of_lt_of_le; assumption; assumption; done) | (apply Nat.lt_of_le_of_lt; assumption; assumption; done) | (apply Nat.le_trans; assumption; assumption; done) | ((fail_if_success (fail_if_success omega (config := {}))); (first | with_reducible assumption | decide | lia | omega (config := {})))))) hb
      refine hc _ _ _ _ (hp.ltn (by (first | exact u_lt ‹_› | exact u_n ‹_› | exact p_lt ‹_› | exact p_ne ‹_› | exact p_nf ‹_› | exact p_l ‹_› | exact b_1 ‹_› | exact Nat.ne_of_gt ‹_› | exact Nat.ne_of_lt ‹_› | exact u_ne ‹_› ‹_› | exact u_nf ‹_› ‹_› | exact u_ab ‹_› ‹_› | exact p_n ‹_› ‹_› | exact p_k ‹_› ‹_› | exact l_e ‹_› ‹_› | exact l_f ‹_› ‹_› | exact b_2 ‹_› ‹_› | exact u_1 _ | exact u_2 _ | (apply Nat.lt_trans; assumption; assumption; done) | (apply Nat.lt_of_lt_of_le; assumption; assumption; done) | (apply Nat.lt_of_le_of_lt; assumption; assumption; done) | (apply Nat.le_trans; assumption; assumption; done) | ((fail_if_success (fail_if_success omega (config := {}))); (first | with_reducible assumption | decide | lia | omega (config := {})))))) (hp.ltn (by (first | exact u_lt ‹_› | exact u_n ‹_› | exact p_lt ‹_› | exact p_ne ‹_› | exact p_nf ‹_› | exact p_l ‹_› | exact b_1 ‹_› | exact Nat.ne_of_gt ‹_› | exact Nat.ne_of_lt ‹_› | exact u_ne ‹_› ‹_› | exact u_nf ‹_› ‹_› | exact u_ab ‹_› ‹_› | exact p_n ‹_› ‹_› | exact p_k ‹_› ‹_› | exact l_e ‹_› ‹_› | exact l_f ‹_› ‹_› | exact b_2 ‹_› ‹_› | exact u_1 _ | exact u_2 _ | (apply Nat.lt_trans; assumption; assumption; done) | (apply Nat.lt_of_lt_of_le; assumption; assumption; done) | (apply Nat.lt_of_le_of_lt; assumption; assumption; done) | (apply Nat.le_trans; assumption; assumption; done) | ((fail_if_success (fail_if_success omega (config := {}))); (first | with_reducible assumption | decide | lia | omega (config := {})))))) (hp.ne (by (first | exact u_lt ‹_› | exact u_n ‹_› | exact p_lt ‹_› | exact p_ne ‹_› | exact p_nf ‹_› | exact p_l ‹_› | exact b_1 ‹_› | exact Nat.ne_of_gt ‹_› | exact Nat.ne_of_lt ‹_› | exact u_ne ‹_› ‹_› | exact u_nf ‹_› ‹_› | exact u_ab ‹_› ‹_› | exact p_n ‹_› ‹_› | exact p_k ‹_› ‹_› | exact l_e ‹_› ‹_› | exact l_f ‹_› ‹_› | exact b_2 ‹_› ‹_› | exact u_1 _ | exact u_2 _ | (apply Nat.lt_trans; assumption; assumption; done) | (apply Nat.lt_of_lt_of_le; assumption; assumption; done) | (apply Nat.lt_of_le_of_lt; assumption; assumption; done) | (apply Nat.le_trans; assumption; assumption; done) | ((fail_if_success (fail_if_success omega (config := {}))); (first | with_reducible assumption | decide | lia | omega (config := {}))))) (by (first | exact u_lt ‹_› | exact u_n ‹_› | exact p_lt ‹_› | exact p_ne ‹_› | exact p_nf ‹_› | exact p_l ‹_› | exact b_1 ‹_› | exact Nat.ne_of_gt ‹_› | exact Nat.ne_of_lt ‹_› | exact u_ne ‹_› ‹_› | exact u_nf ‹_› ‹_› | exact u_ab ‹_› ‹_› | exact p_n ‹_› ‹_› | exact p_k ‹_› ‹_› | exact l_e ‹_› ‹_› | exact l_f ‹_› ‹_› | exact b_2 ‹_› ‹_› | exact u_1 _ | exact u_2 _ | (apply Nat.lt_trans; assumption; assumption; done) | (apply Nat.lt_of_lt_of_le; assumption; assumption; done) | (apply Nat.lt_of_le_of_lt; assumption; assumption; done) | (apply Nat.le_trans; assumption; assumption; done) | ((fail_if_success (fail_if_success omega (config := {}))); (first | with_reducible assumption | decide | lia | omega (config := {}))))) (by (first | exact u_lt ‹_› | exact u_n ‹_› | exact p_lt ‹_› | exact p_ne ‹_› | exact p_nf ‹_› | exact p_l ‹_› | exact b_1 ‹_› | exact Nat.ne_of_gt ‹_› | exact Nat.ne_of_lt ‹_› | exact u_ne ‹_› ‹_› | exact u_nf ‹_› ‹_› | exact u_ab ‹_› ‹_› | exact p_n ‹_› ‹_› | exact p_k ‹_› ‹_› | exact l_e ‹_› ‹_› | exact l_f ‹_› ‹_› | exact b_2 ‹_› ‹_› | exact u_1 _ | exact u_2 _ | (apply Nat.lt_trans; assumption; assumption; done) | (apply Nat.lt_of_lt_of_le; assumption; assumption; done) | (apply Nat.lt_of_le_of_lt; assumption; assumption; done) | (apply Nat.le_trans; assumption; assumption; done) | ((fail_if_success (fail_if_success omega (config := {}))); (first | with_reducible assumption | decide | lia | omega (config := {})))))) hi' fun s'' hi'' => ?_
      have hb2 : lt (p.getD (m - 1) 0) (p.getD m 0) = true := hb'
      rw [hb2]
      refine kas_y ?_
      exact k m s'' hi'' (Nat.le_refl _) (by (first | exact u_lt ‹_› | exact u_n ‹_› | exact p_lt ‹_› | exact p_ne ‹_› | exact p_nf ‹_› | exact p_l ‹_› | exact b_1 ‹_› | exact Nat.ne_of_gt ‹_› | exact Nat.ne_of_lt ‹_› | exact u_ne ‹_› ‹_› | exact u_nf ‹_› ‹_› | exact u_ab ‹_› ‹_› | exact p_n ‹_› ‹_› | exact p_k ‹_› ‹_› | exact l_e ‹_› ‹_› | exact l_f ‹_› ‹_› | exact b_2 ‹_› ‹_› | exact u_1 _ | exact u_2 _ | (apply Nat.lt_trans; assumption; assumption; done) | (apply Nat.lt_of_lt_of_le; assumption; assumption; done) | (apply Nat.lt_of_le_of_lt; assumption; assumption; done) | (apply Nat.le_trans; assumption; assumption; done) | ((fail_if_success (fail_if_success omega (config := {}))); (first | with_reducible assumption | decide | lia | omega (config := {}))))) hs
theorem rev_gp {p : Array Nat} {m k : Nat} (hm : m ≤ p.size) : gp (kas_rev p 0 m) k = if k < m then gp p (m - 1 - k) else gp p k := by
  have e := getElem?_mirror_all (i := 0) hm k
  by_cases h : k < m
  · rw [if_pos h]
    rw [if_pos ⟨Nat.zero_le _, h⟩, Nat.zero_add] at e
    exact gp_eq e
  · rw [if_neg h]
    rw [if_neg (fun c => h c.2)] at e
    exact gp_eq e
theorem kas_count_ok (O : StrictO lt n) (h1 : 1 ≤ n) (hc : ∀ i j K s, i < n → j < n → i ≠ j → Inv s → (∀ s', Inv s' → K (lt i j) s') → cmp i j K s) {p : Array Nat} (hp : PermN n p) {Q : Nat × Array Nat → Shared → Prop} {s : Shared} (hi : Inv s)
    (k : ∀ m q s', Inv s' → 1 ≤ m → m ≤ n → PermN n q → SortedN lt q m → Q (m, q) s') : (kas_count n p).kasWp cmp Q s := by
  unfold kas_count
  rw [KasT.kasWp_bind]
  have en : 1 + (n - 1) = n := Nat.add_sub_cancel' h1
  refine kas_asc_ok O hc hp _ 1 s (Nat.le_refl _) (Nat.le_of_eq en) hi (fun i j h h' => absurd (Nat.lt_of_lt_of_le h (Nat.le_of_lt_succ h')) (Nat.not_lt_zero _)) fun m s' hi' m1 m2 hs hl => ?_
  replace m2 : m ≤ n := Nat.le_trans m2 (Nat.le_of_eq en)
  split
  · exact k m p s' hi' m1 m2 hp hs
  · rename_i hne
    have hne' : m ≠ n := by simpa using hne
    clear hne en
    split
    · rename_i hm
      have f2 : m - 1 < n := p_n m1 m2
      have f3 : 0 < m - 1 := Nat.sub_pos_of_lt hm
      have f4 : ¬ 0 = m - 1 := Nat.ne_of_lt f3
      refine hc _ _ _ _ (hp.ltn (by (first | exact u_lt ‹_› | exact u_n ‹_› | exact p_lt ‹_› | exact p_ne ‹_› | exact p_nf ‹_› | exact p_l ‹_› | exact b_1 ‹_› | exact Nat.ne_of_gt ‹_› | exact Nat.ne_of_lt ‹_› | exact u_ne ‹_› ‹_› | exact u_nf ‹_› ‹_› | exact u_ab ‹_› ‹_› | exact p_n ‹_› ‹_› | exact p_k ‹_› ‹_› | exact l_e ‹_› ‹_› | exact l_f ‹_› ‹_› | exact b_2 ‹_› ‹_› | exact u_1 _ | exact u_2 _ | (apply Nat.lt_trans; assumption; assumption; done) | (apply Nat.lt_of_lt_of_le; assumption; assumption; done) | (apply Nat.lt_of_le_of_lt; assumption; assumption; done) | (apply Nat.le_trans; assumption; assumption; done) | ((fail_if_success (fail_if_success omega (config := {}))); (first | with_reducible assumption | decide | lia | omega (config := {})))))) (hp.ltn (by (first | exact u_lt ‹_› | exact u_n ‹_› | exact p_lt ‹_› | exact p_ne ‹_› | exact p_nf ‹_› | exact p_l ‹_› | exact b_1 ‹_› | exact Nat.ne_of_gt ‹_› | exact Nat.ne_of_lt ‹_› | exact u_ne ‹_› ‹_› | exact u_nf ‹_› ‹_› | exact u_ab ‹_› ‹_› | exact p_n ‹_› ‹_› | exact p_k ‹_› ‹_› | exact l_e ‹_› ‹_› | exact l_f ‹_› ‹_› | exact b_2 ‹_› ‹_› | exact u_1 _ | exact u_2 _ | (apply Nat.lt_trans; assumption; assumption; done) | (apply Nat.lt_of_lt_of_le; assumption; assumption; done) | (apply Nat.lt_of_le_of_lt; assumption; assumption; done) | (apply Nat.le_trans; assumption; assumption; done) | ((fail_if_success (fail_if_success omega (config := {}))); (first | with_reducible assumption | decide | lia | omega (config := {})))))) (hp.ne (by (first | exact u_lt ‹_› | exact u_n ‹_› | exact p_lt ‹_› | exact p_ne ‹_› | exact p_nf ‹_› | exact p_l ‹_› | exact b_1 ‹_› | exact Nat.ne_of_gt ‹_› | exact Nat.ne_of_lt ‹_› | exact u_ne ‹_› ‹_› | exact u_nf ‹_› ‹_› | exact u_ab ‹_› ‹_› | exact p_n ‹_› ‹_› | exact p_k ‹_› ‹_› | exact l_e ‹_› ‹_› | exact l_f ‹_› ‹_› | exact b_2 ‹_› ‹_› | exact u_1 _ | exact u_2 _ | (apply Nat.lt_trans; assumption; assumption; done) | (apply Nat.lt_of_lt_of_le; assumption; assumption; done) | (apply Nat.lt_of_le_of_lt; assumption; assumption; done) | (apply Nat.le_trans; assumption; assumption; done) | ((fail_if_success (fail_if_success omega (config := {}))); (first | with_reducible assumption | decide | lia | omega (config := {}))))) (by (first | exact u_lt ‹_› | exact u_n ‹_› | exact p_lt ‹_› | exact p_ne ‹_› | exact p_nf ‹_› | exact p_l ‹_› | exact b_1 ‹_› | exact Nat.ne_of_gt ‹_› | exact Nat.ne_of_lt ‹_› | exact u_ne ‹_› ‹_› | exact u_nf ‹_› ‹_› | exact u_ab ‹_› ‹_› | exact p_n ‹_› ‹_› | exact p_k ‹_› ‹_› | exact l_e ‹_› ‹_› | exact l_f ‹_› ‹_› | exact b_2 ‹_› ‹_› | exact u_1 _ | exact u_2 _ | (apply Nat.lt_trans; assumption; assumption; done) | (apply Nat.lt_of_lt_of_le; assumption; assumption; done) | (apply Nat.lt_of_le_of_lt; assumption; assumption; done) | (apply Nat.le_trans; assumption; assumption; done) | ((fail_if_success (fail_if_success omega (config := {}))); (first | with_reducible assumption | decide | lia | omega (config := {}))))) (by (first | exact u_lt ‹_› | exact u_n ‹_› | exact p_lt ‹_› | exact p_ne ‹_› | exact p_nf ‹_› | exact p_l ‹_› | exact b_1 ‹_› | exact Nat.ne_of_gt ‹_› | exact Nat.ne_of_lt ‹_› | exact u_ne ‹_› ‹_› | exact u_nf ‹_› ‹_› | exact u_ab ‹_› ‹_› | exact p_n ‹_› ‹_› | exact p_k ‹_› ‹_› | exact l_e ‹_› ‹_› | exact l_f ‹_› ‹_› | exact b_2 ‹_› ‹_› | exact u_1 _ | exact u_2 _ | (apply Nat.lt_trans; assumption; assumption; done) | (apply Nat.lt_of_lt_of_le; assumption; assumption; done) | (apply Nat.lt_of_le_of_lt; assumption; assumption; done) | (apply Nat.le_trans; assumption; assumption; done) | ((fail_if_success (fail_if_success omega (config := {}))); (first | with_reducible assumption | decide | lia | omega (config := {})))))) hi' fun s'' hi'' => ?_
      have hb2 : lt (p.getD 0 0) (p.getD (m - 1) 0) = true := hs 0 (m - 1) f3 (p_lt m1)
      rw [hb2]
      refine kas_y ?_
      exact k m p s'' hi'' m1 m2 hp hs
    · rename_i hm0
      have hm : m = 1 := Nat.le_antisymm (Nat.not_lt.mp hm0) m1
      subst hm
      have n2 : 2 ≤ n := Nat.lt_of_le_of_ne h1 hne'
      have e2 : 2 + (n - 2) = n := Nat.add_sub_cancel' n2
      clear hm0 m1 m2 hne'
      unfold kas_descPart
      rw [KasT.kasWp_bind]
      refine kas_desc_ok O hc hp _ 2 s' (Nat.le_succ 1) (Nat.le_of_eq e2) hi' (fun i j h h' => ?_) fun m2 s2 hi2 a1 a2 a3 => ?_
      · have e1 : j = 1 := Nat.le_antisymm (Nat.le_of_lt_succ h') (Nat.succ_le_of_lt (Nat.lt_of_le_of_lt (Nat.zero_le _) h))
        subst e1
        have e2 : i = 0 := Nat.le_antisymm (Nat.le_of_lt_succ h) (Nat.zero_le _)
        subst e2
        exact hl (Nat.lt_of_lt_of_eq n2 (Nat.add_sub_cancel' h1).symm)
      · refine kas_n (show ¬ (0 > 0) from Nat.lt_irrefl 0) ?_
        dsimp only
        unfold kas_tail3
        rw [KasT.kasWp_bind]
        have hr : PermN n (kas_rev p 0 m2) := hp.of (mirror_perm _ _ _ _)
        replace a2 : m2 ≤ n := Nat.le_trans a2 (Nat.le_of_eq e2)
        have a4 : m2 ≤ p.size := Nat.le_trans a2 (Nat.le_of_eq hp.size.symm)
        have e3 : m2 + (n - m2) = n := Nat.add_sub_cancel' a2
        have a5 : 1 ≤ m2 := Nat.le_of_lt a1
        clear e2
        refine kas_asc_ok O hc hr _ m2 s2 a5 (Nat.le_of_eq e3) hi2 (fun i j h h' => ?_) fun m3 s3 hi3 b1 b2 b3 _ => ?_
        · have h2 := Nat.lt_trans h h'
          rw [rev_gp a4, rev_gp a4, if_pos h2, if_pos h']
          exact a3 (m2 - 1 - j) (m2 - 1 - i) (Nat.sub_lt_sub_left (Nat.lt_of_lt_of_le h (Nat.le_sub_one_of_lt h')) h) (Nat.lt_of_le_of_lt (Nat.sub_le _ _) (p_lt a5))
        · exact k m3 _ s3 hi3 (Nat.le_trans a5 b1) (Nat.le_trans b2 (Nat.le_of_eq e3)) hr b3
theorem kas_place_ok (O : StrictO lt n) (hc : ∀ i j K s, i < n → j < n → i ≠ j → Inv s → (∀ s', Inv s' → K (lt i j) s') → cmp i j K s) {p : Array Nat} (hp : PermN n p) {k : Nat} (hk : k < n) (hs : SortedN lt p k) {Q : Nat → Shared → Prop}
    (c : ∀ l s', Inv s' → l ≤ k → (∀ i, i < l → lt (gp p i) (gp p k) = true) → (∀ i, l ≤ i → i < k → lt (gp p k) (gp p i) = true) → Q l s') :
    ∀ f l r s, l ≤ r → r ≤ k → r ≤ l + f → Inv s → (∀ i, i < l → lt (gp p i) (gp p k) = true) → (∀ i, r ≤ i → i < k → lt (gp p k) (gp p i) = true) → (kas_place p k f l r).kasWp cmp Q s
  | 0, l, r, s, h1, h2, h3, hi, a, b => c l s hi (by (first | exact u_lt ‹_› | exact u_n ‹_› | exact p_lt ‹_› | exact p_ne ‹_› | exact p_nf ‹_› | exact p_l ‹_› | exact b_1 ‹_› | exact Nat.ne_of_gt ‹_› | exact Nat.ne_of_lt ‹_› | exact u_ne ‹_› ‹_› | exact u_nf ‹_› ‹_› | exact u_ab ‹_› ‹_› | exact p_n ‹_› ‹_› | exact p_k ‹_› ‹_› | exact l_e ‹_› ‹_› | exact l_f ‹_› ‹_› | exact b_2 ‹_› ‹_› | exact u_1 _ | exact u_2 _ | (apply Nat.lt_trans; assumption; assumption; done) | (apply Nat.lt_of_lt_of_le; assumption; assumption; done) | (apply Nat.lt_of_le_of_lt; assumption; assumption; done) | (apply Nat.le_trans; assumption; assumption; done) | ((fail_if_success (fail_if_success omega (config := {}))); (first | with_reducible assumption | decide | lia | omega (config := {}))))) a fun i x y => b i (by (first | exact u_lt ‹_› | exact u_n ‹_› | exact p_lt ‹_› | exact p_ne ‹_› | exact p_nf ‹_› | exact p_l ‹_› | exact b_1 ‹_› | exact Nat.ne_of_gt ‹_› | exact Nat.ne_of_lt ‹_› | exact u_ne ‹_› ‹_› | exact u_nf ‹_› ‹_› | exact u_ab ‹_› ‹_› | exact p_n ‹_› ‹_› | exact p_k ‹_› ‹_› | exact l_e ‹_› ‹_› | exact l_f ‹_› ‹_› | exact b_2 ‹_› ‹_› | exact u_1 _ | exact u_2 _ | (apply Nat.lt_trans; assumption; assumption; done) | (apply Nat.lt_of_lt_of_le; assumption; assumption; done) | (apply Nat.lt_of_le_of_lt; assumption; assumption; done) | (apply Nat.le_trans; assumption; assumption; done) | ((fail_if_success (fail_if_success omega (config := {}))); (first | with_reducible assumption | decide | lia | omega (config := {}))))) y
  | f + 1, l, r, s, h1, h2, h3, hi, a, b => by
    unfold kas_place
    split
    · exact c l s hi (by (first | exact u_lt ‹_› | exact u_n ‹_› | exact p_lt ‹_› | exact p_ne ‹_› | exact p_nf ‹_› | exact p_l ‹_› | exact b_1 ‹_› | exact Nat.ne_of_gt ‹_› | exact Nat.ne_of_lt ‹_› | exact u_ne ‹_› ‹_› | exact u_nf ‹_› ‹_› | exact u_ab ‹_› ‹_› | exact p_n ‹_› ‹_› | exact p_k ‹_› ‹_› | exact l_e ‹_› ‹_› | exact l_f ‹_› ‹_› | exact b_2 ‹_› ‹_› | exact u_1 _ | exact u_2 _ | (apply Nat.lt_trans; assumption; assumption; done) | (apply Nat.lt_of_lt_of_le; assumption; assumption; done) | (apply Nat.lt_of_le_of_lt; assumption; assumption; done) | (apply Nat.le_trans; assumption; assumption; done) | ((fail_if_success (fail_if_success omega (config := {}))); (first | with_reducible assumption | decide | lia | omega (config := {}))))) a fun i x y => b i (by (first | exact u_lt ‹_› | exact u_n ‹_› | exact p_lt ‹_› | exact p_ne ‹_› | exact p_nf ‹_› | exact p_l ‹_› | exact b_1 ‹_› | exact Nat.ne_of_gt ‹_› | exact Nat.ne_of_lt ‹_› | exact u_ne ‹_› ‹_› | exact u_nf ‹_› ‹_› | exact u_ab ‹_› ‹_› | exact p_n ‹_› ‹_› | exact p_k ‹_› ‹_› | exact l_e ‹_› ‹_› | exact l_f ‹_› ‹_› | exact b_2 ‹_› ‹_› | exact u_1 _ | exact u_2 _ | (apply Nat.lt_trans; assumption; assumption; done) | (apply Nat.lt_of_lt_of_le; assumption; assumption; done) | (apply Nat.lt_of_le_of_lt; assumption; assumption; done) | (apply Nat.le_trans; assumption; assumption; done) | ((fail_if_success (fail_if_success omega (config := {}))); (first | with_reducible assumption | decide | lia | omega (config := {}))))) y
    · rename_i hlr
      have hm : (l + r) / 2 < r := by (first | exact u_lt ‹_› | exact u_n ‹_› | exact p_lt ‹_› | exact p_ne ‹_› | exact p_nf ‹_› | exact p_l ‹_› | exact b_1 ‹_› | exact Nat.ne_of_gt ‹_› | exact Nat.ne_of_lt ‹_› | exact u_ne ‹_› ‹_› | exact u_nf ‹_› ‹_› | exact u_ab ‹_› ‹_› | exact p_n ‹_› ‹_› | exact p_k ‹_› ‹_› | exact l_e ‹_› ‹_› | exact l_f ‹_› ‹_› | exact b_2 ‹_› ‹_› | exact u_1 _ | exact u_2 _ | (apply Nat.lt_trans; assumption; assumption; done) | (apply Nat.lt_of_lt_of_le; assumption; assumption; done) | (apply Nat.lt_of_le_of_lt; assumption; assumption; done) | (apply Nat.le_trans; assumption; assumption; done) | ((fail_if_success (fail_if_success omega (config := {}))); (first | with_reducible assumption | decide | lia | omega (config := {}))))
      have hm2 : l ≤ (l + r) / 2 := by (first | exact u_lt ‹_› | exact u_n ‹_› | exact p_lt ‹_› | exact p_ne ‹_› | exact p_nf ‹_› | exact p_l ‹_› | exact b_1 ‹_› | exact Nat.ne_of_gt ‹_› | exact Nat.ne_of_lt ‹_› | exact u_ne ‹_› ‹_› | exact u_nf ‹_› ‹_› | exact u_ab ‹_› ‹_› | exact p_n ‹_› ‹_› | exact p_k ‹_› ‹_› | exact l_e ‹_› ‹_› | exact l_f ‹_› ‹_› | exact b_2 ‹_› ‹_› | exact u_1 _ | exact u_2 _ | (apply Nat.lt_trans; assumption; assumption; done) | (apply Nat.lt_of_lt_of_le; assumption; assumption; done) | (apply Nat.lt_of_le_of_lt; assumption; assumption; done) | (apply Nat.le_trans; assumption; assumption; done) | ((fail_if_success (fail_if_success omega (config := {}))); (first | with_reducible assumption | decide | lia | omega (config := {}))))
      generalize (l + r) / 2 = md at hm hm2
      refine hc _ _ _ _ (hp.ltn (by (first | exact u_lt ‹_› | exact u_n ‹_› | exact p_lt ‹_› | exact p_ne ‹_› | exact p_nf ‹_› | exact p_l ‹_› | exact b_1 ‹_› | exact Nat.ne_of_gt ‹_› | exact Nat.ne_of_lt ‹_› | exact u_ne ‹_› ‹_› | exact u_nf ‹_› ‹_› | exact u_ab ‹_› ‹_› | exact p_n ‹_› ‹_› | exact p_k ‹_› ‹_› | exact l_e ‹_› ‹_› | exact l_f ‹_› ‹_› | exact b_2 ‹_› ‹_› | exact u_1 _ | exact u_2 _ | (apply Nat.lt_trans; assumption; assumption; done) | (apply Nat.lt_of_lt_of_le; assumption; assumption; done) | (apply Nat.lt_of_le_of_lt; assumption; assumption; done) | (apply Nat.le_trans; assumption; assumption; done) | ((fail_if_success (fail_if_success omega (config := {}))); (first | with_reducible assumption | decide | lia | omega (config := {})))))) (hp.ltn (by (first | exact u_lt ‹_› | exact u_n ‹_› | exact p_lt ‹_› | exact p_ne ‹_› | exact p_nf ‹_› | exact p_l ‹_› | exact b_1 ‹_› | exact Nat.ne_of_gt ‹_› | exact Nat.ne_of_lt ‹_› | exact u_ne ‹_› ‹_› | exact u_nf ‹_› ‹_› | exact u_ab ‹_› ‹_› | exact p_n ‹_› ‹_› | exact p_k ‹_› ‹_› | exact l_e ‹_› ‹_› | exact l_f ‹_› ‹_› | exact b_2 ‹_› ‹_› | exact u_1 _ | exact u_2 _ | (apply Nat.lt_trans; assumption; assumption; done) | (apply Nat.lt_of_lt_of_le; assumption; assumption; done) | (apply Nat.lt_of_le_of_lt; assumption; assumption; done) | (apply Nat.le_trans; assumption; assumption; done) | ((fail_if_success (fail_if_success omega (config := {}))); (first | with_reducible assumption | decide | lia | omega (config := {})))))) (hp.ne (by (first | exact u_lt ‹_› | exact u_n ‹_› | exact p_lt ‹_› | exact p_ne ‹_› | exact p_nf ‹_› | exact p_l ‹_› | exact b_1 ‹_› | exact Nat.ne_of_gt ‹_› | exact Nat.ne_of_lt ‹_› | exact u_ne ‹_› ‹_› | exact u_nf ‹_› ‹_› | exact u_ab ‹_› ‹_› | exact p_n ‹_› ‹_› | exact p_k ‹_› ‹_› | exact l_e ‹_› ‹_› | exact l_f ‹_› ‹_› | exact b_2 ‹_› ‹_› | exact u_1 _ | exact u_2 _ | (apply Nat.lt_trans; assumption; assumption; done) | (apply Nat.lt_of_lt_of_le; assumption; assumption; done) | (apply Nat.lt_of_le_of_lt; assumption; assumption; done) | (apply Nat.le_trans; assumption; assumption; done) | ((fail_if_success (fail_if_success omega (config := {}))); (first | with_reducible assumption | decide | lia | omega (config := {}))))) (by (first | exact u_lt ‹_› | exact u_n ‹_› | exact p_lt ‹_› | exact p_ne ‹_› | exact p_nf ‹_› | exact p_l ‹_› | exact b_1 ‹_› | exact Nat.ne_of_gt ‹_› | exact Nat.ne_of_lt ‹_› | exact u_ne ‹_› ‹_› | exact u_nf ‹_› ‹_› | exact u_ab ‹_› ‹_› | exact p_n ‹_› ‹_› | exact p_k ‹_› ‹_› | exact l_e ‹_› ‹_› | exact l_f ‹_› ‹_› | exact b_2 ‹_› ‹_› | exact u_1 _ | exact u_2 _ | (apply Nat.lt_trans; assumption; assumption; done) | (apply Nat.lt_of_lt_of_le; assumption; assumption; done) | (apply Nat.lt_of_le_of_lt; assumption; assumption; done) | (apply Nat.le_trans; assumption; assumption; done) | ((fail_if_success (fail_if_success omega (config := {}))); (first | with_reducible assumption | decide | lia | omega (config := {}))))) (by (first | exact u_lt ‹_› | exact u_n ‹_› | exact p_lt ‹_› | exact p_ne ‹_› | exact p_nf ‹_› | exact p_l ‹_› | exact b_1 ‹_› | exact Nat.ne_of_gt ‹_› | exact Nat.ne_of_lt ‹_› | exact u_ne ‹_› ‹_› | exact u_nf ‹_› ‹_› | exact u_ab ‹_› ‹_› | exact p_n ‹_› ‹_› | exact p_k ‹_› ‹_› | exact l_e ‹_› ‹_› | exact l_f ‹_› ‹_› | exact b_2 ‹_› ‹_› | exact u_1 _ | exact u_2 _ | (apply Nat.lt_trans; assumption; assumption; done) | (apply Nat.lt_of_lt_of_le; assumption; assumption; done) | (apply Nat.lt_of_le_of_lt; assumption; assumption; done) | (apply Nat.le_trans; assumption; assumption; done) | ((fail_if_success (fail_if_success omega (config := {}))); (first | with_reducible assumption | decide | lia | omega (config := {})))))) hi fun s' hi' => ?_
      cases hb : lt (gp p k) (gp p md) with
      | true =>
        refine kas_y ?_
        refine kas_place_ok O hc hp hk hs c f l md s' (by (first | exact u_lt ‹_› | exact u_n ‹_› | exact p_lt ‹_› | exact p_ne ‹_› | exact p_nf ‹_› | exact p_l ‹_› | exact b_1 ‹_› | exact Nat.ne_of_gt ‹_› | exact Nat.ne_of_lt ‹_› | exact u_ne ‹_› ‹_› | exact u_nf ‹_› ‹_› | exact u_ab ‹_› ‹_› | exact p_n ‹_› ‹_› | exact p_k ‹_› ‹_› | exact l_e ‹_› ‹_› | exact l_f ‹_› ‹_› | exact b_2 ‹_› ‹_› | exact u_1 _ | exact u_2 _ | (apply Nat.lt_trans; assumption; assumption; done) | (apply Nat.lt_of_lt_of_le; assumption; assumption; done) | (apply Nat.lt_of_le_of_lt; assumption; assumption; done) | (apply Nat.le_trans; assumption; assumption; done) | ((fail_if_success (fail_if_success omega (config := {}))); (first | with_reducible assumption | decide | lia | omega (config := {}))))) (by (first | exact u_lt ‹_› | exact u_n ‹_› | exact p_lt ‹_› | exact p_ne ‹_› | exact p_nf ‹_› | exact p_l ‹_› | exact b_1 ‹_› | exact Nat.ne_of_gt ‹_› | exact Nat.ne_of_lt ‹_› | exact u_ne ‹_› ‹_› | exact u_nf ‹_› ‹_› | exact u_ab ‹_› ‹_› | exact p_n ‹_› ‹_› | exact p_k ‹_› ‹_› | exact l_e ‹_› ‹_› | exact l_f ‹_› ‹_› | exact b_2 ‹_› ‹_› | exact u_1 _ | exact u_2 _ | (apply Nat.lt_trans; assumption; assumption; done) | (apply Nat.lt_of_lt_of_le; assumption; assumption; done) | (apply Nat.lt_of_le_of_lt; assumption; assumption; done) | (apply Nat.le_trans; assumption; assumption; done) | ((fail_if_success (fail_if_success omega (config := {}))); (first | with_reducible assumption | decide | lia | omega (config := {}))))) (by (first | exact u_lt ‹_› | exact u_n ‹_› | exact p_lt ‹_› | exact p_ne ‹_› | exact p_nf ‹_› | exact p_l ‹_› | exact b_1 ‹_› | exact Nat.ne_of_gt ‹_› | exact Nat.ne_of_lt ‹_› | exact u_ne ‹_› ‹_› | exact u_nf ‹_› ‹_› | exact u_ab ‹_› ‹_› | exact p_n ‹_› ‹_› | exact p_k ‹_› ‹_› | exact l_e ‹_› ‹_› | exact l_f ‹_› ‹_› | exact b_2 ‹_› ‹_› | exact u_1 _ | exact u_2 _ | (apply Nat.lt_trans; assumption; assumption; done) | (apply Nat.lt_of_lt_of_le; assumption; assumption; done) | (apply Nat.lt_of_le_of_lt; assumption; assumption; done) | (apply Nat.le_trans; assumption; assumption; done) | ((fail_if_success (fail_if_success omega (config := {}))); (first | with_reducible assumption | decide | lia | omega (config := {}))))) hi' a fun i x y => ?_
        rcases Nat.lt_or_ge md i with d | d
        · exact O.trans _ _ _ (hp.ltn (by (first | exact u_lt ‹_› | exact u_n ‹_› | exact p_lt ‹_› | exact p_ne ‹_› | exact p_nf ‹_› | exact p_l ‹_› | exact b_1 ‹_› | exact Nat.ne_of_gt ‹_› | exact Nat.ne_of_lt ‹_› | exact u_ne ‹_› ‹_› | exact u_nf ‹_› ‹_› | exact u_ab ‹_› ‹_› | exact p_n ‹_› ‹_› | exact p_k ‹_› ‹_› | exact l_e ‹_› ‹_› | exact l_f ‹_› ‹_› | exact b_2 ‹_› ‹_› | exact u_1 _ | exact u_2 _ | (apply Nat.lt_trans; assumption; assumption; done) | (apply Nat.lt_of_lt_of_le; assumption; assumption; done) | (apply Nat.lt_of_le_of_lt; assumption; assumption; done) | (apply Nat.le_trans; assumption; assumption; done) | ((fail_if_success (fail_if_success omega (config := {}))); (first | with_reducible assumption | decide | lia | omega (config := {})))))) (hp.ltn (by (first | exact u_lt ‹_› | exact u_n ‹_› | exact p_lt ‹_› | exact p_ne ‹_› | exact p_nf ‹_› | exact p_l ‹_› | exact b_1 ‹_› | exact Nat.ne_of_gt ‹_› | exact Nat.ne_of_lt ‹_› | exact u_ne ‹_› ‹_› | exact u_nf ‹_› ‹_› | exact u_ab ‹_› ‹_› | exact p_n ‹_› ‹_› | exact p_k ‹_› ‹_› | exact l_e ‹_› ‹_› | exact l_f ‹_› ‹_› | exact b_2 ‹_› ‹_› | exact u_1 _ | exact u_2 _ | (apply Nat.lt_trans; assumption; assumption; done) | (apply Nat.lt_of_lt_of_le; assumption; assumption; done) | (apply Nat.lt_of_le_of_lt; assumption; assumption; done) | (apply Nat.le_trans; assumption; assumption; done) | ((fail_if_success (fail_if_success omega (config := {}))); (first | with_reducible assumption | decide | lia | omega (config := {})))))) (hp.ltn (by (first | exact u_lt ‹_› | exact u_n ‹_› | exact p_lt ‹_› | exact p_ne ‹_› | exact p_nf ‹_› | exact p_l ‹_› | exact b_1 ‹_› | exact Nat.ne_of_gt ‹_› | exact Nat.ne_of_lt ‹_› | exact u_ne ‹_› ‹_› | exact u_nf ‹_› ‹_› | exact u_ab ‹_› ‹_› | exact p_n ‹_› ‹_› | exact p_k ‹_› ‹_› | exact l_e ‹_› ‹_› | exact l_f ‹_› ‹_› | exact b_2 ‹_› ‹_› | exact u_1 _ | exact u_2 _ | (apply Nat.lt_trans; assumption; assumption; done) | (apply Nat.lt_of_lt_of_le; assumption; assumption; done) | (apply Nat.lt_of_le_of_lt; assumption; assumption; done) | (apply Nat.le_trans; assumption; assumption; done) | ((fail_if_success (fail_if_success omega (config := {}))); (first | with_reducible assumption | decide | lia | omega (config := {})))))) hb (hs md i d y)
        · have : i = md := by (first | exact u_lt ‹_› | exact u_n ‹_› | exact p_lt ‹_› | exact p_ne ‹_› | exact p_nf ‹_› | exact p_l ‹_› | exact b_1 ‹_› | exact Nat.ne_of_gt ‹_› | exact Nat.ne_of_lt ‹_› | exact u_ne ‹_› ‹_› | exact u_nf ‹_› ‹_› | exact u_ab ‹_› ‹_› | exact p_n ‹_› ‹_› | exact p_k ‹_› ‹_› | exact l_e ‹_› ‹_› | exact l_f ‹_› ‹_› | exact b_2 ‹_› ‹_› | exact u_1 _ | exact u_2 _ | (apply Nat.lt_trans; assumption; assumption; done) | (apply Nat.lt_of_lt_of_le; assumption; assumption; done) | (apply Nat.lt_of_le_of_lt; assumption; assumption; done) | (apply Nat.le_trans; assumption; assumption; done) | ((fail_if_success (fail_if_success omega (config := {}))); (first | with_reducible assumption | decide | lia | omega (config := {}))))
          subst this
          exact hb
      | false =>
        refine kas_n (by simp) ?_
        have hb' := O.tot _ _ (hp.ltn (by (first | exact u_lt ‹_› | exact u_n ‹_› | exact p_lt ‹_› | exact p_ne ‹_› | exact p_nf ‹_› | exact p_l ‹_› | exact b_1 ‹_› | exact Nat.ne_of_gt ‹_› | exact Nat.ne_of_lt ‹_› | exact u_ne ‹_› ‹_› | exact u_nf ‹_› ‹_› | exact u_ab ‹_› ‹_› | exact p_n ‹_› ‹_› | exact p_k ‹_› ‹_› | exact l_e ‹_› ‹_› | exact l_f ‹_› ‹_› | exact b_2 ‹_› ‹_› | exact u_1 _ | exact u_2 _ | (apply Nat.lt_trans; assumption; assumption; done) | (apply Nat.lt_of_lt_of_le; assumption; assumption; done) | (apply Nat.lt_of_le_of_lt; assumption; assumption; done) | (apply Nat.le_trans; assumption; assumption; done) | ((fail_if_success (fail_if_success omega (config := {}))); (first | with_reducible assumption | decide | lia | omega (config := {})))))) (hp.ltn (by (first | exact u_lt ‹_› | exact u_n ‹_› | exact p_lt ‹_› | exact p_ne ‹_› | exact p_nf ‹_› | exact p_l ‹_› | exact b_1 ‹_› | exact Nat.ne_of_gt ‹_› | exact Nat.ne_of_lt ‹_› | exact u_ne ‹_› ‹_› | exact u_nf ‹_› ‹_› | exact u_ab ‹_› ‹_› | exact p_n ‹_› ‹_› | exact p_k ‹_› ‹_› | exact l_e ‹_› ‹_› | exact l_f ‹_› ‹_› | exact b_2 ‹_› ‹_› | exact u_1 _ | exact u_2 _ | (apply Nat.lt_trans; assumption; assumption; done) | (apply Nat.lt_of_lt_of_le; assumption; assumption; done) | (apply Nat.lt_of_le_of_lt; assumption; assumption; done) | (apply Nat.le_trans; assumption; assumption; done) | ((fail_if_success (fail_if_success omega (config := {}))); (first | with_reducible assumption | decide | lia | omega (config := {})))))) (hp.ne (by (first | exact u_lt ‹_› | exact u_n ‹_› | exact p_lt ‹_› | exact p_ne ‹_› | exact p_nf ‹_› | exact p_l ‹_› | exact b_1 ‹_› | exact Nat.ne_of_gt ‹_› | exact Nat.ne_of_lt ‹_› | exact u_ne ‹_› ‹_› | exact u_nf ‹_› ‹_› | exact u_ab ‹_› ‹_› | exact p_n ‹_› ‹_› | exact p_k ‹_› ‹_› | exact l_e ‹_› ‹_› | exact l_f ‹_› ‹_› | exact b_2 ‹_› ‹_› | exact u_1 _ | exact u_2 _ | (apply Nat.lt_trans; assumption; assumption; done) | (apply Nat.lt_of_lt_of_le; assumption; assumption; done) | (apply Nat.lt_of_le_of_lt; assumption; assumption; done) | (apply Nat.le_trans; assumption; assumption; done) | ((fail_if_success (fail_if_success omega (config := {}))); (first | with_reducible assumption | decide | lia | omega (config := {}))))) (by (first | exact u_lt ‹_› | exact u_n ‹_› | exact p_lt ‹_› | exact p_ne ‹_› | exact p_nf ‹_› | exact p_l ‹_› | exact b_1 ‹_› | exact Nat.ne_of_gt ‹_› | exact Nat.ne_of_lt ‹_› | exact u_ne ‹_› ‹_› | exact u_nf ‹_› ‹_› | exact u_ab ‹_› ‹_› | exact p_n ‹_› ‹_› | exact p_k ‹_› ‹_› | exact l_e ‹_› ‹_› | exact l_f ‹_› ‹_› | exact b_2 ‹_› ‹_› | exact u_1 _ | exact u_2 _ | (apply Nat.lt_trans; assumption; assumption; done) | (apply Nat.lt_of_lt_of_le; assumption; assumption; done) | (apply Nat.lt_of_le_of_lt; assumption; assumption; done) | (apply Nat.le_trans; assumption; assumption; done) | ((fail_if_success (fail_if_success omega (config := {}))); (first | with_reducible assumption | decide | lia | omega (config := {}))))) (by (first | exact u_lt ‹_› | exact u_n ‹_› | exact p_lt ‹_› | exact p_ne ‹_› | exact p_nf ‹_› | exact p_l ‹_› | exact b_1 ‹_› | exact Nat.ne_of_gt ‹_› | exact Nat.ne_of_lt ‹_› | exact u_ne ‹_› ‹_› | exact u_nf ‹_› ‹_› | exact u_ab ‹_› ‹_› | exact p_n ‹_› ‹_› | exact p_k ‹_› ‹_› | exact l_e ‹_› ‹_› | exact l_f ‹_› ‹_› | exact b_2 ‹_› ‹_› | exact u_1 _ | exact u_2 _ | (apply Nat.lt_trans; assumption; assumption; done) | (apply Nat.lt_of_lt_of_le; assumption; assumption; done) | (apply Nat.lt_of_le_of_lt; assumption; assumption; done) | (apply Nat.le_trans; assumption; assumption; done) | ((fail_if_success (fail_if_success omega (config := {}))); (first | with_reducible assumption | decide | lia | omega (config := {})))))) hb
        refine kas_place_ok O hc hp hk hs c f (md + 1) r s' (by (first | exact u_lt ‹_› | exact u_n ‹_› | exact p_lt ‹_› | exact p_ne ‹_› | exact p_nf ‹_› | exact p_l ‹_› | exact b_1 ‹_› | exact Nat.ne_of_gt ‹_› | exact Nat.ne_of_lt ‹_› | exact u_ne ‹_› ‹_› | exact u_nf ‹_› ‹_› | exact u_ab ‹_› ‹_› | exact p_n ‹_› ‹_› | exact p_k ‹_› ‹_› | exact l_e ‹_› ‹_› | exact l_f ‹_› ‹_› | exact b_2 ‹_› ‹_› | exact u_1 _ | exact u_2 _ | (apply Nat.lt_trans; assumption; assumption; done) | (apply Nat.lt_of_lt_of_le; assumption; assumption; done) | (apply Nat.lt_of_le_of_lt; assumption; assumption; done) | (apply Nat.le_trans; assumption; assumption; done) | ((fail_if_success (fail_if_success omega (config := {}))); (first | with_reducible assumption | decide | lia | omega (config := {}))))) (by (first | exact u_lt ‹_› | exact u_n ‹_› | exact p_lt ‹_› | exact p_ne ‹_› | exact p_nf ‹_› | exact p_l ‹_› | exact b_1 ‹_› | exact Nat.ne_of_gt ‹_› | exact Nat.ne_of_lt ‹_› | exact u_ne ‹_› ‹_› | exact u_nf ‹_› ‹_› | exact u_ab ‹_› ‹_› | exact p_n ‹_› ‹_› | exact p_k ‹_› ‹_› | exact l_e ‹_› ‹_› | exact l_f ‹_› ‹_› | exact b_2 ‹_› ‹_› | exact u_1 _ | exact u_2 _ | (apply Nat.lt_trans; assumption; assumption; done) | (apply Nat.lt_of_lt_of_le; assumption; assumption; done) | (apply Nat.lt_of_le_of_lt; assumption; assumption; done) | (apply Nat.le_trans; assumption; assumption; done) | ((fail_if_success (fail_if_success omega (config := {}))); (first | with_reducible assumption | decide | lia | omega (config := {}))))) (by (first | exact u_lt ‹_› | exact u_n ‹_› | exact p_lt ‹_› | exact p_ne ‹_› | exact p_nf ‹_› | exact p_l ‹_› | exact b_1 ‹_› | exact Nat.ne_of_gt ‹_› | exact Nat.ne_of_lt ‹_› | exact u_ne ‹_› ‹_› | exact u_nf ‹_› ‹_› | exact u_ab ‹_› ‹_› | exact p_n ‹_› ‹_› | exact p_k ‹_› ‹_› | exact l_e ‹_› ‹_› | exact l_f ‹_› ‹_› | exact b_2 ‹_› ‹_› | exact u_1 _ | exact u_2 _ | (apply Nat.lt_trans; assumption; assumption; done) | (apply Nat.lt_of_lt_of_le; assumption; assumption; done) | (apply Nat.lt_of_le_of_lt; assumption; assumption; done) | (apply Nat.le_trans; assumption; assumption; done) | ((fail_if_success (fail_if_success omega (config := {}))); (first | with_reducible assumption | decide | lia | omega (config := {}))))) hi' (fun i x => ?_) b
        rcases Nat.lt_or_ge i md with d | d
        · exact O.trans _ _ _ (hp.ltn (by (first | exact u_lt ‹_› | exact u_n ‹_› | exact p_lt ‹_› | exact p_ne ‹_› | exact p_nf ‹_› | exact p_l ‹_› | exact b_1 ‹_› | exact Nat.ne_of_gt ‹_› | exact Nat.ne_of_lt ‹_› | exact u_ne ‹_› ‹_› | exact u_nf ‹_› ‹_› | exact u_ab ‹_› ‹_› | exact p_n ‹_› ‹_› | exact p_k ‹_› ‹_› | exact l_e ‹_› ‹_› | exact l_f ‹_› ‹_› | exact b_2 ‹_› ‹_› | exact u_1 _ | exact u_2 _ | (apply Nat.lt_trans; assumption; assumption; done) | (apply Nat.lt_of_lt_of_le; assumption; assumption; done) | (apply Nat.lt_of_le_of_lt; assumption; assumption; done) | (apply Nat.le_trans; assumption; assumption; done) | ((fail_if_success (fail_if_success omega (config := {}))); (first | with_reducible assumption | decide | lia | omega (config := {})))))) (hp.ltn (by (first | exact u_lt ‹_› | exact u_n ‹_› | exact p_lt ‹_› | exact p_ne ‹_› | exact p_nf ‹_› | exact p_l ‹_› | exact b_1 ‹_› | exact Nat.ne_of_gt ‹_› | exact Nat.ne_of_lt ‹_› | exact u_ne ‹_› ‹_› | exact u_nf ‹_› ‹_› | exact u_ab ‹_› ‹_› | exact p_n ‹_› ‹_› | exact p_k ‹_› ‹_› | exact l_e ‹_› ‹_› | exact l_f ‹_› ‹_› | exact b_2 ‹_› ‹_› | exact u_1 _ | exact u_2 _ | (apply Nat.lt_trans; assumption; assumption; done) | (apply Nat.lt_of_lt_of_le; assumption; assumption; done) | (apply Nat.lt_of_le_of_lt; assumption; assumption; done) | (apply Nat.le_trans; assumption; assumption; done) | ((fail_if_success (fail_if_success omega (config := {}))); (first | with_reducible assumption | decide | lia | omega (config := {})))))) (hp.ltn (by (first | exact u_lt ‹_› | exact u_n ‹_› | exact p_lt ‹_› | exact p_ne ‹_› | exact p_nf ‹_› | exact p_l ‹_› | exact b_1 ‹_› | exact Nat.ne_of_gt ‹_› | exact Nat.ne_of_lt ‹_› | exact u_ne ‹_› ‹_› | exact u_nf ‹_› ‹_› | exact u_ab ‹_› ‹_› | exact p_n ‹_› ‹_› | exact p_k ‹_› ‹_› | exact l_e ‹_› ‹_› | exact l_f ‹_› ‹_› | exact b_2 ‹_› ‹_› | exact u_1 _ | exact u_2 _ | (apply Nat.lt_trans; assumption; assumption; done) | (apply Nat.lt_of_lt_of_le; assumption; assumption; done) | (apply Nat.lt_of_le_of_lt; assumption; assumption; done) | (apply Nat.le_trans; assumption; assumption; done) | ((fail_if_success (fail_if_success omega (config := {}))); (first | with_reducible assumption | decide | lia | omega (config := {})))))) (hs i md d (by (first | exact u_lt ‹_› | exact u_n ‹_› | exact p_lt ‹_› | exact p_ne ‹_› | exact p_nf ‹_› | exact p_l ‹_› | exact b_1 ‹_› | exact Nat.ne_of_gt ‹_› | exact Nat.ne_of_lt ‹_› | exact u_ne ‹_› ‹_› | exact u_nf ‹_› ‹_› | exact u_ab ‹_› ‹_› | exact p_n ‹_› ‹_› | exact p_k ‹_› ‹_› | exact l_e ‹_› ‹_› | exact l_f ‹_› ‹_› | exact b_2 ‹_› ‹_› | exact u_1 _ | exact u_2 _ | (apply Nat.lt_trans; assumption; assumption; done) | (apply Nat.lt_of_lt_of_le; assumption; assumption; done) | (apply Nat.lt_of_le_of_lt; assumption; assumption; done) | (apply Nat.le_trans; assumption; assumption; done) | ((fail_if_success (fail_if_success omega (config := {}))); (first | with_reducible assumption | decide | lia | omega (config := {})))))) hb'
        · have : i = md := by (first | exact u_lt ‹_› | exact u_n ‹_› | exact p_lt ‹_› | exact p_ne ‹_› | exact p_nf ‹_› | exact p_l ‹_› | exact b_1 ‹_› | exact Nat.ne_of_gt ‹_› | exact Nat.ne_of_lt ‹_› | exact u_ne ‹_› ‹_› | exact u_nf ‹_› ‹_› | exact u_ab ‹_› ‹_› | exact p_n ‹_› ‹_› | exact p_k ‹_› ‹_› | exact l_e ‹_› ‹_› | exact l_f ‹_› ‹_› | exact b_2 ‹_› ‹_› | exact u_1 _ | exact u_2 _ | (apply Nat.lt_trans; assumption; assumption; done) | (apply Nat.lt_of_lt_of_le; assumption; assumption; done) | (apply Nat.lt_of_le_of_lt; assumption; assumption; done) | (apply Nat.le_trans; assumption; assumption; done) | ((fail_if_success (fail_if_success omega (config := {}))); (first | with_reducible assumption | decide | lia | omega (config := {}))))
          subst this
          exact hb'
theorem bub_gp {p : Array Nat} {k l j : Nat} (hk : k < p.size) (hl : l ≤ k) : gp (bubble p k (k - l)) j = if j = l then gp p k else if l < j ∧ j ≤ k then gp p (j - 1) else gp p j := by
  have e := getElem?_bubble hk (k - l) (by (first | exact u_lt ‹_› | exact u_n ‹_› | exact p_lt ‹_› | exact p_ne ‹_› | exact p_nf ‹_› | exact p_l ‹_› | exact b_1 ‹_› | exact Nat.ne_of_gt ‹_› | exact Nat.ne_of_lt ‹_› | exact u_ne ‹_› ‹_› | exact u_nf ‹_› ‹_› | exact u_ab ‹_› ‹_› | exact p_n ‹_› ‹_› | exact p_k ‹_› ‹_› | exact l_e ‹_› ‹_› | exact l_f ‹_› ‹_› | exact b_2 ‹_› ‹_› | exact u_1 _ | exact u_2 _ | (apply Nat.lt_trans; assumption; assumption; done) | (apply Nat.lt_of_lt_of_le; assumption; assumption; done) | (apply Nat.lt_of_le_of_lt; assumption; assumption; done) | (apply Nat.le_trans; assumption; assumption; done) | ((fail_if_success (fail_if_success omega (config := {}))); (first | with_reducible assumption | decide | lia | omega (config := {}))))) j
  have e1 : k - (k - l) = l := by (first | exact u_lt ‹_› | exact u_n ‹_› | exact p_lt ‹_› | exact p_ne ‹_› | exact p_nf ‹_› | exact p_l ‹_› | exact b_1 ‹_› | exact Nat.ne_of_gt ‹_› | exact Nat.ne_of_lt ‹_› | exact u_ne ‹_› ‹_› | exact u_nf ‹_› ‹_› | exact u_ab ‹_› ‹_› | exact p_n ‹_› ‹_› | exact p_k ‹_› ‹_› | exact l_e ‹_› ‹_› | exact l_f ‹_› ‹_› | exact b_2 ‹_› ‹_› | exact u_1 _ | exact u_2 _ | (apply Nat.lt_trans; assumption; assumption; done) | (apply Nat.lt_of_lt_of_le; assumption; assumption; done) | (apply Nat.lt_of_le_of_lt; assumption; assumption; done) | (apply Nat.le_trans; assumption; assumption; done) | ((fail_if_success (fail_if_success omega (config := {}))); (first | with_reducible assumption | decide | lia | omega (config := {}))))
  rw [e1] at e
  by_cases h1 : j = l
  · rw [if_pos h1] at e ⊢; exact gp_eq e
  · rw [if_neg h1] at e ⊢
    by_cases h2 : l < j ∧ j ≤ k
    · rw [if_pos h2] at e ⊢; exact gp_eq e
    · rw [if_neg h2] at e ⊢; exact gp_eq e
theorem kas_bin_ok (O : StrictO lt n) (hc : ∀ i j K s, i < n → j < n → i ≠ j → Inv s → (∀ s', Inv s' → K (lt i j) s') → cmp i j K s) {Q : Array Nat → Shared → Prop}
    (c : ∀ q s', Inv s' → PermN n q → SortedN lt q n → Q q s') : ∀ f k p s, k + f = n → PermN n p → SortedN lt p k → Inv s → (kas_bin f p k).kasWp cmp Q s
  | 0, k, p, s, h, hp, hs, hi => c p s hi hp (by have e : k = n := h
                                                 subst e; exact hs)
  | f + 1, k, p, s, h, hp, hs, hi => by
    unfold kas_bin
    rw [KasT.kasWp_bind]
    have hk : k < n := Nat.lt_of_lt_of_eq (Nat.lt_add_of_pos_right (Nat.succ_pos f)) h
    have hk' : k < p.size := l_e hk hp.size
    refine kas_place_ok O hc hp hk hs (fun l s' hi' hl a b => ?_) k 0 k s (Nat.zero_le _) (Nat.le_refl _) (Nat.le_add_left _ _) hi (fun i x => absurd x (Nat.not_lt_zero _)) (fun i x y => absurd y (Nat.not_lt.mpr x))
    refine kas_bin_ok O hc c f (k + 1) _ s' ((Nat.succ_add_eq_add_succ k f).trans h) (hp.of (bubble_perm _ _ _)) (fun i j hij hj => ?_) hi'
    have hjk : j ≤ k := Nat.le_of_lt_succ hj
    rw [bub_gp hk' hl, bub_gp hk' hl]
    rcases Nat.lt_trichotomy i l with c1 | c1 | c1
    · rw [if_neg (Nat.ne_of_lt c1), if_neg (fun q => Nat.lt_asymm q.1 c1)]
      rcases Nat.lt_trichotomy j l with c2 | c2 | c2
      · rw [if_neg (Nat.ne_of_lt c2), if_neg (fun q => Nat.lt_asymm q.1 c2)]
        exact hs i j hij (Nat.lt_of_lt_of_le c2 hl)
      · rw [if_pos c2]
        exact a i c1
      · rw [if_neg (Nat.ne_of_gt c2), if_pos ⟨c2, hjk⟩]
        exact hs i (j - 1) (Nat.lt_of_lt_of_le c1 (Nat.le_sub_one_of_lt c2)) (p_k hij hj)
    · have c2 : l < j := c1 ▸ hij
      rw [if_pos c1, if_neg (Nat.ne_of_gt c2), if_pos ⟨c2, hjk⟩]
      exact b (j - 1) (Nat.le_sub_one_of_lt c2) (p_k hij hj)
    · have c2 := Nat.lt_trans c1 hij
      rw [if_neg (Nat.ne_of_gt c1), if_pos ⟨c1, Nat.le_trans (Nat.le_of_lt hij) hjk⟩, if_neg (Nat.ne_of_gt c2), if_pos ⟨c2, hjk⟩]
      exact hs (i - 1) (j - 1) (Nat.sub_lt_sub_right (Nat.lt_of_le_of_lt (Nat.zero_le _) c1) hij) (p_k hij hj)
theorem kas_sort_ok (O : StrictO lt n) (h1 : 1 ≤ n) (hc : ∀ i j K s, i < n → j < n → i ≠ j → Inv s → (∀ s', Inv s' → K (lt i j) s') → cmp i j K s) {Q : Array Nat → Shared → Prop} {s : Shared} (hi : Inv s)
    (c : ∀ q s', Inv s' → PermN n q → SortedN lt q n → Q q s') : (kas_sort n).kasWp cmp Q s := by
  unfold kas_sort
  rw [KasT.kasWp_bind]
  refine kas_count_ok O h1 hc (PermN.range n) hi fun m q s' hi' m1 m2 hq hs => ?_
  split
  · rename_i hlt
    have hlt' : m < n := hlt
    have e : max m 1 = m := by (first | exact u_lt ‹_› | exact u_n ‹_› | exact p_lt ‹_› | exact p_ne ‹_› | exact p_nf ‹_› | exact p_l ‹_› | exact b_1 ‹_› | exact Nat.ne_of_gt ‹_› | exact Nat.ne_of_lt ‹_› | exact u_ne ‹_› ‹_› | exact u_nf ‹_› ‹_› | exact u_ab ‹_› ‹_› | exact p_n ‹_› ‹_› | exact p_k ‹_› ‹_› | exact l_e ‹_› ‹_› | exact l_f ‹_› ‹_› | exact b_2 ‹_› ‹_› | exact u_1 _ | exact u_2 _ | (apply Nat.lt_trans; assumption; assumption; done) | (apply Nat.lt_of_lt_of_le; assumption; assumption; done) | (apply Nat.lt_of_le_of_lt; assumption; assumption; done) | (apply Nat.le_trans; assumption; assumption; done) | ((fail_if_success (fail_if_success omega (config := {}))); (first | with_reducible assumption | decide | lia | omega (config := {}))))
    dsimp only
    rw [e]
    exact kas_bin_ok O hc c _ m q s' (by (first | exact u_lt ‹_› | exact u_n ‹_› | exact p_lt ‹_› | exact p_ne ‹_› | exact p_nf ‹_› | exact p_l ‹_› | exact b_1 ‹_› | exact Nat.ne_of_gt ‹_› | exact Nat.ne_of_lt ‹_› | exact u_ne ‹_› ‹_› | exact u_nf ‹_› ‹_› | exact u_ab ‹_› ‹_› | exact p_n ‹_› ‹_› | exact p_k ‹_› ‹_› | exact l_e ‹_› ‹_› | exact l_f ‹_› ‹_› | exact b_2 ‹_› ‹_› | exact u_1 _ | exact u_2 _ | (apply Nat.lt_trans; assumption; assumption; done) | (apply Nat.lt_of_lt_of_le; assumption; assumption; done) | (apply Nat.lt_of_le_of_lt; assumption; assumption; done) | (apply Nat.le_trans; assumption; assumption; done) | ((fail_if_success (fail_if_success omega (config := {}))); (first | with_reducible assumption | decide | lia | omega (config := {}))))) hq hs hi'
  · rename_i hlt
    have hlt' : ¬ m < n := hlt
    have : m = n := by (first | exact u_lt ‹_› | exact u_n ‹_› | exact p_lt ‹_› | exact p_ne ‹_› | exact p_nf ‹_› | exact p_l ‹_› | exact b_1 ‹_› | exact Nat.ne_of_gt ‹_› | exact Nat.ne_of_lt ‹_› | exact u_ne ‹_› ‹_› | exact u_nf ‹_› ‹_› | exact u_ab ‹_› ‹_› | exact p_n ‹_› ‹_› | exact p_k ‹_› ‹_› | exact l_e ‹_› ‹_› | exact l_f ‹_› ‹_› | exact b_2 ‹_› ‹_› | exact u_1 _ | exact u_2 _ | (apply Nat.lt_trans; assumption; assumption; done) | (apply Nat.lt_of_lt_of_le; assumption; assumption; done) | (apply Nat.lt_of_le_of_lt; assumption; assumption; done) | (apply Nat.le_trans; assumption; assumption; done) | ((fail_if_success (fail_if_success omega (config := {}))); (first | with_reducible assumption | decide | lia | omega (config := {}))))
    subst this
    exact c q s' hi' hq hs
end
-- RgL3

section
variable {prog : Program} {w : World} {A : Around} {h₀ : Heap} {L : Addr} {m : Str → Option Value} {env : Env} {elt : Expr} {x x₂ : Str} {scope : Scope} {cl : List (Str × Addr)} {s : Shared} {S : List (Addr × Obj) → Prop} {P : Nat → Value → Prop} {Fin : List Value → List (Addr × Obj) → Prop} {news : List (Addr × Obj)}
theorem comp_inv {n : Nat} (J : Nat → List Value → List (Addr × Obj) → Prop) (h0 : J 0 [] news)
    (turn : ∀ i v I oI C oC D m₂ ys nw h tk (E' : Value → Shared → Prop), i < n → P i v → J i ys nw → ys.length = i → LCg.NsObj oC m₂ → m₂ x = some v → Fr h₀ L h m → News h₀ L h ((I, oI) :: (C, oC) :: (D, LCg.lst ys) :: nw) → LCg.Off3 I C D nw → ((@Ne Nat I C) ∧ (@Ne Nat I D) ∧ (@Ne Nat C D)) →
      wpAny (model prog w) A (eval elt (compEnvC scope cl C env)) (LCg.CompEnd h₀ L m { s with heap := h, toks := tk } I oI C oC D (LCg.lst ys) S (fun y nw' => J (i + 1) (ys ++ [y]) nw')) E' { s with heap := h, toks := tk })
    (fin : ∀ ys nw, J n ys nw → ys.length = n → Fin ys nw) : LCg.CompRest prog w A h₀ L m env elt x scope cl s S P Fin n 0 [] news := by
  have key : ∀ (j i : Nat) (ys : List Value) nw, i + j = n → J i ys nw → ys.length = i → LCg.CompRest prog w A h₀ L m env elt x scope cl s S P Fin j i ys nw := by
    intro j
    induction j with
    | zero =>
      intro i ys nw hi hJ hl
      have : i = n := by (first | exact u_lt ‹_› | exact u_n ‹_› | exact p_lt ‹_› | exact p_ne ‹_› | exact p_nf ‹_› | exact p_l ‹_› | exact b_1 ‹_› | exact Nat.ne_of_gt ‹_› | exact Nat.ne_of_lt ‹_› | exact u_ne ‹_› ‹_› | exact u_nf ‹_› ‹_› | exact u_ab ‹_› ‹_› | exact p_n ‹_› ‹_› | exact p_k ‹_› ‹_› | exact l_e ‹_› ‹_› | exact l_f ‹_› ‹_› | exact b_2 ‹_› ‹_› | exact u_1 _ | exact u_2 _ | (apply Nat.lt_trans; assumption; assumption; done) | (apply Nat.lt_of_lt_of_le; assumption; assumption; done) | (apply Nat.lt_of_le_of_lt; assumption; assumption; done) | (apply Nat.le_trans; assumption; assumption; done) | ((fail_if_success (fail_if_success omega (config := {}))); (first | with_reducible assumption | decide | lia | omega (config := {}))))
      subst this
      exact LCg.CompRest.zero (fin ys nw hJ hl)
    | succ j ih =>
      intro i ys nw hi hJ hl
      refine LCg.CompRest.succ ?_
      intro v I oI C oC D m₂ h tk E' hv hC hx F N off ne
      refine wpAny_mono (turn i v I oI C oC D m₂ ys nw h tk E' (by (first | exact u_lt ‹_› | exact u_n ‹_› | exact p_lt ‹_› | exact p_ne ‹_› | exact p_nf ‹_› | exact p_l ‹_› | exact b_1 ‹_› | exact Nat.ne_of_gt ‹_› | exact Nat.ne_of_lt ‹_› | exact u_ne ‹_› ‹_› | exact u_nf ‹_› ‹_› | exact u_ab ‹_› ‹_› | exact p_n ‹_› ‹_› | exact p_k ‹_› ‹_› | exact l_e ‹_› ‹_› | exact l_f ‹_› ‹_› | exact b_2 ‹_› ‹_› | exact u_1 _ | exact u_2 _ | (apply Nat.lt_trans; assumption; assumption; done) | (apply Nat.lt_of_lt_of_le; assumption; assumption; done) | (apply Nat.lt_of_le_of_lt; assumption; assumption; done) | (apply Nat.le_trans; assumption; assumption; done) | ((fail_if_success (fail_if_success omega (config := {}))); (first | with_reducible assumption | decide | lia | omega (config := {}))))) hv hJ hl hC hx F N off ne) (fun y s₃ hr => ?_) fun _ _ e => e
      obtain ⟨h', tk', nw', e, F', N', off', hS, hJ'⟩ := hr
      exact ⟨h', tk', nw', e, F', N', off', hS, ih (i + 1) _ _ (by (first | exact u_lt ‹_› | exact u_n ‹_› | exact p_lt ‹_› | exact p_ne ‹_› | exact p_nf ‹_› | exact p_l ‹_› | exact b_1 ‹_› | exact Nat.ne_of_gt ‹_› | exact Nat.ne_of_lt ‹_› | exact u_ne ‹_› ‹_› | exact u_nf ‹_› ‹_› | exact u_ab ‹_› ‹_› | exact p_n ‹_› ‹_› | exact p_k ‹_› ‹_› | exact l_e ‹_› ‹_› | exact l_f ‹_› ‹_› | exact b_2 ‹_› ‹_› | exact u_1 _ | exact u_2 _ | (apply Nat.lt_trans; assumption; assumption; done) | (apply Nat.lt_of_lt_of_le; assumption; assumption; done) | (apply Nat.lt_of_le_of_lt; assumption; assumption; done) | (apply Nat.le_trans; assumption; assumption; done) | ((fail_if_success (fail_if_success omega (config := {}))); (first | with_reducible assumption | decide | lia | omega (config := {}))))) hJ' (by rw [List.length_append, hl]; rfl)⟩
  exact key n 0 [] news (by (first | exact u_lt ‹_› | exact u_n ‹_› | exact p_lt ‹_› | exact p_ne ‹_› | exact p_nf ‹_› | exact p_l ‹_› | exact b_1 ‹_› | exact Nat.ne_of_gt ‹_› | exact Nat.ne_of_lt ‹_› | exact u_ne ‹_› ‹_› | exact u_nf ‹_› ‹_› | exact u_ab ‹_› ‹_› | exact p_n ‹_› ‹_› | exact p_k ‹_› ‹_› | exact l_e ‹_› ‹_› | exact l_f ‹_› ‹_› | exact b_2 ‹_› ‹_› | exact u_1 _ | exact u_2 _ | (apply Nat.lt_trans; assumption; assumption; done) | (apply Nat.lt_of_lt_of_le; assumption; assumption; done) | (apply Nat.lt_of_le_of_lt; assumption; assumption; done) | (apply Nat.le_trans; assumption; assumption; done) | ((fail_if_success (fail_if_success omega (config := {}))); (first | with_reducible assumption | decide | lia | omega (config := {}))))) h0 rfl
theorem compP_inv {n : Nat} (J : Nat → List Value → List (Addr × Obj) → Prop) (h0 : J 0 [] news)
    (turn : ∀ i v ys nw, i < n → P i v → J i ys nw → ys.length = i → ∃ (t : Addr) (ot : Obj) (v₁ v₂ : Value) (nt : Nat), v = .ref t ∧ (t, ot) ∈ nw ∧ ot.cls = .type "tuple" ∧ ot.data = .seq #[v₁, v₂] nt ∧
      ∀ I oI C oC D m₂ h tk (E' : Value → Shared → Prop), LCg.NsObj oC m₂ → m₂ x = some v₁ → m₂ x₂ = some v₂ → Fr h₀ L h m → News h₀ L h ((I, oI) :: (C, oC) :: (D, LCg.lst ys) :: nw) → LCg.Off3 I C D nw → ((@Ne Nat I C) ∧ (@Ne Nat I D) ∧ (@Ne Nat C D)) →
      wpAny (model prog w) A (eval elt (compEnvC scope cl C env)) (LCg.CompEnd h₀ L m { s with heap := h, toks := tk } I oI C oC D (LCg.lst ys) S (fun y nw' => J (i + 1) (ys ++ [y]) nw')) E' { s with heap := h, toks := tk })
    (fin : ∀ ys nw, J n ys nw → ys.length = n → Fin ys nw) : LCp.CompRestP prog w A h₀ L m env elt x x₂ scope cl s S P Fin n 0 [] news := by
  have key : ∀ (j i : Nat) (ys : List Value) nw, i + j = n → J i ys nw → ys.length = i → LCp.CompRestP prog w A h₀ L m env elt x x₂ scope cl s S P Fin j i ys nw := by
    intro j
    induction j with
    | zero =>
      intro i ys nw hi hJ hl
      have : i = n := by (first | exact u_lt ‹_› | exact u_n ‹_› | exact p_lt ‹_› | exact p_ne ‹_› | exact p_nf ‹_› | exact p_l ‹_› | exact b_1 ‹_› | exact Nat.ne_of_gt ‹_› | exact Nat.ne_of_lt ‹_› | exact u_ne ‹_› ‹_› | exact u_nf ‹_› ‹_› | exact u_ab ‹_› ‹_› | exact p_n ‹_› ‹_› | exact p_k ‹_› ‹_› | exact l_e ‹_› ‹_› | exact l_f ‹_› ‹_› | exact b_2 ‹_› ‹_› | exact u_1 _ | exact u_2 _ | (apply Nat.lt_trans; assumption; assumption; done) | (apply Nat.lt_of_lt_of_le; assumption; assumption; done) | (apply Nat.lt_of_le_of_lt; assumption; assumption; done) | (apply Nat.le_trans; assumption; assumption; done) | ((fail_if_success (fail_if_success omega (config := {}))); (first | with_reducible assumption | decide | lia | omega (config := {}))))
      subst this
      exact LCp.CompRestP.zero (fin ys nw hJ hl)
    | succ j ih =>
      intro i ys nw hi hJ hl
      refine LCp.CompRestP.succ ?_
      intro v hv
      obtain ⟨t, ot, v₁, v₂, nt, e1, e2, e3, e4, k⟩ := turn i v ys nw (by (first | exact u_lt ‹_› | exact u_n ‹_› | exact p_lt ‹_› | exact p_ne ‹_› | exact p_nf ‹_› | exact p_l ‹_› | exact b_1 ‹_› | exact Nat.ne_of_gt ‹_› | exact Nat.ne_of_lt ‹_› | exact u_ne ‹_› ‹_› | exact u_nf ‹_› ‹_› | exact u_ab ‹_› ‹_› | exact p_n ‹_› ‹_› | exact p_k ‹_› ‹_› | exact l_e ‹_› ‹_› | exact l_f ‹_› ‹_› | exact b_2 ‹_› ‹_› | exact u_1 _ | exact u_2 _ | (apply Nat.lt_trans; assumption; assumption; done) | (apply Nat.lt_of_lt_of_le; assumption; assumption; done) | (apply Nat.lt_of_le_of_lt; assumption; assumption; done) | (apply Nat.le_trans; assumption; assumption; done) | ((fail_if_success (fail_if_success omega (config := {}))); (first | with_reducible assumption | decide | lia | omega (config := {}))))) hv hJ hl
      refine ⟨t, ot, v₁, v₂, nt, e1, e2, e3, e4, fun I oI C oC D m₂ h tk E' hC hx hx2 F N off ne => ?_⟩
      refine wpAny_mono (k I oI C oC D m₂ h tk E' hC hx hx2 F N off ne) (fun y s₃ hr => ?_) fun _ _ e => e
      obtain ⟨h', tk', nw', e, F', N', off', hS, hJ'⟩ := hr
      exact ⟨h', tk', nw', e, F', N', off', hS, ih (i + 1) _ _ (by (first | exact u_lt ‹_› | exact u_n ‹_› | exact p_lt ‹_› | exact p_ne ‹_› | exact p_nf ‹_› | exact p_l ‹_› | exact b_1 ‹_› | exact Nat.ne_of_gt ‹_› | exact Nat.ne_of_lt ‹_› | exact u_ne ‹_› ‹_› | exact u_nf ‹_› ‹_› | exact u_ab ‹_› ‹_› | exact p_n ‹_› ‹_› | exact p_k ‹_› ‹_› | exact l_e ‹_› ‹_› | exact l_f ‹_› ‹_› | exact b_2 ‹_› ‹_› | exact u_1 _ | exact u_2 _ | (apply Nat.lt_trans; assumption; assumption; done) | (apply Nat.lt_of_lt_of_le; assumption; assumption; done) | (apply Nat.lt_of_le_of_lt; assumption; assumption; done) | (apply Nat.le_trans; assumption; assumption; done) | ((fail_if_success (fail_if_success omega (config := {}))); (first | with_reducible assumption | decide | lia | omega (config := {}))))) hJ' (by rw [List.length_append, hl]; rfl)⟩
  exact key n 0 [] news (by (first | exact u_lt ‹_› | exact u_n ‹_› | exact p_lt ‹_› | exact p_ne ‹_› | exact p_nf ‹_› | exact p_l ‹_› | exact b_1 ‹_› | exact Nat.ne_of_gt ‹_› | exact Nat.ne_of_lt ‹_› | exact u_ne ‹_› ‹_› | exact u_nf ‹_› ‹_› | exact u_ab ‹_› ‹_› | exact p_n ‹_› ‹_› | exact p_k ‹_› ‹_› | exact l_e ‹_› ‹_› | exact l_f ‹_› ‹_› | exact b_2 ‹_› ‹_› | exact u_1 _ | exact u_2 _ | (apply Nat.lt_trans; assumption; assumption; done) | (apply Nat.lt_of_lt_of_le; assumption; assumption; done) | (apply Nat.lt_of_le_of_lt; assumption; assumption; done) | (apply Nat.le_trans; assumption; assumption; done) | ((fail_if_success (fail_if_success omega (config := {}))); (first | with_reducible assumption | decide | lia | omega (config := {}))))) h0 rfl
end
/-- the values are tuples of two numbers in the ledger -/
structure TupsIn (news : List (Addr × Obj)) (vs : List Value) (ps : List (Int × Int)) : Prop where
  len : vs.length = ps.length
  at_ : ∀ (i : Nat) (p : Int × Int), ps[i]? = some p → ∃ (a : Addr) (t1 t2 : Tok), vs[i]? = some (Value.ref a) ∧ (a, oTup p.1 p.2 t1 t2) ∈ news
noncomputable def pairLt (a b : Int × Int) : Bool := lexLt a.1 a.2 b.1 b.2
theorem pairLt_iff {a b : Int × Int} : pairLt a b = true ↔ (a.1 < b.1 ∨ (a.1 = b.1 ∧ a.2 < b.2)) := by
  unfold pairLt lexLt
  split
  · rw [decide_eq_true_eq]; (first | exact u_lt ‹_› | exact u_n ‹_› | exact p_lt ‹_› | exact p_ne ‹_› | exact p_nf ‹_› | exact p_l ‹_› | exact b_1 ‹_› | exact Nat.ne_of_gt ‹_› | exact Nat.ne_of_lt ‹_› | exact u_ne ‹_› ‹_› | exact u_nf ‹_› ‹_› | exact u_ab ‹_› ‹_› | exact p_n ‹_› ‹_› | exact p_k ‹_› ‹_› | exact l_e ‹_› ‹_› | exact l_f ‹_› ‹_› | exact b_2 ‹_› ‹_› | exact u_1 _ | exact u_2 _ | (apply Nat.lt_trans; assumption; assumption; done) | (apply Nat.lt_of_lt_of_le; assumption; assumption; done) | (apply Nat.lt_of_le_of_lt; assumption; assumption; done) | (apply Nat.le_trans; assumption; assumption; done) | ((fail_if_success (fail_if_success omega (config := {}))); (first | with_reducible assumption | decide | lia | omega (config := {}))))
  · rw [decide_eq_true_eq]; (first | exact u_lt ‹_› | exact u_n ‹_› | exact p_lt ‹_› | exact p_ne ‹_› | exact p_nf ‹_› | exact p_l ‹_› | exact b_1 ‹_› | exact Nat.ne_of_gt ‹_› | exact Nat.ne_of_lt ‹_› | exact u_ne ‹_› ‹_› | exact u_nf ‹_› ‹_› | exact u_ab ‹_› ‹_› | exact p_n ‹_› ‹_› | exact p_k ‹_› ‹_› | exact l_e ‹_› ‹_› | exact l_f ‹_› ‹_› | exact b_2 ‹_› ‹_› | exact u_1 _ | exact u_2 _ | (apply Nat.lt_trans; assumption; assumption; done) | (apply Nat.lt_of_lt_of_le; assumption; assumption; done) | (apply Nat.lt_of_le_of_lt; assumption; assumption; done) | (apply Nat.le_trans; assumption; assumption; done) | ((fail_if_success (fail_if_success omega (config := {}))); (first | with_reducible assumption | decide | lia | omega (config := {}))))
theorem pairLt_not {a b : Int × Int} : pairLt a b = false ↔ (b.1 < a.1 ∨ (a.1 = b.1 ∧ b.2 ≤ a.2)) := by
  rw [← Bool.not_eq_true, pairLt_iff]; (first | exact u_lt ‹_› | exact u_n ‹_› | exact p_lt ‹_› | exact p_ne ‹_› | exact p_nf ‹_› | exact p_l ‹_› | exact b_1 ‹_› | exact Nat.ne_of_gt ‹_› | exact Nat.ne_of_lt ‹_› | exact u_ne ‹_› ‹_› | exact u_nf ‹_› ‹_› | exact u_ab ‹_› ‹_› | exact p_n ‹_› ‹_› | exact p_k ‹_› ‹_› | exact l_e ‹_› ‹_› | exact l_f ‹_› ‹_› | exact b_2 ‹_› ‹_› | exact u_1 _ | exact u_2 _ | (apply Nat.lt_trans; assumption; assumption; done) | (apply Nat.lt_of_lt_of_le; assumption; assumption; done) | (apply Nat.lt_of_le_of_lt; assumption; assumption; done) | (apply Nat.le_trans; assumption; assumption; done) | ((fail_if_success (fail_if_success omega (config := {}))); (first | with_reducible assumption | decide | lia | omega (config := {}))))
noncomputable def ltAt (ps : List (Int × Int)) (i j : Nat) : Bool := pairLt (ps.getD i (0, 0)) (ps.getD j (0, 0))
theorem ltAt_strict {ps : List (Int × Int)} (hd : ∀ i j, i < ps.length → j < ps.length → i ≠ j → ps.getD i (0, 0) ≠ ps.getD j (0, 0)) : StrictO (ltAt ps) ps.length := by
  refine ⟨fun i j k _ _ _ h1 h2 => ?_, fun i j hi hj hne h => ?_, fun i j _ _ h => ?_⟩
  · unfold ltAt at *
    rw [pairLt_iff] at *
    (first | exact u_lt ‹_› | exact u_n ‹_› | exact p_lt ‹_› | exact p_ne ‹_› | exact p_nf ‹_› | exact p_l ‹_› | exact b_1 ‹_› | exact Nat.ne_of_gt ‹_› | exact Nat.ne_of_lt ‹_› | exact u_ne ‹_› ‹_› | exact u_nf ‹_› ‹_› | exact u_ab ‹_› ‹_› | exact p_n ‹_› ‹_› | exact p_k ‹_› ‹_› | exact l_e ‹_› ‹_› | exact l_f ‹_› ‹_› | exact b_2 ‹_› ‹_› | exact u_1 _ | exact u_2 _ | (apply Nat.lt_trans; assumption; assumption; done) | (apply Nat.lt_of_lt_of_le; assumption; assumption; done) | (apply Nat.lt_of_le_of_lt; assumption; assumption; done) | (apply Nat.le_trans; assumption; assumption; done) | ((fail_if_success (fail_if_success omega (config := {}))); (first | with_reducible assumption | decide | lia | omega (config := {}))))
  · unfold ltAt at *
    rw [pairLt_not] at h
    rw [pairLt_iff]
    have := hd i j hi hj hne
    rcases h with h | ⟨h1, h2⟩
    · exact .inl h
    · refine .inr ⟨h1.symm, ?_⟩
      rcases Int.lt_or_eq_of_le h2 with h3 | h3
      · exact h3
      · exact absurd (Prod.ext h1 h3.symm) this
  · unfold ltAt at *
    rw [pairLt_iff] at h
    rw [pairLt_not]
    (first | exact u_lt ‹_› | exact u_n ‹_› | exact p_lt ‹_› | exact p_ne ‹_› | exact p_nf ‹_› | exact p_l ‹_› | exact b_1 ‹_› | exact Nat.ne_of_gt ‹_› | exact Nat.ne_of_lt ‹_› | exact u_ne ‹_› ‹_› | exact u_nf ‹_› ‹_› | exact u_ab ‹_› ‹_› | exact p_n ‹_› ‹_› | exact p_k ‹_› ‹_› | exact l_e ‹_› ‹_› | exact l_f ‹_› ‹_› | exact b_2 ‹_› ‹_› | exact u_1 _ | exact u_2 _ | (apply Nat.lt_trans; assumption; assumption; done) | (apply Nat.lt_of_lt_of_le; assumption; assumption; done) | (apply Nat.lt_of_le_of_lt; assumption; assumption; done) | (apply Nat.le_trans; assumption; assumption; done) | ((fail_if_success (fail_if_success omega (config := {}))); (first | with_reducible assumption | decide | lia | omega (config := {}))))
theorem TupsIn.get {news : List (Addr × Obj)} {vs : List Value} {ps : List (Int × Int)} (T : TupsIn news vs ps) {i : Nat} (hi : i < ps.length) : ∃ (a : Addr) (t1 t2 : Tok), vs.getD i Value.none = Value.ref a ∧ (a, oTup (ps.getD i (0, 0)).1 (ps.getD i (0, 0)).2 t1 t2) ∈ news := by
  obtain ⟨a, t1, t2, e, hm⟩ := T.at_ i (ps.getD i (0, 0)) (by rw [List.getD_eq_getElem?_getD, List.getElem?_eq_getElem hi]; rfl)
  exact ⟨a, t1, t2, by rw [List.getD_eq_getElem?_getD, e]; rfl, hm⟩
theorem TupsIn.tups {h₀ h : Heap} {L : Addr} {news : List (Addr × Obj)} : ∀ {vs : List Value} {ps : List (Int × Int)}, TupsIn news vs ps → News h₀ L h news → ∃ fs, KatTups h vs fs ∧ fs.length = ps.length ∧ ∀ v ∈ fs, ∃ k t, v = Value.int k t
  | [], [], _, _ => ⟨[], KatTups.nil, rfl, fun _ h => nomatch h⟩
  | _ :: _, [], T, _ => nomatch T.len
  | [], _ :: _, T, _ => nomatch T.len
  | v :: vs, p :: ps, T, N => by
    obtain ⟨fs, k1, k2, k3⟩ := TupsIn.tups (vs := vs) (ps := ps) ⟨by simpa using T.len, fun i q hq => by simpa using T.at_ (i + 1) q (by simpa using hq)⟩ N
    obtain ⟨a, t1, t2, e, hm⟩ := T.at_ 0 p rfl
    have e' : v = .ref a := by simpa using e
    subst e'
    refine ⟨.int p.1 t1 :: fs, KatTups.cons (N _ hm).1 rfl rfl rfl k1, by simp [k2], fun v hv => ?_⟩
    rcases List.mem_cons.mp hv with rfl | hv
    · exact ⟨_, _, rfl⟩
    · exact k3 v hv
theorem TupsIn.picked {news : List (Addr × Obj)} {vs : List Value} {ps : List (Int × Int)} (T : TupsIn news vs ps) {q : Array Nat} (hq : PermN ps.length q) : TupsIn news (q.toList.map fun i => vs.getD i Value.none) (q.toList.map fun i => ps.getD i (0, 0)) := by
  refine ⟨by simp, fun i p hp => ?_⟩
  rw [List.getElem?_map] at hp
  obtain ⟨j, hj, rfl⟩ := Option.map_eq_some_iff.mp hp
  have hjl : j < ps.length := List.mem_range.mp (hq.perm.mem_iff.mp (List.mem_of_getElem? hj))
  obtain ⟨a, t1, t2, e, hm⟩ := T.get hjl
  exact ⟨a, t1, t2, by rw [List.getElem?_map, hj]; exact congrArg some e, hm⟩
theorem picked_perm {ps : List (Int × Int)} {q : Array Nat} (hq : PermN ps.length q) : (q.toList.map fun i => ps.getD i (0, 0)).Perm ps := by
  have h := hq.perm.map fun i => ps.getD i (0, 0)
  have e : (List.range ps.length).map (fun i => ps.getD i (0, 0)) = ps := by
    apply List.ext_getElem? 
    intro i
    rw [List.getElem?_map]
    by_cases hi : i < ps.length
    · rw [List.getElem?_range hi, List.getElem?_eq_getElem hi]
      simp [hi]
    · rw [List.getElem?_eq_none (by simpa using hi), List.getElem?_eq_none (by (first | exact u_lt ‹_› | exact u_n ‹_› | exact p_lt ‹_› | exact p_ne ‹_› | exact p_nf ‹_› | exact p_l ‹_› | exact b_1 ‹_› | exact Nat.ne_of_gt ‹_› | exact Nat.ne_of_lt ‹_› | exact u_ne ‹_› ‹_› | exact u_nf ‹_› ‹_› | exact u_ab ‹_› ‹_› | exact p_n ‹_› ‹_› | exact p_k ‹_› ‹_› | exact l_e ‹_› ‹_› | exact l_f ‹_› ‹_› | exact b_2 ‹_› ‹_› | exact u_1 _ | exact u_2 _ | (apply Nat.lt_trans; assumption; assumption; done) | (apply Nat.lt_of_lt_of_le; assumption; assumption; done) | (apply Nat.lt_of_le_of_lt; assumption; assumption; done) | (apply Nat.le_trans; assumption; assumption; done) | ((fail_if_success (fail_if_success omega (config := {}))); (first | with_reducible assumption | decide | lia | omega (config := {})))))]; rfl
  rw [e] at h
  exact h
theorem picked_sorted {ps : List (Int × Int)} {q : Array Nat} (hq : PermN ps.length q) (hs : SortedN (ltAt ps) q ps.length) : (q.toList.map fun i => ps.getD i (0, 0)).Pairwise fun a b => pairLt a b = true := by
  rw [List.pairwise_iff_getElem]
  intro i j hi hj hij
  have hl := hq.size
  simp only [List.length_map, Array.length_toList] at hi hj
  have := hs i j hij (by (first | exact u_lt ‹_› | exact u_n ‹_› | exact p_lt ‹_› | exact p_ne ‹_› | exact p_nf ‹_› | exact p_l ‹_› | exact b_1 ‹_› | exact Nat.ne_of_gt ‹_› | exact Nat.ne_of_lt ‹_› | exact u_ne ‹_› ‹_› | exact u_nf ‹_› ‹_› | exact u_ab ‹_› ‹_› | exact p_n ‹_› ‹_› | exact p_k ‹_› ‹_› | exact l_e ‹_› ‹_› | exact l_f ‹_› ‹_› | exact b_2 ‹_› ‹_› | exact u_1 _ | exact u_2 _ | (apply Nat.lt_trans; assumption; assumption; done) | (apply Nat.lt_of_lt_of_le; assumption; assumption; done) | (apply Nat.lt_of_le_of_lt; assumption; assumption; done) | (apply Nat.le_trans; assumption; assumption; done) | ((fail_if_success (fail_if_success omega (config := {}))); (first | with_reducible assumption | decide | lia | omega (config := {})))))
  unfold ltAt gp at this
  rw [Array.getD_eq_getD_getElem?, Array.getD_eq_getD_getElem?, Array.getElem?_eq_getElem (by (first | exact u_lt ‹_› | exact u_n ‹_› | exact p_lt ‹_› | exact p_ne ‹_› | exact p_nf ‹_› | exact p_l ‹_› | exact b_1 ‹_› | exact Nat.ne_of_gt ‹_› | exact Nat.ne_of_lt ‹_› | exact u_ne ‹_› ‹_› | exact u_nf ‹_› ‹_› | exact u_ab ‹_› ‹_› | exact p_n ‹_› ‹_› | exact p_k ‹_› ‹_› | exact l_e ‹_› ‹_› | exact l_f ‹_› ‹_› | exact b_2 ‹_› ‹_› | exact u_1 _ | exact u_2 _ | (apply Nat.lt_trans; assumption; assumption; done) | (apply Nat.lt_of_lt_of_le; assumption; assumption; done) | (apply Nat.lt_of_le_of_lt; assumption; assumption; done) | (apply Nat.le_trans; assumption; assumption; done) | ((fail_if_success (fail_if_success omega (config := {}))); (first | with_reducible assumption | decide | lia | omega (config := {}))))), Array.getElem?_eq_getElem (by (first | exact u_lt ‹_› | exact u_n ‹_› | exact p_lt ‹_› | exact p_ne ‹_› | exact p_nf ‹_› | exact p_l ‹_› | exact b_1 ‹_› | exact Nat.ne_of_gt ‹_› | exact Nat.ne_of_lt ‹_› | exact u_ne ‹_› ‹_› | exact u_nf ‹_› ‹_› | exact u_ab ‹_› ‹_› | exact p_n ‹_› ‹_› | exact p_k ‹_› ‹_› | exact l_e ‹_› ‹_› | exact l_f ‹_› ‹_› | exact b_2 ‹_› ‹_› | exact u_1 _ | exact u_2 _ | (apply Nat.lt_trans; assumption; assumption; done) | (apply Nat.lt_of_lt_of_le; assumption; assumption; done) | (apply Nat.lt_of_le_of_lt; assumption; assumption; done) | (apply Nat.le_trans; assumption; assumption; done) | ((fail_if_success (fail_if_success omega (config := {}))); (first | with_reducible assumption | decide | lia | omega (config := {})))))] at this
  simpa using this
section
variable {prog : Program} {w : World} {A : Around} {E : Value → Shared → Prop} {s : Shared} {h₀ : Heap} {L : Addr} {m : Str → Option Value} {news : List (Addr × Obj)} {vs : List Value} {ps : List (Int × Int)}
theorem ask_tups {s : Shared} {i j : Nat} {K : Bool → Shared → Prop} {B : Around} (N : News h₀ L s.heap news) (T : TupsIn news vs ps) (hi : i < ps.length) (hj : j < ps.length) (hne : ps.getD i (0, 0) ≠ ps.getD j (0, 0)) (k : K (ltAt ps i j) s) :
    kas_ask prog w B (tuples' true) vs i j K s := by
  obtain ⟨a, t1, t2, ea, ha⟩ := T.get hi
  obtain ⟨b, u1, u2, eb, hb⟩ := T.get hj
  unfold kas_ask
  rw [ea, eb]
  unfold ltAt at k
  generalize ps.getD i (0, 0) = p at *
  generalize ps.getD j (0, 0) = q at *
  refine kat_lt (N _ ha).1 rfl (N _ hb).1 rfl ?_
  refine kat_cons (wpAny_eqBool_int ?_)
  by_cases h1 : p.1 = q.1
  · have e1 : (p.1 == q.1) = true := by rw [h1]; exact beq_self_eq_true _
    rw [e1]
    refine kat_yes (kat_cons (wpAny_eqBool_int ?_))
    have h2 : p.2 ≠ q.2 := fun e => hne (Prod.ext h1 e)
    have e2 : (p.2 == q.2) = false := by simpa using h2
    rw [e2]
    refine kat_no ?_
    refine kat_one _ _ (lt_int ?_)
    have e3 : pairLt p q = decide (p.2 < q.2) := by unfold pairLt lexLt; rw [if_pos h1]
    rw [e3] at k
    exact k
  · have e1 : (p.1 == q.1) = false := by simpa using h1
    rw [e1]
    refine kat_no ?_
    refine oneLt_int ?_
    have e3 : pairLt p q = decide (p.1 < q.1) := by unfold pairLt lexLt; rw [if_neg h1]
    rw [e3] at k
    exact k
theorem sorted_two {l : Addr} {Q : Value → Shared → Prop} (F : Fr h₀ L s.heap m) (N : News h₀ L s.heap news) (hl : s.heap.IsList l vs.toArray) (T : TupsIn news vs ps) (hd : ∀ i j, i < ps.length → j < ps.length → i ≠ j → ps.getD i (0, 0) ≠ ps.getD j (0, 0)) (h2 : 2 ≤ ps.length) (h64 : ps.length < 64)
    (k : ∀ D h' vs' ps' c, TupsIn news vs' ps' → ps'.Perm ps → (ps'.Pairwise fun a b => pairLt a b = true) → Fr h₀ L h' m → News h₀ L h' ((D, listOf vs'.toArray c) :: news) → (∀ q ∈ news, @LT.lt Nat _ q.1 D) → Q (.ref D) { s with heap := h' }) :
    wpAny (model prog w) A (call (.builtin "sorted") [.ref l]) Q E s := by
  refine kat_sorted F N hl (by rw [T.len]; exact h2) (by rw [T.len]; exact h64) fun D e1 h' F' N' lo => ?_
  obtain ⟨fs, k1, k2, k3⟩ := T.tups fun p hp => N' p (.tail _ hp)
  refine kat_kind (fs := fs) (T := .type "int") k1 (by (first | exact u_lt ‹_› | exact u_n ‹_› | exact p_lt ‹_› | exact p_ne ‹_› | exact p_nf ‹_› | exact p_l ‹_› | exact b_1 ‹_› | exact Nat.ne_of_gt ‹_› | exact Nat.ne_of_lt ‹_› | exact u_ne ‹_› ‹_› | exact u_nf ‹_› ‹_› | exact u_ab ‹_› ‹_› | exact p_n ‹_› ‹_› | exact p_k ‹_› ‹_› | exact l_e ‹_› ‹_› | exact l_f ‹_› ‹_› | exact b_2 ‹_› ‹_› | exact u_1 _ | exact u_2 _ | (apply Nat.lt_trans; assumption; assumption; done) | (apply Nat.lt_of_lt_of_le; assumption; assumption; done) | (apply Nat.lt_of_le_of_lt; assumption; assumption; done) | (apply Nat.le_trans; assumption; assumption; done) | ((fail_if_success (fail_if_success omega (config := {}))); (first | with_reducible assumption | decide | lia | omega (config := {}))))) (fun v hv => ?_) (by decide) ?_
  · obtain ⟨n, t, rfl⟩ := k3 v hv
    exact .now
  rw [T.len]
  refine kas_sort_ok (lt := ltAt ps) (Inv := fun s' => s' = { s with heap := h' }) (ltAt_strict hd) (by (first | exact u_lt ‹_› | exact u_n ‹_› | exact p_lt ‹_› | exact p_ne ‹_› | exact p_nf ‹_› | exact p_l ‹_› | exact b_1 ‹_› | exact Nat.ne_of_gt ‹_› | exact Nat.ne_of_lt ‹_› | exact u_ne ‹_› ‹_› | exact u_nf ‹_› ‹_› | exact u_ab ‹_› ‹_› | exact p_n ‹_› ‹_› | exact p_k ‹_› ‹_› | exact l_e ‹_› ‹_› | exact l_f ‹_› ‹_› | exact b_2 ‹_› ‹_› | exact u_1 _ | exact u_2 _ | (apply Nat.lt_trans; assumption; assumption; done) | (apply Nat.lt_of_lt_of_le; assumption; assumption; done) | (apply Nat.lt_of_le_of_lt; assumption; assumption; done) | (apply Nat.le_trans; assumption; assumption; done) | ((fail_if_success (fail_if_success omega (config := {}))); (first | with_reducible assumption | decide | lia | omega (config := {}))))) (fun i j K s' hi hj hne hI c => ?_) rfl (fun q s' hI hq hs => ?_)
  · subst hI
    exact ask_tups (fun p hp => N' p (.tail _ hp)) T hi hj (hd i j hi hj hne) (c _ rfl)
  · subst hI
    exact KasFin.intro F' N' (UpdF.head fun p hp => Nat.ne_of_lt (lo p hp)) fun h'' c F'' N'' => k D h'' _ _ c (T.picked hq) (picked_perm hq) (picked_sorted hq hs) F'' N'' lo
end
-- RgL4

section
variable {prog : Program} {w : World} {A : Around} {E : Value → Shared → Prop} {s : Shared} {h₀ : Heap} {L : Addr} {m : Str → Option Value} {news : List (Addr × Obj)} {v : Value}
/-- a list of one is sorted as it stands -/
theorem sort_one {a : Addr} {n : Nat} {P : PySem.Fin → Shared → Prop} (ho : s.heap.get? a = some (seqObj "list" #[v] n))
    (k : ∀ h' c, (∀ b o, b ≠ a → s.heap.get? b = some o → h'.get? b = some o) → h'.get? a = some (seqObj "list" #[v] c) → P (.done (.ret .none)) { s with heap := h' }) :
    wpAny (model prog w) A (Builtin.«list.sort» ⟨[.ref a], []⟩) P E s := by
  have ha : a < s.heap.objs.size := Heap.lt_size ho
  obtain ⟨e1, ho1⟩ : ∃ e1, (s.heap.update a (Obj.mapSeq fun _ => (#[] : Array Value))).get? a = some (seqObj "list" #[] e1) := ⟨_, get?_update_seq ho fun _ => #[]⟩
  rw [list_sort_plain]
  refine wpAny_bind (listItems_at ho rfl ?_)
  refine wpAny_bind (listUpdate_at ho rfl ?_ (by rw [sizeLine_eq]; exact Nat.le_of_ble_eq_true rfl) (Nat.zero_le _))
  refine wpAny_bind (seqEpoch_at ho1 rfl ?_)
  refine wpAny_bind (wpAny_newTuple ?_ (by rw [sizeLine_eq]; exact Nat.le_of_ble_eq_true rfl))
  refine wpAny_bind (wpAny_newList ?_ (Nat.zero_le _))
  refine wpAny_holding ?_
  have hh := Heap.get?_push_of_some (seqObj "list" (#[] : Array Value) 0) (Heap.get?_push_of_some (seqObj "tuple" #[v] 0) ho1)
  show wpAny (model prog w) A _ P E { s with heap := ((s.heap.update a (Obj.mapSeq fun _ => (#[] : Array Value))).push (seqObj "tuple" #[v] 0)).push (seqObj "list" #[] 0) }
  dsimp only
  rw [if_pos (show (#[v] : Array Value).size < 2 from Nat.le_of_ble_eq_true rfl), if_pos (show (#[v] : Array Value).size < 2 from Nat.le_of_ble_eq_true rfl)]
  refine wpAny_bind (wpAny_pure ?_)
  rw [StateT.run_pure]
  refine wpAny_bind (wpAny_pure ?_)
  dsimp only
  refine wpAny_bind (seqEpoch_at hh rfl ?_)
  have eo : Array.map (fun x : Keyed => x.snd) (arrOf (SortSt.mk' general' ((#[v] : Array Value).zip #[v]) #[] 7 none)) = #[v] := by
    show Array.map (fun x : Keyed => x.snd) ((#[v] : Array Value).zip #[v]) = #[v]
    simp
  rw [eo]
  refine wpAny_bind (listUpdate_at hh rfl ?_ (Nat.zero_le _) (by rw [sizeLine_eq]; exact Nat.le_of_ble_eq_true rfl))
  simp only [bne_self_eq_false, Bool.false_eq_true, if_false]
  refine wpAny_pure (k _ _ (fun b o hb e => ?_) (get?_update_seq hh fun _ => #[v]))
  rw [Heap.get?_update_ne _ _ _ _ hb]
  refine Heap.get?_push_of_some _ (Heap.get?_push_of_some _ ?_)
  rw [Heap.get?_update_ne _ _ _ _ hb]
  exact e
theorem sorted_one {l : Addr} {Q : Value → Shared → Prop} (F : Fr h₀ L s.heap m) (N : News h₀ L s.heap news) (hl : s.heap.IsList l [v].toArray)
    (k : ∀ D h' c, Fr h₀ L h' m → News h₀ L h' ((D, listOf [v].toArray c) :: news) → (∀ q ∈ news, @LT.lt Nat _ q.1 D) → Q (.ref D) { s with heap := h' }) :
    wpAny (model prog w) A (call (.builtin "sorted") [.ref l]) Q E s := by
  refine Calls.call_function_entry kind_sorted plain_sorted entry_sorted (args_sorted1 _) ?_
  unfold Builtin.«sorted»
  refine wpAny_bind (m := checkCount "sorted" 1 1 _) (wpAny_pure ?_)
  refine wpAny_bind (collect_list hl ?_ (by rw [sizeLine_eq]; exact Nat.le_of_ble_eq_true rfl))
  refine wpAny_bind (wpAny_newList ?_ (by rw [sizeLine_eq]; exact Nat.le_of_ble_eq_true rfl))
  have hsz : ((s.heap.push (seqObj "list" #[] 0)).update s.heap.objs.size (Obj.mapSeq (· ++ [v].toArray))).objs.size = s.heap.objs.size + 1 := by
    rw [Heap.size_update, size_push']
  have hoL : (((s.heap.push (seqObj "list" #[] 0)).update s.heap.objs.size (Obj.mapSeq (· ++ [v].toArray))).push (seqObj "list" [v].toArray 0)).get? (s.heap.objs.size + 1) = some (seqObj "list" [v].toArray 0) := by
    rw [← hsz]; exact Heap.get?_push_size _ rfl
  have keep : ∀ b o, s.heap.get? b = some o → (((s.heap.push (seqObj "list" #[] 0)).update s.heap.objs.size (Obj.mapSeq (· ++ [v].toArray))).push (seqObj "list" [v].toArray 0)).get? b = some o := fun b o q => by
    have hlt : b < s.heap.objs.size := Heap.lt_size q
    rw [Heap.get?_push_ne _ _ _ (by rw [hsz]; exact Nat.ne_of_lt (Nat.lt_succ_of_lt hlt)), Heap.get?_update_ne _ _ _ _ (Nat.ne_of_lt hlt), Heap.get?_push_ne _ _ _ (Nat.ne_of_lt hlt)]
    exact q
  have hL : L < s.heap.objs.size := F.ns.lt
  show wpAny _ _ _ _ _ { s with heap := ((s.heap.push (seqObj "list" #[] 0)).update s.heap.objs.size (Obj.mapSeq (· ++ [v].toArray))).push (seqObj "list" [v].toArray 0) }
  rw [hsz]
  refine wpAny_bind (wpAny_holding (wpAny_call_entry slot_list_sort ⟨_, hoL, rfl⟩ entry_list_sort (sort_one hoL fun h' c hk ho => ⟨_, rfl, ?_⟩) (args_list_sort _)))
  have kp : ∀ b o, s.heap.get? b = some o → h'.get? b = some o := fun b o q => hk b o (fun c => by have := Heap.lt_size q; rw [c] at this; exact absurd this (by simp)) (keep b o q)
  refine wpAny_pure ⟨_, rfl, k _ h' c (F.kept kp) (fun p hp => ?_) fun q hq => Nat.lt_succ_of_lt (Heap.lt_size (N q hq).1)⟩
  rcases List.mem_cons.mp hp with rfl | hp
  · exact ⟨ho, Nat.ne_of_gt (Nat.lt_succ_of_lt hL), Heap.get?_none_of_le (Nat.le_trans F.above (Nat.le_succ_of_le (Nat.le_of_lt hL)))⟩
  · exact ⟨kp _ _ (N p hp).1, (N p hp).2⟩
theorem sorted_tups {l : Addr} {vs : List Value} {ps : List (Int × Int)} {Q : Value → Shared → Prop} (F : Fr h₀ L s.heap m) (N : News h₀ L s.heap news) (hl : s.heap.IsList l vs.toArray) (T : TupsIn news vs ps) (hd : ∀ i j, i < ps.length → j < ps.length → i ≠ j → ps.getD i (0, 0) ≠ ps.getD j (0, 0)) (h1 : 1 ≤ ps.length) (h64 : ps.length < 64)
    (k : ∀ D h' vs' ps' c, TupsIn news vs' ps' → ps'.Perm ps → (ps'.Pairwise fun a b => pairLt a b = true) → Fr h₀ L h' m → News h₀ L h' ((D, listOf vs'.toArray c) :: news) → (∀ q ∈ news, @LT.lt Nat _ q.1 D) → Q (.ref D) { s with heap := h' }) :
    wpAny (model prog w) A (call (.builtin "sorted") [.ref l]) Q E s := by
  rcases Nat.lt_or_ge 1 ps.length with h | h
  · exact sorted_two F N hl T hd h h64 k
  · obtain ⟨p, rfl⟩ : ∃ p, ps = [p] := List.length_eq_one_iff.mp (by (first | exact u_lt ‹_› | exact u_n ‹_› | exact p_lt ‹_› | exact p_ne ‹_› | exact p_nf ‹_› | exact p_l ‹_› | exact b_1 ‹_› | exact Nat.ne_of_gt ‹_› | exact Nat.ne_of_lt ‹_› | exact u_ne ‹_› ‹_› | exact u_nf ‹_› ‹_› | exact u_ab ‹_› ‹_› | exact p_n ‹_› ‹_› | exact p_k ‹_› ‹_› | exact l_e ‹_› ‹_› | exact l_f ‹_› ‹_› | exact b_2 ‹_› ‹_› | exact u_1 _ | exact u_2 _ | (apply Nat.lt_trans; assumption; assumption; done) | (apply Nat.lt_of_lt_of_le; assumption; assumption; done) | (apply Nat.lt_of_le_of_lt; assumption; assumption; done) | (apply Nat.le_trans; assumption; assumption; done) | ((fail_if_success (fail_if_success omega (config := {}))); (first | with_reducible assumption | decide | lia | omega (config := {})))))
    obtain ⟨v, rfl⟩ : ∃ v, vs = [v] := List.length_eq_one_iff.mp T.len
    exact sorted_one F N hl fun D h' c F' N' lo => k D h' [v] [p] c T (.refl _) (by simp) F' N' lo
end
-- RgL7

theorem TupsIn.mono {news news' : List (Addr × Obj)} {vs : List Value} {ps : List (Int × Int)} (T : TupsIn news vs ps) (h : ∀ p ∈ news, p ∈ news') : TupsIn news' vs ps :=
  ⟨T.len, fun i p hp => by obtain ⟨a, t1, t2, e, hm⟩ := T.at_ i p hp; exact ⟨a, t1, t2, e, h _ hm⟩⟩
theorem TupsIn.none (news : List (Addr × Obj)) : TupsIn news [] [] := ⟨rfl, fun i p hp => by simp at hp⟩
theorem TupsIn.push {news : List (Addr × Obj)} {vs : List Value} {ps : List (Int × Int)} {r : Addr} {p : Int × Int} {u1 u2 : Tok} (T : TupsIn news vs ps) : TupsIn ((r, oTup p.1 p.2 u1 u2) :: news) (vs ++ [.ref r]) (ps ++ [p]) := by
  refine ⟨by rw [List.length_append, List.length_append, T.len]; rfl, fun i q hq => ?_⟩
  rcases Nat.lt_or_ge i ps.length with h | h
  · rw [List.getElem?_append_left h] at hq
    obtain ⟨a, t1, t2, e, hm⟩ := T.at_ i q hq
    exact ⟨a, t1, t2, by rw [List.getElem?_append_left (by rw [T.len]; exact h)]; exact e, .tail _ hm⟩
  · rw [List.getElem?_append_right h] at hq
    have h0 : i - ps.length = 0 := by
      have := (List.getElem?_eq_some_iff.mp hq).1
      simp at this; (first | exact u_lt ‹_› | exact u_n ‹_› | exact p_lt ‹_› | exact p_ne ‹_› | exact p_nf ‹_› | exact p_l ‹_› | exact b_1 ‹_› | exact Nat.ne_of_gt ‹_› | exact Nat.ne_of_lt ‹_› | exact u_ne ‹_› ‹_› | exact u_nf ‹_› ‹_› | exact u_ab ‹_› ‹_› | exact p_n ‹_› ‹_› | exact p_k ‹_› ‹_› | exact l_e ‹_› ‹_› | exact l_f ‹_› ‹_› | exact b_2 ‹_› ‹_› | exact u_1 _ | exact u_2 _ | (apply Nat.lt_trans; assumption; assumption; done) | (apply Nat.lt_of_lt_of_le; assumption; assumption; done) | (apply Nat.lt_of_le_of_lt; assumption; assumption; done) | (apply Nat.le_trans; assumption; assumption; done) | ((fail_if_success (fail_if_success omega (config := {}))); (first | with_reducible assumption | decide | lia | omega (config := {}))))
    rw [h0] at hq
    have e2 : p = q := by simpa using hq
    subst e2
    exact ⟨r, u1, u2, by rw [List.getElem?_append_right (by rw [T.len]; exact h), T.len, h0]; rfl, .head _⟩
theorem news_pre {h₀ h : Heap} {L : Addr} {a b : List (Addr × Obj)} (N : News h₀ L h (a ++ b)) : News h₀ L h a := fun p hp => N p (List.mem_append_left _ hp)
theorem comp_sub {a b c r : Addr × Obj} {X T : List (Addr × Obj)} : ∀ p ∈ a :: b :: c :: (X ++ (r :: T)), p ∈ [r] ++ (a :: b :: c :: (X ++ T)) := by
  intro p hp
  simp only [List.mem_cons, List.mem_append, List.not_mem_nil, or_false] at hp ⊢
  rcases hp with h | h | h | h | h | h
  · exact .inr (.inl h)
  · exact .inr (.inr (.inl h))
  · exact .inr (.inr (.inr (.inl h)))
  · exact .inr (.inr (.inr (.inr (.inl h))))
  · exact .inl h
  · exact .inr (.inr (.inr (.inr (.inr h))))
theorem off_push {I C D : Addr} {X T : List (Addr × Obj)} {r : Addr} {o : Obj} (h : LCg.Off3 I C D (X ++ T)) (h1 : @LT.lt Nat _ I r) (h2 : @LT.lt Nat _ C r) (h3 : @LT.lt Nat _ D r) : LCg.Off3 I C D (X ++ ((r, o) :: T)) := by
  refine LCg.Off3.of fun p hp => ?_
  rcases List.mem_append.mp hp with hp | hp
  · exact h.mem p (List.mem_append_left _ hp)
  · rcases List.mem_cons.mp hp with rfl | hp
    · exact ⟨Nat.ne_of_gt h1, Nat.ne_of_gt h2, Nat.ne_of_gt h3⟩
    · exact h.mem p (List.mem_append_right _ hp)
theorem off_same {I C D : Addr} {l l' : List (Addr × Obj)} (h : LCg.Off3 I C D l) (e : l'.map Prod.fst = l.map Prod.fst) : LCg.Off3 I C D l' := by
  refine LCg.Off3.of fun p hp => ?_
  have h1 : p.1 ∈ l'.map Prod.fst := List.mem_map_of_mem hp
  rw [e] at h1
  obtain ⟨q, hq, h2⟩ := List.mem_map.mp h1
  rw [← h2]
  exact h.mem q hq
theorem take_ranks {R : List Int} {i : Nat} {k : Int} {f : Int → Int × Int} (hk : R[i]? = some k) : (R.take (i + 1)).map f = (R.take i).map f ++ [f k] := by
  rw [List.take_add_one, hk, List.map_append]; rfl
theorem take_ints {ys : List Value} {l : List Int} {i : Nat} {k : Int} {t : Tok} (h : IntsAre ys (l.take i)) (hk : l[i]? = some k) : IntsAre (ys ++ [.int k t]) (l.take (i + 1)) := by
  rw [List.take_add_one, hk]; exact IntsAre.append h (.cons _ _ .nil)
-- RgD3
noncomputable def takeBehind (act row : List Int) (mine : Int) : List Int → List Int
  | [] => []
  | h :: r => if rankLt act (row.getD h.toNat 0) mine = true then [] else row.getD h.toNat 0 :: takeBehind act row mine r
theorem takeBehind_len (act row : List Int) (mine : Int) : ∀ l : List Int, (takeBehind act row mine l).length ≤ l.length
  | [] => Nat.le_refl _
  | h :: r => by
    rw [takeBehind]
    split
    · exact Nat.zero_le _
    · exact Nat.succ_le_succ (takeBehind_len act row mine r)
noncomputable def layL (row : List Int) : List Int → List Int → List Int
  | h :: ws, v :: vs => layL (row.set h.toNat v) ws vs
  | _, _ => row
theorem layL_nil1 (row l : List Int) : layL row [] l = row := by cases l <;> rfl
theorem layL_nil2 (row l : List Int) : layL row l [] = row := by cases l <;> rfl
noncomputable def dueL (act row : List Int) (spot : Nat) : List Int := layL row (wayL spot) (takeBehind act row (row.getD spot 0) ((wayL spot).drop 1) ++ [row.getD spot 0])
theorem drop_cons {l : List Int} {i : Nat} {k : Int} (h : l[i]? = some k) : l.drop i = k :: l.drop (i + 1) := by
  obtain ⟨hl, e⟩ := List.getElem?_eq_some_iff.mp h
  rw [List.drop_eq_getElem_cons hl, e]
structure WayS where
  last : Nat
  ws : List Int
  vs : List Value
  n : Nat
theorem due_spec {w : World} {env : Env} {outer : List Env} {L : Addr} {h₀ : Heap} {m : Str → Option Value} {dp un : Nat} {gd : Option (List Code)} {s : Shared} {Q E : Value → Shared → Prop}
    {x dx al hl pl : Addr} {D : DP} {avs hvs : List Value} {na nh : Nat} {act heap : List Int} {spot : Int} {t1 : Tok}
    (C : Cx w env outer L h₀) (F : Fr h₀ L s.heap m) (N : News h₀ L s.heap [(x, instObj 144 dx), (dx, oDict D al hl pl), (al, oList avs na), (hl, oList hvs nh)])
    (hdp : dp + 60 < recursionLimit) (hun : un + 300 < cLine)
    (o1 : @LT.lt Nat _ dx x) (o2 : @LT.lt Nat _ x al) (o3 : @LT.lt Nat _ al hl) (o4 : @LT.lt Nat _ hl pl) (ha : IntsAre avs act) (hh : IntsAre hvs heap) (la : act.length ≤ 1000) (lh : heap.length ≤ 1000) (h1 : 0 ≤ spot) (h1' : spot < heap.length) (hr : InRange heap act.length)
    (k : ∀ h' tk' rl rvs rn, (∀ b o, s.heap.get? b = some o → @LT.lt Nat _ b rl) → IntsAre rvs (dueL act heap spot.toNat) → (dueL act heap spot.toNat).length = heap.length → Fr h₀ L h' m → News h₀ L h' [(rl, oList rvs rn)] → KeptAll s.heap h' → Q (.ref rl) { s with heap := h', toks := tk' }) :
    wpAny (model PySem.Challenge.rw_rg0205_01.row.prog w) ⟨none, dp, some (env :: outer), gd, un⟩ (call (.ref 169) [.ref x, .int spot t1]) Q E s := by
  refine cx_elim C fun A₀ base mean mg mb B X T hf hke => ?_
  revert X
  k_fill
  intro X
  refine wpAny_call ?_
  refine' enterR (binds := [(Str.ofString "some", .ref x), (Str.ofString "spot", .int spot t1)]) B F X N T rfl hf hke ?k6 ?k7 ?k8 ?k9 ?kB ?_ ?c2 ?c3 ?c4 ?c5
  case k6 => k_is
  case k7 => k_is
  case k8 => exact Nat.lt_of_le_of_lt (Nat.le_add_right _ _) hdp
  case k9 => exact BindsTo.of_eq rfl
  case kB => exact locs rfl
  case c2 => exact rfl
  case c3 => exact rfl
  case c4 => exact rfl
  case c5 => decide
  intro g' L' h' FG' F' N' B' X' T' l1 hL C'
  dsimp only
  k_fold
  k_lt l1
  have ap : Apart [hl, al, x, dx] := ap_sub (ap5 o1 o2 o3 o4) (by (repeat (first | exact List.nil_sublist _ | (with_reducible refine List.Sublist.cons_cons _ ?_) | (with_reducible refine List.Sublist.cons _ ?_))))
  have lv1 := IntsAre.length ha
  have lv2 := IntsAre.length hh
  obtain ⟨sp0, rfl⟩ := Int.eq_ofNat_of_zero_le h1
  (repeat' (first | (k_unfold; (try dsimp only)) | (k_end; wrow_close) | ((with_reducible show wpAny _ _ (newTuple _) _ _ _); k_here; k_dflt (refine' newTuple_R ?F ?N ?_ ?z; (case F => k_asm); (case N => k_asm); (case z => kmk_size)); intro _ _ _ _ zl zm; (try k_lt zl); (revert zl zm; intro _ _); (try k_sweep)) | ((with_reducible show wpAny _ _ (compareOp CmpOp.Lt (Value.ref _) (Value.ref _)) _ _ _); refine tup_lt (News.isTup (by k_asm) (by k_mem)) (News.isTup (by k_asm) (by k_mem)) (by ktr_units) ?_) | ((with_reducible show wpAny _ _ (call (Value.type _) [Value.ref _]) _ _ _); k_here; (with_unfolding_all (refine' list_copyR ?k1 ?k2 ?k3 ?_ ?z; (case k1 => k_asm); (case k2 => k_asm); (case k3 => is_list); (case z => size_fits); k_whole)); intro _ _ _ _ _ zl zm; (try k_lt zl); (revert zl zm; intro _ _); (try k_sweep)) | ((with_reducible show wpAny _ _ (exec (Stmt.Assign [Expr.Tuple _ _ _] _ _) _) _ _ _); refine Assign_Tuple_swapped (names := [Str.ofString "row", Str.ofString "way"]) ?_ (by rfl) (by rfl)) | ((with_reducible show wpAny _ _ (exec (Stmt.Assign [Expr.Tuple _ _ _] _ _) _) _ _ _); refine Assign_Tuple_swapped (names := [Str.ofString "mine", Str.ofString "behind"]) ?_ (by rfl) (by rfl)) | walk1 | (dsimp only; walk1) | (leave1; walk_say "STEP leave1"; try dsimp only) | fail "no step"))
  rename_i rl c1 h5 hLr m1 wl h4 m2 D4 h3 q2 m3 h2 h1' h0 F9 N9
  have ap := ap_cons ap (by repeat (first | exact True.intro | (refine And.intro (by (first | exact m1.1 | exact m1.2.1 | exact m1.2.2.1 | exact m1.2.2.2.1 | exact m1.2.2.2.2.1 | exact m1.2.2.2.2.2.1 | exact m1.2.2.2.2.2.2.1 | exact m1.2.2.2.2.2.2.2.1 | exact m1.2.2.2.2.2.2.2.2.1 | exact m1.2.2.2.2.2.2.2.2.2.1 | exact m1.2.2.2.2.2.2.2.2.2.2.1 | exact m1.2.2.2.2.2.2.2.2.2.2.2.1 | exact m1.2.2.2.2.2.2.2.2.2.2.2.2.1 | exact m1.2.2.2.2.2.2.2.2.2.2.2.2.2.1 | exact m1 | exact m1.2 | exact m1.2.2 | exact m1.2.2.2 | exact m1.2.2.2.2 | exact m1.2.2.2.2.2 | exact m1.2.2.2.2.2.2 | exact m1.2.2.2.2.2.2.2 | exact m1.2.2.2.2.2.2.2.2 | exact m1.2.2.2.2.2.2.2.2.2 | exact m1.2.2.2.2.2.2.2.2.2.2 | exact m1.2.2.2.2.2.2.2.2.2.2.2 | exact m1.2.2.2.2.2.2.2.2.2.2.2.2 | exact m1.2.2.2.2.2.2.2.2.2.2.2.2.2)) ?_)))
  have ap := ap_cons ap (by repeat (first | exact True.intro | (refine And.intro (by (first | exact m2.1 | exact m2.2.1 | exact m2.2.2.1 | exact m2.2.2.2.1 | exact m2.2.2.2.2.1 | exact m2.2.2.2.2.2.1 | exact m2.2.2.2.2.2.2.1 | exact m2.2.2.2.2.2.2.2.1 | exact m2.2.2.2.2.2.2.2.2.1 | exact m2.2.2.2.2.2.2.2.2.2.1 | exact m2.2.2.2.2.2.2.2.2.2.2.1 | exact m2.2.2.2.2.2.2.2.2.2.2.2.1 | exact m2.2.2.2.2.2.2.2.2.2.2.2.2.1 | exact m2.2.2.2.2.2.2.2.2.2.2.2.2.2.1 | exact m2 | exact m2.2 | exact m2.2.2 | exact m2.2.2.2 | exact m2.2.2.2.2 | exact m2.2.2.2.2.2 | exact m2.2.2.2.2.2.2 | exact m2.2.2.2.2.2.2.2 | exact m2.2.2.2.2.2.2.2.2 | exact m2.2.2.2.2.2.2.2.2.2 | exact m2.2.2.2.2.2.2.2.2.2.2 | exact m2.2.2.2.2.2.2.2.2.2.2.2 | exact m2.2.2.2.2.2.2.2.2.2.2.2.2 | exact m2.2.2.2.2.2.2.2.2.2.2.2.2.2)) ?_)))

  refine stop_go ?_
  refine ksw_while (σ := WayS) (fun c => [(wl, oList c.vs c.n), (rl, oList hvs c1), (x, instObj 144 dx), (dx, oDict D al hl pl), (al, oList avs na), (hl, oList hvs nh)]) (fun c => []) (fun _ => True) []
    (fun c => c.ws ++ [(c.last : Int)] ++ (wayL c.last).tail = wayL sp0 ∧ IntsAre c.vs (c.ws ++ [(c.last : Int)]) ∧ c.last ≤ sp0)
    (fun c => c.last) ⟨sp0, [], [.int sp0 t1], 0⟩ F9 (news_sub N9 (by (first | ((repeat (first | exact sub_nil | refine sub_cons 0 rfl ?_ | refine sub_cons 1 rfl ?_ | refine sub_cons 2 rfl ?_ | refine sub_cons 3 rfl ?_ | refine sub_cons 4 rfl ?_ | refine sub_cons 5 rfl ?_ | refine sub_cons 6 rfl ?_ | refine sub_cons 7 rfl ?_ | refine sub_cons 8 rfl ?_ | refine sub_cons 9 rfl ?_ | refine sub_cons 10 rfl ?_ | refine sub_cons 11 rfl ?_ | refine sub_cons 12 rfl ?_ | refine sub_cons 13 rfl ?_)); done) | kcf_all))) trivial (by kst_all) ⟨?_, .cons _ _ .nil, Nat.le_refl _⟩ ?_
  · show [(sp0 : Int)] ++ (wayL sp0).tail = wayL sp0
    rw [wayL_eq]; rfl
  rintro ⟨last, ws, vs, n1⟩ u h tk _ hJ F1 N1
  dsimp only at hJ
  have e := hJ.1
  have hw := hJ.2.1
  have hlast := hJ.2.2
  clear hJ
  clear F9 N9
  dsimp only at e hw hlast F1 N1 ⊢
  have lv3 := IntsAre.length hw
  have hwl := congrArg List.length e
  have hwl2 := wayL_len sp0
  rw [List.length_append] at hwl
  rw [List.length_append, List.length_singleton] at lv3 hwl
  show wpAny _ _ _ _ _ _
  k_fold
  (repeat' (first | (k_unfold; (try dsimp only)) | (k_end; wrow_close) | ((with_reducible show wpAny _ _ (newTuple _) _ _ _); k_here; k_dflt (refine' newTuple_R ?F ?N ?_ ?z; (case F => k_asm); (case N => k_asm); (case z => kmk_size)); intro _ _ _ _ zl zm; (try k_lt zl); (revert zl zm; intro _ _); (try k_sweep)) | ((with_reducible show wpAny _ _ (compareOp CmpOp.Lt (Value.ref _) (Value.ref _)) _ _ _); refine tup_lt (News.isTup (by k_asm) (by k_mem)) (News.isTup (by k_asm) (by k_mem)) (by ktr_units) ?_) | ((with_reducible show wpAny _ _ (call (Value.type _) [Value.ref _]) _ _ _); k_here; (with_unfolding_all (refine' list_copyR ?k1 ?k2 ?k3 ?_ ?z; (case k1 => k_asm); (case k2 => k_asm); (case k3 => is_list); (case z => size_fits); k_whole)); intro _ _ _ _ _ zl zm; (try k_lt zl); (revert zl zm; intro _ _); (try k_sweep)) | ((with_reducible show wpAny _ _ (exec (Stmt.Assign [Expr.Tuple _ _ _] _ _) _) _ _ _); refine Assign_Tuple_swapped (names := [Str.ofString "row", Str.ofString "way"]) ?_ (by rfl) (by rfl)) | ((with_reducible show wpAny _ _ (exec (Stmt.Assign [Expr.Tuple _ _ _] _ _) _) _ _ _); refine Assign_Tuple_swapped (names := [Str.ofString "mine", Str.ofString "behind"]) ?_ (by rfl) (by rfl)) | walk1 | (dsimp only; walk1) | (leave1; walk_say "STEP leave1"; try dsimp only) | fail "no step"))
  · have hl0 : 0 < last := by (first | (apply ap_x; assumption; (repeat constructor); done) | (refine Nat.ne_of_gt ?_; simp only [*]; done) | (refine Nat.ne_of_lt ?_; simp only [*]; done) | ((fail_if_success (fail_if_success omega (config := {}))); (first | with_reducible assumption | decide | lia | omega (config := {}))))
    have hna := next_above hl0
    have N4 := ‹News g' L' _ _›
    have F4 := ‹Fr g' L' _ _›
    try dsimp only at F4 N4 ⊢
    simp only [List.push_toArray, hna] at N4
    refine stop_go (ksw_end ⟨(last - 1) / 2, ws ++ [(last : Int)], _, _⟩ F4 N4 (by (first | ((repeat (first | exact sub_nil | refine sub_cons 0 rfl ?_ | refine sub_cons 1 rfl ?_ | refine sub_cons 2 rfl ?_ | refine sub_cons 3 rfl ?_ | refine sub_cons 4 rfl ?_ | refine sub_cons 5 rfl ?_ | refine sub_cons 6 rfl ?_ | refine sub_cons 7 rfl ?_ | refine sub_cons 8 rfl ?_ | refine sub_cons 9 rfl ?_ | refine sub_cons 10 rfl ?_ | refine sub_cons 11 rfl ?_ | refine sub_cons 12 rfl ?_ | refine sub_cons 13 rfl ?_)); done) | kcf_all)) trivial (by kst_all) (by intro z h2 h3; rfl) ⟨?_, IntsAre.append hw (.cons _ _ .nil), ?_⟩ ?_)
    · show ws ++ [(last : Int)] ++ [(((last - 1) / 2 : Nat) : Int)] ++ (wayL ((last - 1) / 2)).tail = _
      rw [← e, wayL_pos hl0, List.append_assoc, List.tail_cons]
      congr 1
      conv => rhs; rw [wayL_eq]
      rw [wayL_eq]; rfl
    · show (last - 1) / 2 ≤ sp0
      (first | (apply ap_x; assumption; (repeat constructor); done) | (refine Nat.ne_of_gt ?_; simp only [*]; done) | (refine Nat.ne_of_lt ?_; simp only [*]; done) | ((fail_if_success (fail_if_success omega (config := {}))); (first | with_reducible assumption | decide | lia | omega (config := {}))))
    · show (last - 1) / 2 < last
      (first | (apply ap_x; assumption; (repeat constructor); done) | (refine Nat.ne_of_gt ?_; simp only [*]; done) | (refine Nat.ne_of_lt ?_; simp only [*]; done) | ((fail_if_success (fail_if_success omega (config := {}))); (first | with_reducible assumption | decide | lia | omega (config := {}))))
  · have hl0 : last = 0 := by (first | (apply ap_x; assumption; (repeat constructor); done) | (refine Nat.ne_of_gt ?_; simp only [*]; done) | (refine Nat.ne_of_lt ?_; simp only [*]; done) | ((fail_if_success (fail_if_success omega (config := {}))); (first | with_reducible assumption | decide | lia | omega (config := {}))))
    subst hl0
    rw [wayL_zero, List.tail_cons, List.append_nil] at e
    have hw' : IntsAre vs (wayL sp0) := e ▸ hw
    have N5 := ‹News g' L' _ _›
    have F5 := ‹Fr g' L' _ _›
    try dsimp only at F5 N5 ⊢
    rename_i tm bl e1 e2 e3 e4 e5 e6 e7 e8 e9 e10 e11 e12
    have ap := ap_cons ap (by repeat (first | exact True.intro | (refine And.intro (by (first | exact e2.1 | exact e2.2.1 | exact e2.2.2.1 | exact e2.2.2.2.1 | exact e2.2.2.2.2.1 | exact e2.2.2.2.2.2.1 | exact e2.2.2.2.2.2.2.1 | exact e2.2.2.2.2.2.2.2.1 | exact e2.2.2.2.2.2.2.2.2.1 | exact e2.2.2.2.2.2.2.2.2.2.1 | exact e2.2.2.2.2.2.2.2.2.2.2.1 | exact e2.2.2.2.2.2.2.2.2.2.2.2.1 | exact e2.2.2.2.2.2.2.2.2.2.2.2.2.1 | exact e2.2.2.2.2.2.2.2.2.2.2.2.2.2.1 | exact e2 | exact e2.2 | exact e2.2.2 | exact e2.2.2.2 | exact e2.2.2.2.2 | exact e2.2.2.2.2.2 | exact e2.2.2.2.2.2.2 | exact e2.2.2.2.2.2.2.2 | exact e2.2.2.2.2.2.2.2.2 | exact e2.2.2.2.2.2.2.2.2.2 | exact e2.2.2.2.2.2.2.2.2.2.2 | exact e2.2.2.2.2.2.2.2.2.2.2.2 | exact e2.2.2.2.2.2.2.2.2.2.2.2.2 | exact e2.2.2.2.2.2.2.2.2.2.2.2.2.2)) ?_)))
    obtain ⟨m9, F9⟩ := fr_canon (ps := [(Str.ofString "some", .ref x), (Str.ofString "spot", .int sp0 t1), (Str.ofString "row", .ref rl), (Str.ofString "way", .ref wl), (Str.ofString "mine", .int (heap.getD sp0 0) tm), (Str.ofString "behind", .ref bl)]) F5 (by kst_all)
    have N9 : News g' L' _ [(bl, oList [] 0), (wl, oList vs n1), (rl, oList hvs c1), (x, instObj 144 dx), (dx, oDict D al hl pl), (al, oList avs na), (hl, oList hvs nh)] := news_sub N5 (by (first | ((repeat (first | exact sub_nil | refine sub_cons 0 rfl ?_ | refine sub_cons 1 rfl ?_ | refine sub_cons 2 rfl ?_ | refine sub_cons 3 rfl ?_ | refine sub_cons 4 rfl ?_ | refine sub_cons 5 rfl ?_ | refine sub_cons 6 rfl ?_ | refine sub_cons 7 rfl ?_ | refine sub_cons 8 rfl ?_ | refine sub_cons 9 rfl ?_ | refine sub_cons 10 rfl ?_ | refine sub_cons 11 rfl ?_ | refine sub_cons 12 rfl ?_ | refine sub_cons 13 rfl ?_)); done) | kcf_all))
    have hmem := wayL_mem (sp := sp0)
    clear F5 N5 e10 e11
    obtain ⟨Mid, hMid⟩ : ∃ M : Flow → Shared → Prop, Hide ((∀ (h : Heap) (tk : Nat) m' bvs bn, (Fr g' L' h (kstB m' [(Str.ofString "some", .ref x), (Str.ofString "spot", .int sp0 t1), (Str.ofString "row", .ref rl), (Str.ofString "way", .ref wl), (Str.ofString "mine", .int (heap.getD sp0 0) tm), (Str.ofString "behind", .ref bl)])) → (News g' L' h [(bl, oList bvs bn), (wl, oList vs n1), (rl, oList hvs c1), (x, instObj 144 dx), (dx, oDict D al hl pl), (al, oList avs na), (hl, oList hvs nh)]) → (IntsAre bvs (takeBehind act heap (heap.getD sp0 0) ((wayL sp0).drop 1))) → M .next { s with heap := h, toks := tk }) ∧ (∀ C : Flow → Shared → Prop, (∀ (h : Heap) (tk : Nat) m' bvs bn, (Fr g' L' h (kstB m' [(Str.ofString "some", .ref x), (Str.ofString "spot", .int sp0 t1), (Str.ofString "row", .ref rl), (Str.ofString "way", .ref wl), (Str.ofString "mine", .int (heap.getD sp0 0) tm), (Str.ofString "behind", .ref bl)])) → (News g' L' h [(bl, oList bvs bn), (wl, oList vs n1), (rl, oList hvs c1), (x, instObj 144 dx), (dx, oDict D al hl pl), (al, oList avs na), (hl, oList hvs nh)]) → (IntsAre bvs (takeBehind act heap (heap.getD sp0 0) ((wayL sp0).drop 1))) → C .next { s with heap := h, toks := tk }) → ∀ f s', M f s' → C f s')) := ⟨fun f s' => f = .next ∧ ∃ h tk m' bvs bn, s' = { s with heap := h, toks := tk } ∧ Fr g' L' h (kstB m' [(Str.ofString "some", .ref x), (Str.ofString "spot", .int sp0 t1), (Str.ofString "row", .ref rl), (Str.ofString "way", .ref wl), (Str.ofString "mine", .int (heap.getD sp0 0) tm), (Str.ofString "behind", .ref bl)]) ∧ News g' L' h [(bl, oList bvs bn), (wl, oList vs n1), (rl, oList hvs c1), (x, instObj 144 dx), (dx, oDict D al hl pl), (al, oList avs na), (hl, oList hvs nh)] ∧ IntsAre bvs (takeBehind act heap (heap.getD sp0 0) ((wayL sp0).drop 1)), fun h tk m' bvs bn a b c => ⟨rfl, h, tk, m', bvs, bn, rfl, a, b, c⟩, by rintro C k f s' ⟨rfl, h, tk, m', bvs, bn, rfl, a, b, c⟩; exact k h tk m' bvs bn a b c⟩
    refine stop_go (wpAny_mono (Q := Mid) ?_ ?_ (fun _ _ e => e))
    · refine For_turns F9 ?_
      (repeat' (first | (k_unfold; (try dsimp only)) | (k_end; wrow_close) | ((with_reducible show wpAny _ _ (newTuple _) _ _ _); k_here; k_dflt (refine' newTuple_R ?F ?N ?_ ?z; (case F => k_asm); (case N => k_asm); (case z => kmk_size)); intro _ _ _ _ zl zm; (try k_lt zl); (revert zl zm; intro _ _); (try k_sweep)) | ((with_reducible show wpAny _ _ (compareOp CmpOp.Lt (Value.ref _) (Value.ref _)) _ _ _); refine tup_lt (News.isTup (by k_asm) (by k_mem)) (News.isTup (by k_asm) (by k_mem)) (by ktr_units) ?_) | ((with_reducible show wpAny _ _ (call (Value.type _) [Value.ref _]) _ _ _); k_here; (with_unfolding_all (refine' list_copyR ?k1 ?k2 ?k3 ?_ ?z; (case k1 => k_asm); (case k2 => k_asm); (case k3 => is_list); (case z => size_fits); k_whole)); intro _ _ _ _ _ zl zm; (try k_lt zl); (revert zl zm; intro _ _); (try k_sweep)) | ((with_reducible show wpAny _ _ (exec (Stmt.Assign [Expr.Tuple _ _ _] _ _) _) _ _ _); refine Assign_Tuple_swapped (names := [Str.ofString "row", Str.ofString "way"]) ?_ (by rfl) (by rfl)) | ((with_reducible show wpAny _ _ (exec (Stmt.Assign [Expr.Tuple _ _ _] _ _) _) _ _ _); refine Assign_Tuple_swapped (names := [Str.ofString "mine", Str.ofString "behind"]) ?_ (by rfl) (by rfl)) | walk1 | (dsimp only; walk1) | (leave1; walk_say "STEP leave1"; try dsimp only) | fail "no step"))
      rename_i sl sv e13 F10 N10 hI10 e14 e15 e16
      have ap := ap_cons ap (by repeat (first | exact True.intro | (refine And.intro (by (first | exact e16.1 | exact e16.2.1 | exact e16.2.2.1 | exact e16.2.2.2.1 | exact e16.2.2.2.2.1 | exact e16.2.2.2.2.2.1 | exact e16.2.2.2.2.2.2.1 | exact e16.2.2.2.2.2.2.2.1 | exact e16.2.2.2.2.2.2.2.2.1 | exact e16.2.2.2.2.2.2.2.2.2.1 | exact e16.2.2.2.2.2.2.2.2.2.2.1 | exact e16.2.2.2.2.2.2.2.2.2.2.2.1 | exact e16.2.2.2.2.2.2.2.2.2.2.2.2.1 | exact e16.2.2.2.2.2.2.2.2.2.2.2.2.2.1 | exact e16 | exact e16.2 | exact e16.2.2 | exact e16.2.2.2 | exact e16.2.2.2.2 | exact e16.2.2.2.2.2 | exact e16.2.2.2.2.2.2 | exact e16.2.2.2.2.2.2.2 | exact e16.2.2.2.2.2.2.2.2 | exact e16.2.2.2.2.2.2.2.2.2 | exact e16.2.2.2.2.2.2.2.2.2.2 | exact e16.2.2.2.2.2.2.2.2.2.2.2 | exact e16.2.2.2.2.2.2.2.2.2.2.2.2 | exact e16.2.2.2.2.2.2.2.2.2.2.2.2.2)) ?_)))
      have N11 : News g' L' _ [(sl, oList sv 0), (bl, oList [] 0), (wl, oList vs n1), (rl, oList hvs c1), (x, instObj 144 dx), (dx, oDict D al hl pl), (al, oList avs na), (hl, oList hvs nh)] := news_sub N10 (by (first | ((repeat (first | exact sub_nil | refine sub_cons 0 rfl ?_ | refine sub_cons 1 rfl ?_ | refine sub_cons 2 rfl ?_ | refine sub_cons 3 rfl ?_ | refine sub_cons 4 rfl ?_ | refine sub_cons 5 rfl ?_ | refine sub_cons 6 rfl ?_ | refine sub_cons 7 rfl ?_ | refine sub_cons 8 rfl ?_ | refine sub_cons 9 rfl ?_ | refine sub_cons 10 rfl ?_ | refine sub_cons 11 rfl ?_ | refine sub_cons 12 rfl ?_ | refine sub_cons 13 rfl ?_)); done) | kcf_all))
      refine stop_go (iter_listTurns (by rfl) F10 N11 (by k_mem) (by rfl) (by rfl) fun I lI => ?_)
      obtain ⟨Inv1, hInv1⟩ : ∃ I : Nat → (Str → Option Value) → List (Addr × Obj) → Prop, Hide ((∀ (i : Nat) (m₁ : Str → Option Value) (nw : List (Addr × Obj)), (∃ m', m₁ = kstB m' [(Str.ofString "some", .ref x), (Str.ofString "spot", .int sp0 t1), (Str.ofString "row", .ref rl), (Str.ofString "way", .ref wl), (Str.ofString "mine", .int (heap.getD sp0 0) tm), (Str.ofString "behind", .ref bl)]) → ∀ bs bvs bn, nw = [(sl, oList sv 0), (bl, oList bvs bn), (wl, oList vs n1), (rl, oList hvs c1), (x, instObj 144 dx), (dx, oDict D al hl pl), (al, oList avs na), (hl, oList hvs nh)] → (IntsAre bvs bs) → (bs ++ takeBehind act heap (heap.getD sp0 0) (((wayL sp0).drop 1).drop i) = takeBehind act heap (heap.getD sp0 0) ((wayL sp0).drop 1)) → (bs.length = i) → I i m₁ nw) ∧ (∀ (i : Nat) (C : (Str → Option Value) → List (Addr × Obj) → Prop), (∀ m' bs bvs bn, (IntsAre bvs bs) → (bs ++ takeBehind act heap (heap.getD sp0 0) (((wayL sp0).drop 1).drop i) = takeBehind act heap (heap.getD sp0 0) ((wayL sp0).drop 1)) → (bs.length = i) → C (kstB m' [(Str.ofString "some", .ref x), (Str.ofString "spot", .int sp0 t1), (Str.ofString "row", .ref rl), (Str.ofString "way", .ref wl), (Str.ofString "mine", .int (heap.getD sp0 0) tm), (Str.ofString "behind", .ref bl)]) [(sl, oList sv 0), (bl, oList bvs bn), (wl, oList vs n1), (rl, oList hvs c1), (x, instObj 144 dx), (dx, oDict D al hl pl), (al, oList avs na), (hl, oList hvs nh)]) → ∀ m₁ nw, I i m₁ nw → C m₁ nw)) := ⟨fun i m₁ nw => (∃ m', m₁ = kstB m' [(Str.ofString "some", .ref x), (Str.ofString "spot", .int sp0 t1), (Str.ofString "row", .ref rl), (Str.ofString "way", .ref wl), (Str.ofString "mine", .int (heap.getD sp0 0) tm), (Str.ofString "behind", .ref bl)]) ∧ ∃ bs bvs bn, nw = [(sl, oList sv 0), (bl, oList bvs bn), (wl, oList vs n1), (rl, oList hvs c1), (x, instObj 144 dx), (dx, oDict D al hl pl), (al, oList avs na), (hl, oList hvs nh)] ∧ IntsAre bvs bs ∧ bs ++ takeBehind act heap (heap.getD sp0 0) (((wayL sp0).drop 1).drop i) = takeBehind act heap (heap.getD sp0 0) ((wayL sp0).drop 1) ∧ bs.length = i, fun i m₁ nw h0 bs bvs bn h1 g0 g1 g2 => ⟨h0, bs, bvs, bn, h1, g0, g1, g2⟩, by rintro i C k m₁ nw ⟨⟨m', rfl⟩, bs, bvs, bn, rfl, g0, g1, g2⟩; exact k m' bs bvs bn g0 g1 g2⟩
      refine items_inv Inv1 (hInv1.out.1 _ _ _ ⟨m9, rfl⟩ ([]) ([]) 0 rfl .nil rfl rfl) ?_ ?_
      · rintro i a m₁ nw v1 h1 tk1 hxa hinv hav
        revert m₁ nw hinv
        refine hInv1.out.2 _ _ ?_
        intro m' bs bvs bn hb hbt hbl F1
        revert a v1 hxa hav
        refine lst_elim hI10 ?_
        intro kk tt hkk
        have hkm := hmem kk (List.mem_of_mem_drop (List.mem_of_getElem? hkk))
        have hdk : ((wayL sp0).drop 1).drop i = kk :: ((wayL sp0).drop 1).drop (i + 1) := drop_cons hkk
        rw [hdk] at hbt
        refine AllObj.cons fun oI hcI => AllObj.nil fun N1 => ?_
        dsimp only [List.cons_append, List.nil_append] at N1
        have lI' := allLt_of lI
        dsimp only [AllLt] at lI'
        have ap := ap_cons ap (by repeat (first | exact True.intro | (refine And.intro (by (first | exact lI'.1 | exact lI'.2.1 | exact lI'.2.2.1 | exact lI'.2.2.2.1 | exact lI'.2.2.2.2.1 | exact lI'.2.2.2.2.2.1 | exact lI'.2.2.2.2.2.2.1 | exact lI'.2.2.2.2.2.2.2.1 | exact lI'.2.2.2.2.2.2.2.2.1 | exact lI'.2.2.2.2.2.2.2.2.2.1 | exact lI'.2.2.2.2.2.2.2.2.2.2.1 | exact lI'.2.2.2.2.2.2.2.2.2.2.2.1 | exact lI'.2.2.2.2.2.2.2.2.2.2.2.2.1 | exact lI'.2.2.2.2.2.2.2.2.2.2.2.2.2.1 | exact lI' | exact lI'.2 | exact lI'.2.2 | exact lI'.2.2.2 | exact lI'.2.2.2.2 | exact lI'.2.2.2.2.2 | exact lI'.2.2.2.2.2.2 | exact lI'.2.2.2.2.2.2.2 | exact lI'.2.2.2.2.2.2.2.2 | exact lI'.2.2.2.2.2.2.2.2.2 | exact lI'.2.2.2.2.2.2.2.2.2.2 | exact lI'.2.2.2.2.2.2.2.2.2.2.2 | exact lI'.2.2.2.2.2.2.2.2.2.2.2.2 | exact lI'.2.2.2.2.2.2.2.2.2.2.2.2.2)) ?_)))
        have hgk := hr.at (i := kk.toNat) (by (first | (apply ap_x; assumption; (repeat constructor); done) | (refine Nat.ne_of_gt ?_; simp only [*]; done) | (refine Nat.ne_of_lt ?_; simp only [*]; done) | ((fail_if_success (fail_if_success omega (config := {}))); (first | with_reducible assumption | decide | lia | omega (config := {})))))
        have hgs := hr.at (i := sp0) (by (first | (apply ap_x; assumption; (repeat constructor); done) | (refine Nat.ne_of_gt ?_; simp only [*]; done) | (refine Nat.ne_of_lt ?_; simp only [*]; done) | ((fail_if_success (fail_if_success omega (config := {}))); (first | with_reducible assumption | decide | lia | omega (config := {})))))
        try k_fold
        (repeat' (first | (k_unfold; (try dsimp only)) | (k_end; wrow_close) | ((with_reducible show wpAny _ _ (newTuple _) _ _ _); k_here; k_dflt (refine' newTuple_R ?F ?N ?_ ?z; (case F => k_asm); (case N => k_asm); (case z => kmk_size)); intro _ _ _ _ zl zm; (try k_lt zl); (revert zl zm; intro _ _); (try k_sweep)) | ((with_reducible show wpAny _ _ (compareOp CmpOp.Lt (Value.ref _) (Value.ref _)) _ _ _); refine tup_lt (News.isTup (by k_asm) (by k_mem)) (News.isTup (by k_asm) (by k_mem)) (by ktr_units) ?_) | ((with_reducible show wpAny _ _ (call (Value.type _) [Value.ref _]) _ _ _); k_here; (with_unfolding_all (refine' list_copyR ?k1 ?k2 ?k3 ?_ ?z; (case k1 => k_asm); (case k2 => k_asm); (case k3 => is_list); (case z => size_fits); k_whole)); intro _ _ _ _ _ zl zm; (try k_lt zl); (revert zl zm; intro _ _); (try k_sweep)) | ((with_reducible show wpAny _ _ (exec (Stmt.Assign [Expr.Tuple _ _ _] _ _) _) _ _ _); refine Assign_Tuple_swapped (names := [Str.ofString "row", Str.ofString "way"]) ?_ (by rfl) (by rfl)) | ((with_reducible show wpAny _ _ (exec (Stmt.Assign [Expr.Tuple _ _ _] _ _) _) _ _ _); refine Assign_Tuple_swapped (names := [Str.ofString "mine", Str.ofString "behind"]) ?_ (by rfl) (by rfl)) | walk1 | (dsimp only; walk1) | (leave1; walk_say "STEP leave1"; try dsimp only) | fail "no step"))
        have N2 := ‹News g' L' _ _›
        have F2 := ‹Fr g' L' _ _›
        try dsimp only at F2 N2 ⊢
        refine stop_go (rank_spec C' F2 (cb_drop N2 (by (first | ((repeat (first | exact sub_nil | refine sub_cons 0 rfl ?_ | refine sub_cons 1 rfl ?_ | refine sub_cons 2 rfl ?_ | refine sub_cons 3 rfl ?_ | refine sub_cons 4 rfl ?_ | refine sub_cons 5 rfl ?_ | refine sub_cons 6 rfl ?_ | refine sub_cons 7 rfl ?_ | refine sub_cons 8 rfl ?_ | refine sub_cons 9 rfl ?_ | refine sub_cons 10 rfl ?_ | refine sub_cons 11 rfl ?_ | refine sub_cons 12 rfl ?_ | refine sub_cons 13 rfl ?_)); done) | kcf_all))) (by show dp + 1 + 20 < recursionLimit; exact room2 hdp rfl) (by show un + 3 + 100 < cLine; exact room2 hun rfl) ha la hgk.1 hgk.2 ?_)
        intro h3 tk3 r3 u3 u3' hr3 F3 N3 K3
        have N4 := news_join N3 (news_all N2 K3)
        have l9 := allLt_news N2 hr3
        dsimp only [AllLt] at l9
        have ap := ap_cons ap (by repeat (first | exact True.intro | (refine And.intro (by (first | exact l9.1 | exact l9.2.1 | exact l9.2.2.1 | exact l9.2.2.2.1 | exact l9.2.2.2.2.1 | exact l9.2.2.2.2.2.1 | exact l9.2.2.2.2.2.2.1 | exact l9.2.2.2.2.2.2.2.1 | exact l9.2.2.2.2.2.2.2.2.1 | exact l9.2.2.2.2.2.2.2.2.2.1 | exact l9.2.2.2.2.2.2.2.2.2.2.1 | exact l9.2.2.2.2.2.2.2.2.2.2.2.1 | exact l9.2.2.2.2.2.2.2.2.2.2.2.2.1 | exact l9.2.2.2.2.2.2.2.2.2.2.2.2.2.1 | exact l9 | exact l9.2 | exact l9.2.2 | exact l9.2.2.2 | exact l9.2.2.2.2 | exact l9.2.2.2.2.2 | exact l9.2.2.2.2.2.2 | exact l9.2.2.2.2.2.2.2 | exact l9.2.2.2.2.2.2.2.2 | exact l9.2.2.2.2.2.2.2.2.2 | exact l9.2.2.2.2.2.2.2.2.2.2 | exact l9.2.2.2.2.2.2.2.2.2.2.2 | exact l9.2.2.2.2.2.2.2.2.2.2.2.2 | exact l9.2.2.2.2.2.2.2.2.2.2.2.2.2)) ?_)))
        dsimp only [List.cons_append, List.nil_append] at N4
        clear F2 N2 N3 K3 hr3
        (repeat' (first | (k_unfold; (try dsimp only)) | (k_end; wrow_close) | ((with_reducible show wpAny _ _ (newTuple _) _ _ _); k_here; k_dflt (refine' newTuple_R ?F ?N ?_ ?z; (case F => k_asm); (case N => k_asm); (case z => kmk_size)); intro _ _ _ _ zl zm; (try k_lt zl); (revert zl zm; intro _ _); (try k_sweep)) | ((with_reducible show wpAny _ _ (compareOp CmpOp.Lt (Value.ref _) (Value.ref _)) _ _ _); refine tup_lt (News.isTup (by k_asm) (by k_mem)) (News.isTup (by k_asm) (by k_mem)) (by ktr_units) ?_) | ((with_reducible show wpAny _ _ (call (Value.type _) [Value.ref _]) _ _ _); k_here; (with_unfolding_all (refine' list_copyR ?k1 ?k2 ?k3 ?_ ?z; (case k1 => k_asm); (case k2 => k_asm); (case k3 => is_list); (case z => size_fits); k_whole)); intro _ _ _ _ _ zl zm; (try k_lt zl); (revert zl zm; intro _ _); (try k_sweep)) | ((with_reducible show wpAny _ _ (exec (Stmt.Assign [Expr.Tuple _ _ _] _ _) _) _ _ _); refine Assign_Tuple_swapped (names := [Str.ofString "row", Str.ofString "way"]) ?_ (by rfl) (by rfl)) | ((with_reducible show wpAny _ _ (exec (Stmt.Assign [Expr.Tuple _ _ _] _ _) _) _ _ _); refine Assign_Tuple_swapped (names := [Str.ofString "mine", Str.ofString "behind"]) ?_ (by rfl) (by rfl)) | walk1 | (dsimp only; walk1) | (leave1; walk_say "STEP leave1"; try dsimp only) | fail "no step"))
        have N5 := ‹News g' L' _ _›
        have F5 := ‹Fr g' L' _ _›
        try dsimp only at F5 N5 ⊢
        refine stop_go (rank_spec C' F5 (cb_drop N5 (by (first | ((repeat (first | exact sub_nil | refine sub_cons 0 rfl ?_ | refine sub_cons 1 rfl ?_ | refine sub_cons 2 rfl ?_ | refine sub_cons 3 rfl ?_ | refine sub_cons 4 rfl ?_ | refine sub_cons 5 rfl ?_ | refine sub_cons 6 rfl ?_ | refine sub_cons 7 rfl ?_ | refine sub_cons 8 rfl ?_ | refine sub_cons 9 rfl ?_ | refine sub_cons 10 rfl ?_ | refine sub_cons 11 rfl ?_ | refine sub_cons 12 rfl ?_ | refine sub_cons 13 rfl ?_)); done) | kcf_all))) (by show dp + 1 + 20 < recursionLimit; exact room2 hdp rfl) (by show un + 3 + 100 < cLine; exact room2 hun rfl) ha la hgs.1 hgs.2 ?_)
        intro h6 tk6 r6 u6 u6' hr6 F6 N6 K6
        have N7 := news_join N6 (news_all N5 K6)
        have l10 := allLt_news N5 hr6
        dsimp only [AllLt] at l10
        have ap := ap_cons ap (by repeat (first | exact True.intro | (refine And.intro (by (first | exact l10.1 | exact l10.2.1 | exact l10.2.2.1 | exact l10.2.2.2.1 | exact l10.2.2.2.2.1 | exact l10.2.2.2.2.2.1 | exact l10.2.2.2.2.2.2.1 | exact l10.2.2.2.2.2.2.2.1 | exact l10.2.2.2.2.2.2.2.2.1 | exact l10.2.2.2.2.2.2.2.2.2.1 | exact l10.2.2.2.2.2.2.2.2.2.2.1 | exact l10.2.2.2.2.2.2.2.2.2.2.2.1 | exact l10.2.2.2.2.2.2.2.2.2.2.2.2.1 | exact l10.2.2.2.2.2.2.2.2.2.2.2.2.2.1 | exact l10 | exact l10.2 | exact l10.2.2 | exact l10.2.2.2 | exact l10.2.2.2.2 | exact l10.2.2.2.2.2 | exact l10.2.2.2.2.2.2 | exact l10.2.2.2.2.2.2.2 | exact l10.2.2.2.2.2.2.2.2 | exact l10.2.2.2.2.2.2.2.2.2 | exact l10.2.2.2.2.2.2.2.2.2.2 | exact l10.2.2.2.2.2.2.2.2.2.2.2 | exact l10.2.2.2.2.2.2.2.2.2.2.2.2 | exact l10.2.2.2.2.2.2.2.2.2.2.2.2.2)) ?_)))
        dsimp only [List.cons_append, List.nil_append] at N7
        clear F5 N5 N6 K6 hr6 F3 N4
        have hlvb := IntsAre.length hb
        have hlw := congrArg List.length hdk
        rw [List.length_drop, List.length_drop, List.length_cons] at hlw
        (repeat' (first | (k_unfold; (try dsimp only)) | (k_end; wrow_close) | ((with_reducible show wpAny _ _ (newTuple _) _ _ _); k_here; k_dflt (refine' newTuple_R ?F ?N ?_ ?z; (case F => k_asm); (case N => k_asm); (case z => kmk_size)); intro _ _ _ _ zl zm; (try k_lt zl); (revert zl zm; intro _ _); (try k_sweep)) | ((with_reducible show wpAny _ _ (compareOp CmpOp.Lt (Value.ref _) (Value.ref _)) _ _ _); refine tup_lt (News.isTup (by k_asm) (by k_mem)) (News.isTup (by k_asm) (by k_mem)) (by ktr_units) ?_) | ((with_reducible show wpAny _ _ (call (Value.type _) [Value.ref _]) _ _ _); k_here; (with_unfolding_all (refine' list_copyR ?k1 ?k2 ?k3 ?_ ?z; (case k1 => k_asm); (case k2 => k_asm); (case k3 => is_list); (case z => size_fits); k_whole)); intro _ _ _ _ _ zl zm; (try k_lt zl); (revert zl zm; intro _ _); (try k_sweep)) | ((with_reducible show wpAny _ _ (exec (Stmt.Assign [Expr.Tuple _ _ _] _ _) _) _ _ _); refine Assign_Tuple_swapped (names := [Str.ofString "row", Str.ofString "way"]) ?_ (by rfl) (by rfl)) | ((with_reducible show wpAny _ _ (exec (Stmt.Assign [Expr.Tuple _ _ _] _ _) _) _ _ _); refine Assign_Tuple_swapped (names := [Str.ofString "mine", Str.ofString "behind"]) ?_ (by rfl) (by rfl)) | walk1 | (dsimp only; walk1) | (leave1; walk_say "STEP leave1"; try dsimp only) | fail "no step"))
        · have hlx : rankLt act (heap.getD kk.toNat 0) (heap.getD sp0 0) = true := ‹lexLt _ _ _ _ = true›
          have hbt' : takeBehind act heap (heap.getD sp0 0) (kk :: ((wayL sp0).drop 1).drop (i + 1)) = [] := by rw [takeBehind, if_pos hlx]
          rw [hbt', List.append_nil] at hbt
          obtain ⟨m3, F4⟩ := fr_canon (ps := [(Str.ofString "some", .ref x), (Str.ofString "spot", .int sp0 t1), (Str.ofString "row", .ref rl), (Str.ofString "way", .ref wl), (Str.ofString "mine", .int (heap.getD sp0 0) tm), (Str.ofString "behind", .ref bl)]) F6 (by kst_all)
          exact hMid.out.1 _ _ m3 bvs bn (F4) (news_sub N7 (by (first | ((repeat (first | exact sub_nil | refine sub_cons 0 rfl ?_ | refine sub_cons 1 rfl ?_ | refine sub_cons 2 rfl ?_ | refine sub_cons 3 rfl ?_ | refine sub_cons 4 rfl ?_ | refine sub_cons 5 rfl ?_ | refine sub_cons 6 rfl ?_ | refine sub_cons 7 rfl ?_ | refine sub_cons 8 rfl ?_ | refine sub_cons 9 rfl ?_ | refine sub_cons 10 rfl ?_ | refine sub_cons 11 rfl ?_ | refine sub_cons 12 rfl ?_ | refine sub_cons 13 rfl ?_)); done) | kcf_all))) (hbt ▸ hb)
        · have hlx : rankLt act (heap.getD kk.toNat 0) (heap.getD sp0 0) = false := ‹lexLt _ _ _ _ = false›
          have hbt' : takeBehind act heap (heap.getD sp0 0) (kk :: ((wayL sp0).drop 1).drop (i + 1)) = heap.getD kk.toNat 0 :: takeBehind act heap (heap.getD sp0 0) (((wayL sp0).drop 1).drop (i + 1)) := by
            rw [takeBehind, if_neg (fun h => by rw [hlx] at h; cases h)]
          rw [hbt'] at hbt
          have N8 := ‹News g' L' _ _›
          have F8 := ‹Fr g' L' _ _›
          try dsimp only at F8 N8
          simp only [List.push_toArray] at N8
          refine stop_go (UnrEndW.intro F8 N8 [(sl, oList sv 0), (bl, oList _ _), (wl, oList vs n1), (rl, oList hvs c1), (x, instObj 144 dx), (dx, oDict D al hl pl), (al, oList avs na), (hl, oList hvs nh)] (by k_subL) (by k_subL) (by ktu_offL) ⟨by k_subL, hInv1.out.1 _ _ _ (canon (by kst_all)) (bs ++ [heap.getD kk.toNat 0]) _ _ rfl (IntsAre.append hb (.cons _ _ .nil)) ?_ ?_⟩)
          · rw [List.append_assoc]; exact hbt
          · rw [List.length_append, hbl]; rfl
      · rintro m₁ nw h1 tk1 hinv
        revert m₁ nw hinv
        refine hInv1.out.2 _ _ ?_
        intro m' bs bvs bn hb hbt hbl F1 N1
        have hls := IntsAre.length hI10
        have hnil : ((wayL sp0).drop 1).drop (sv.map Itm.val).length = [] := by rw [List.length_map, hls]; exact List.drop_length
        rw [hnil, takeBehind, List.append_nil] at hbt
        exact hMid.out.1 h1 tk1 m' bvs bn (F1) (news_sub N1 (by (first | ((repeat (first | exact sub_nil | refine sub_cons 0 rfl ?_ | refine sub_cons 1 rfl ?_ | refine sub_cons 2 rfl ?_ | refine sub_cons 3 rfl ?_ | refine sub_cons 4 rfl ?_ | refine sub_cons 5 rfl ?_ | refine sub_cons 6 rfl ?_ | refine sub_cons 7 rfl ?_ | refine sub_cons 8 rfl ?_ | refine sub_cons 9 rfl ?_ | refine sub_cons 10 rfl ?_ | refine sub_cons 11 rfl ?_ | refine sub_cons 12 rfl ?_ | refine sub_cons 13 rfl ?_)); done) | kcf_all))) (hbt ▸ hb)
    · refine hMid.out.2 _ ?_
      intro h1 tk1 m' bvs bn F1 N1 hb
      have hlvb := IntsAre.length hb
      have hlt2 : (takeBehind act heap (heap.getD sp0 0) ((wayL sp0).drop 1)).length ≤ 1000 := by
        have h1 := takeBehind_len act heap (heap.getD sp0 0) ((wayL sp0).drop 1)
        rw [List.length_drop] at h1
        (first | (apply ap_x; assumption; (repeat constructor); done) | (refine Nat.ne_of_gt ?_; simp only [*]; done) | (refine Nat.ne_of_lt ?_; simp only [*]; done) | ((fail_if_success (fail_if_success omega (config := {}))); (first | with_reducible assumption | decide | lia | omega (config := {}))))
      dsimp only
      (repeat' (first | (k_unfold; (try dsimp only)) | (k_end; wrow_close) | ((with_reducible show wpAny _ _ (newTuple _) _ _ _); k_here; k_dflt (refine' newTuple_R ?F ?N ?_ ?z; (case F => k_asm); (case N => k_asm); (case z => kmk_size)); intro _ _ _ _ zl zm; (try k_lt zl); (revert zl zm; intro _ _); (try k_sweep)) | ((with_reducible show wpAny _ _ (compareOp CmpOp.Lt (Value.ref _) (Value.ref _)) _ _ _); refine tup_lt (News.isTup (by k_asm) (by k_mem)) (News.isTup (by k_asm) (by k_mem)) (by ktr_units) ?_) | ((with_reducible show wpAny _ _ (call (Value.type _) [Value.ref _]) _ _ _); k_here; (with_unfolding_all (refine' list_copyR ?k1 ?k2 ?k3 ?_ ?z; (case k1 => k_asm); (case k2 => k_asm); (case k3 => is_list); (case z => size_fits); k_whole)); intro _ _ _ _ _ zl zm; (try k_lt zl); (revert zl zm; intro _ _); (try k_sweep)) | ((with_reducible show wpAny _ _ (exec (Stmt.Assign [Expr.Tuple _ _ _] _ _) _) _ _ _); refine Assign_Tuple_swapped (names := [Str.ofString "row", Str.ofString "way"]) ?_ (by rfl) (by rfl)) | ((with_reducible show wpAny _ _ (exec (Stmt.Assign [Expr.Tuple _ _ _] _ _) _) _ _ _); refine Assign_Tuple_swapped (names := [Str.ofString "mine", Str.ofString "behind"]) ?_ (by rfl) (by rfl)) | walk1 | (dsimp only; walk1) | (leave1; walk_say "STEP leave1"; try dsimp only) | fail "no step"))
      refine stop_go (For_turns F1 ?_)
      (repeat' (first | (k_unfold; (try dsimp only)) | (k_end; wrow_close) | ((with_reducible show wpAny _ _ (newTuple _) _ _ _); k_here; k_dflt (refine' newTuple_R ?F ?N ?_ ?z; (case F => k_asm); (case N => k_asm); (case z => kmk_size)); intro _ _ _ _ zl zm; (try k_lt zl); (revert zl zm; intro _ _); (try k_sweep)) | ((with_reducible show wpAny _ _ (compareOp CmpOp.Lt (Value.ref _) (Value.ref _)) _ _ _); refine tup_lt (News.isTup (by k_asm) (by k_mem)) (News.isTup (by k_asm) (by k_mem)) (by ktr_units) ?_) | ((with_reducible show wpAny _ _ (call (Value.type _) [Value.ref _]) _ _ _); k_here; (with_unfolding_all (refine' list_copyR ?k1 ?k2 ?k3 ?_ ?z; (case k1 => k_asm); (case k2 => k_asm); (case k3 => is_list); (case z => size_fits); k_whole)); intro _ _ _ _ _ zl zm; (try k_lt zl); (revert zl zm; intro _ _); (try k_sweep)) | ((with_reducible show wpAny _ _ (exec (Stmt.Assign [Expr.Tuple _ _ _] _ _) _) _ _ _); refine Assign_Tuple_swapped (names := [Str.ofString "row", Str.ofString "way"]) ?_ (by rfl) (by rfl)) | ((with_reducible show wpAny _ _ (exec (Stmt.Assign [Expr.Tuple _ _ _] _ _) _) _ _ _); refine Assign_Tuple_swapped (names := [Str.ofString "mine", Str.ofString "behind"]) ?_ (by rfl) (by rfl)) | walk1 | (dsimp only; walk1) | (leave1; walk_say "STEP leave1"; try dsimp only) | fail "no step"))
      rename_i ml h20 l20 cl cvs h21 F20 N20 hI20 l21
      have ap := ap_cons ap (by repeat (first | exact True.intro | (refine And.intro (by (first | exact l20.1 | exact l20.2.1 | exact l20.2.2.1 | exact l20.2.2.2.1 | exact l20.2.2.2.2.1 | exact l20.2.2.2.2.2.1 | exact l20.2.2.2.2.2.2.1 | exact l20.2.2.2.2.2.2.2.1 | exact l20.2.2.2.2.2.2.2.2.1 | exact l20.2.2.2.2.2.2.2.2.2.1 | exact l20.2.2.2.2.2.2.2.2.2.2.1 | exact l20.2.2.2.2.2.2.2.2.2.2.2.1 | exact l20.2.2.2.2.2.2.2.2.2.2.2.2.1 | exact l20.2.2.2.2.2.2.2.2.2.2.2.2.2.1 | exact l20 | exact l20.2 | exact l20.2.2 | exact l20.2.2.2 | exact l20.2.2.2.2 | exact l20.2.2.2.2.2 | exact l20.2.2.2.2.2.2 | exact l20.2.2.2.2.2.2.2 | exact l20.2.2.2.2.2.2.2.2 | exact l20.2.2.2.2.2.2.2.2.2 | exact l20.2.2.2.2.2.2.2.2.2.2 | exact l20.2.2.2.2.2.2.2.2.2.2.2 | exact l20.2.2.2.2.2.2.2.2.2.2.2.2 | exact l20.2.2.2.2.2.2.2.2.2.2.2.2.2)) ?_)))
      have ap := ap_cons ap (by repeat (first | exact True.intro | (refine And.intro (by (first | exact l21.1 | exact l21.2.1 | exact l21.2.2.1 | exact l21.2.2.2.1 | exact l21.2.2.2.2.1 | exact l21.2.2.2.2.2.1 | exact l21.2.2.2.2.2.2.1 | exact l21.2.2.2.2.2.2.2.1 | exact l21.2.2.2.2.2.2.2.2.1 | exact l21.2.2.2.2.2.2.2.2.2.1 | exact l21.2.2.2.2.2.2.2.2.2.2.1 | exact l21.2.2.2.2.2.2.2.2.2.2.2.1 | exact l21.2.2.2.2.2.2.2.2.2.2.2.2.1 | exact l21.2.2.2.2.2.2.2.2.2.2.2.2.2.1 | exact l21 | exact l21.2 | exact l21.2.2 | exact l21.2.2.2 | exact l21.2.2.2.2 | exact l21.2.2.2.2.2 | exact l21.2.2.2.2.2.2 | exact l21.2.2.2.2.2.2.2 | exact l21.2.2.2.2.2.2.2.2 | exact l21.2.2.2.2.2.2.2.2.2 | exact l21.2.2.2.2.2.2.2.2.2.2 | exact l21.2.2.2.2.2.2.2.2.2.2.2 | exact l21.2.2.2.2.2.2.2.2.2.2.2.2 | exact l21.2.2.2.2.2.2.2.2.2.2.2.2.2)) ?_)))
      have N21 : News g' L' _ [(cl, oList cvs 0), (wl, oList vs n1), (rl, oList hvs c1), (x, instObj 144 dx), (dx, oDict D al hl pl), (al, oList avs na), (hl, oList hvs nh)] := news_sub N20 (by (first | ((repeat (first | exact sub_nil | refine sub_cons 0 rfl ?_ | refine sub_cons 1 rfl ?_ | refine sub_cons 2 rfl ?_ | refine sub_cons 3 rfl ?_ | refine sub_cons 4 rfl ?_ | refine sub_cons 5 rfl ?_ | refine sub_cons 6 rfl ?_ | refine sub_cons 7 rfl ?_ | refine sub_cons 8 rfl ?_ | refine sub_cons 9 rfl ?_ | refine sub_cons 10 rfl ?_ | refine sub_cons 11 rfl ?_ | refine sub_cons 12 rfl ?_ | refine sub_cons 13 rfl ?_)); done) | kcf_all))
      refine stop_go (ktu_zip (by rfl) F20 N21 (by k_mem) (by rfl) (by rfl) (by k_mem) (by rfl) (by rfl) fun I lI => ?_)
      obtain ⟨Inv2, hInv2⟩ : ∃ I : Nat → (Str → Option Value) → List (Addr × Obj) → Prop, Hide ((∀ (i : Nat) (m₁ : Str → Option Value) (nw : List (Addr × Obj)), (∃ m', m₁ = kstB m' [(Str.ofString "some", .ref x), (Str.ofString "spot", .int sp0 t1), (Str.ofString "row", .ref rl), (Str.ofString "way", .ref wl), (Str.ofString "mine", .int (heap.getD sp0 0) tm), (Str.ofString "behind", .ref bl)]) → ∀ rc rvs rn, nw = [(cl, oList cvs 0), (wl, oList vs n1), (rl, oList rvs rn), (x, instObj 144 dx), (dx, oDict D al hl pl), (al, oList avs na), (hl, oList hvs nh)] → (IntsAre rvs rc) → (rc.length = heap.length) → (layL rc ((wayL sp0).drop i) ((takeBehind act heap (heap.getD sp0 0) ((wayL sp0).drop 1) ++ [heap.getD sp0 0]).drop i) = dueL act heap sp0) → I i m₁ nw) ∧ (∀ (i : Nat) (C : (Str → Option Value) → List (Addr × Obj) → Prop), (∀ m' rc rvs rn, (IntsAre rvs rc) → (rc.length = heap.length) → (layL rc ((wayL sp0).drop i) ((takeBehind act heap (heap.getD sp0 0) ((wayL sp0).drop 1) ++ [heap.getD sp0 0]).drop i) = dueL act heap sp0) → C (kstB m' [(Str.ofString "some", .ref x), (Str.ofString "spot", .int sp0 t1), (Str.ofString "row", .ref rl), (Str.ofString "way", .ref wl), (Str.ofString "mine", .int (heap.getD sp0 0) tm), (Str.ofString "behind", .ref bl)]) [(cl, oList cvs 0), (wl, oList vs n1), (rl, oList rvs rn), (x, instObj 144 dx), (dx, oDict D al hl pl), (al, oList avs na), (hl, oList hvs nh)]) → ∀ m₁ nw, I i m₁ nw → C m₁ nw)) := ⟨fun i m₁ nw => (∃ m', m₁ = kstB m' [(Str.ofString "some", .ref x), (Str.ofString "spot", .int sp0 t1), (Str.ofString "row", .ref rl), (Str.ofString "way", .ref wl), (Str.ofString "mine", .int (heap.getD sp0 0) tm), (Str.ofString "behind", .ref bl)]) ∧ ∃ rc rvs rn, nw = [(cl, oList cvs 0), (wl, oList vs n1), (rl, oList rvs rn), (x, instObj 144 dx), (dx, oDict D al hl pl), (al, oList avs na), (hl, oList hvs nh)] ∧ IntsAre rvs rc ∧ rc.length = heap.length ∧ layL rc ((wayL sp0).drop i) ((takeBehind act heap (heap.getD sp0 0) ((wayL sp0).drop 1) ++ [heap.getD sp0 0]).drop i) = dueL act heap sp0, fun i m₁ nw h0 rc rvs rn h1 g0 g1 g2 => ⟨h0, rc, rvs, rn, h1, g0, g1, g2⟩, by rintro i C k m₁ nw ⟨⟨m', rfl⟩, rc, rvs, rn, rfl, g0, g1, g2⟩; exact k m' rc rvs rn g0 g1 g2⟩
      refine items_inv Inv2 (hInv2.out.1 _ _ _ ⟨m', rfl⟩ heap hvs c1 rfl hh rfl rfl) ?_ ?_
      · rintro i a m₁ nw v1 h1 tk1 hxa hinv hav
        revert m₁ nw hinv
        refine hInv2.out.2 _ _ ?_
        intro m2 rc rvs rn hrc hrl hlay F1
        obtain ⟨xa, ya, hxa1, hya1, rfl⟩ := zip_get hxa
        obtain ⟨T, tt, rfl, hT⟩ := hav
        obtain ⟨ka, ta, rfl, hka⟩ := IntsAre.at hw' i _ hxa1
        obtain ⟨kb, tb, rfl, hkb⟩ := IntsAre.at hI20 i _ hya1
        have hkm := hmem ka (List.mem_of_getElem? hka)
        rw [drop_cons hka, drop_cons hkb, layL] at hlay
        refine AllObj.cons fun z1 y1 => AllObj.cons fun z2 y2 => AllObj.cons fun z3 y3 => AllObj.cons fun z4 y4 => AllObj.cons fun z5 y5 => AllObj.nil fun N1 => ?_
        dsimp only [List.cons_append, List.nil_append] at N1
        dsimp only at hT y1 y2 y3 y4 y5 N1
        have lI' := allLt_of lI
        dsimp only [AllLt] at lI'
        replace ap : Apart [cl, wl, rl, hl, al, x, dx] := ap_sub ap (by (repeat (first | exact List.nil_sublist _ | (with_reducible refine List.Sublist.cons_cons _ ?_) | (with_reducible refine List.Sublist.cons _ ?_))))
        have ap := ap_cons ap (by repeat (first | exact True.intro | (refine And.intro (by (first | exact lI'.1 | exact lI'.2.1 | exact lI'.2.2.1 | exact lI'.2.2.2.1 | exact lI'.2.2.2.2.1 | exact lI'.2.2.2.2.2.1 | exact lI'.2.2.2.2.2.2.1 | exact lI'.2.2.2.2.2.2.2.1 | exact lI'.2.2.2.2.2.2.2.2.1 | exact lI'.2.2.2.2.2.2.2.2.2.1 | exact lI'.2.2.2.2.2.2.2.2.2.2.1 | exact lI'.2.2.2.2.2.2.2.2.2.2.2.1 | exact lI'.2.2.2.2.2.2.2.2.2.2.2.2.1 | exact lI'.2.2.2.2.2.2.2.2.2.2.2.2.2.1 | exact lI' | exact lI'.2 | exact lI'.2.2 | exact lI'.2.2.2 | exact lI'.2.2.2.2 | exact lI'.2.2.2.2.2 | exact lI'.2.2.2.2.2.2 | exact lI'.2.2.2.2.2.2.2 | exact lI'.2.2.2.2.2.2.2.2 | exact lI'.2.2.2.2.2.2.2.2.2 | exact lI'.2.2.2.2.2.2.2.2.2.2 | exact lI'.2.2.2.2.2.2.2.2.2.2.2 | exact lI'.2.2.2.2.2.2.2.2.2.2.2.2 | exact lI'.2.2.2.2.2.2.2.2.2.2.2.2.2)) ?_)))
        try k_fold
        (repeat' (first | (k_unfold; (try dsimp only)) | (k_end; wrow_close) | ((with_reducible show wpAny _ _ (newTuple _) _ _ _); k_here; k_dflt (refine' newTuple_R ?F ?N ?_ ?z; (case F => k_asm); (case N => k_asm); (case z => kmk_size)); intro _ _ _ _ zl zm; (try k_lt zl); (revert zl zm; intro _ _); (try k_sweep)) | ((with_reducible show wpAny _ _ (compareOp CmpOp.Lt (Value.ref _) (Value.ref _)) _ _ _); refine tup_lt (News.isTup (by k_asm) (by k_mem)) (News.isTup (by k_asm) (by k_mem)) (by ktr_units) ?_) | ((with_reducible show wpAny _ _ (call (Value.type _) [Value.ref _]) _ _ _); k_here; (with_unfolding_all (refine' list_copyR ?k1 ?k2 ?k3 ?_ ?z; (case k1 => k_asm); (case k2 => k_asm); (case k3 => is_list); (case z => size_fits); k_whole)); intro _ _ _ _ _ zl zm; (try k_lt zl); (revert zl zm; intro _ _); (try k_sweep)) | ((with_reducible show wpAny _ _ (exec (Stmt.Assign [Expr.Tuple _ _ _] _ _) _) _ _ _); refine Assign_Tuple_swapped (names := [Str.ofString "row", Str.ofString "way"]) ?_ (by rfl) (by rfl)) | ((with_reducible show wpAny _ _ (exec (Stmt.Assign [Expr.Tuple _ _ _] _ _) _) _ _ _); refine Assign_Tuple_swapped (names := [Str.ofString "mine", Str.ofString "behind"]) ?_ (by rfl) (by rfl)) | walk1 | (dsimp only; walk1) | (leave1; walk_say "STEP leave1"; try dsimp only) | fail "no step"))
        have N8 := ‹News g' L' _ _›
        have F8 := ‹Fr g' L' _ _›
        try dsimp only at F8 N8
        have hi8 := ‹IntsAre (rvs.set _ _) _›
        refine stop_go (UnrEndW.intro F8 N8 [(cl, oList cvs 0), (wl, oList vs n1), (rl, oList _ _), (x, instObj 144 dx), (dx, oDict D al hl pl), (al, oList avs na), (hl, oList hvs nh)] (by k_subL) (by k_subL) (by ktu_offL) ⟨by k_subL, hInv2.out.1 _ _ _ (canon (by kst_all)) (rc.set ka.toNat kb) _ _ rfl hi8 (by rw [List.length_set]; exact hrl) hlay⟩)
      · rintro m₁ nw h1 tk1 hinv
        revert m₁ nw hinv
        refine hInv2.out.2 _ _ ?_
        intro m2 rc rvs rn hrc hrl hlay F1 N1
        have hls := IntsAre.length hw'
        have hls2 := IntsAre.length hI20
        rw [zipItems_length, hls, hls2] at hlay
        have er : rc = dueL act heap sp0 := by
          rw [← hlay]
          rcases Nat.le_total (wayL sp0).length (takeBehind act heap (heap.getD sp0 0) ((wayL sp0).drop 1) ++ [heap.getD sp0 0]).length with hle | hle
          · rw [Nat.min_eq_left hle, List.drop_length]; exact (layL_nil1 _ _).symm
          · rw [Nat.min_eq_right hle, List.drop_length]; exact (layL_nil2 _ _).symm
        subst er
        dsimp only
        (repeat' (first | (k_unfold; (try dsimp only)) | (k_end; wrow_close) | ((with_reducible show wpAny _ _ (newTuple _) _ _ _); k_here; k_dflt (refine' newTuple_R ?F ?N ?_ ?z; (case F => k_asm); (case N => k_asm); (case z => kmk_size)); intro _ _ _ _ zl zm; (try k_lt zl); (revert zl zm; intro _ _); (try k_sweep)) | ((with_reducible show wpAny _ _ (compareOp CmpOp.Lt (Value.ref _) (Value.ref _)) _ _ _); refine tup_lt (News.isTup (by k_asm) (by k_mem)) (News.isTup (by k_asm) (by k_mem)) (by ktr_units) ?_) | ((with_reducible show wpAny _ _ (call (Value.type _) [Value.ref _]) _ _ _); k_here; (with_unfolding_all (refine' list_copyR ?k1 ?k2 ?k3 ?_ ?z; (case k1 => k_asm); (case k2 => k_asm); (case k3 => is_list); (case z => size_fits); k_whole)); intro _ _ _ _ _ zl zm; (try k_lt zl); (revert zl zm; intro _ _); (try k_sweep)) | ((with_reducible show wpAny _ _ (exec (Stmt.Assign [Expr.Tuple _ _ _] _ _) _) _ _ _); refine Assign_Tuple_swapped (names := [Str.ofString "row", Str.ofString "way"]) ?_ (by rfl) (by rfl)) | ((with_reducible show wpAny _ _ (exec (Stmt.Assign [Expr.Tuple _ _ _] _ _) _) _ _ _); refine Assign_Tuple_swapped (names := [Str.ofString "mine", Str.ofString "behind"]) ?_ (by rfl) (by rfl)) | walk1 | (dsimp only; walk1) | (leave1; walk_say "STEP leave1"; try dsimp only) | fail "no step"))
        have kN9 := ‹News h₀ L _ _›
        have kP9 := ‹Kept s.heap _ _›
        have kS9 : Kept s.heap _ [] := kept_shrink (same := [(x, instObj 144 dx), (dx, oDict D al hl pl), (al, oList avs na), (hl, oList hvs nh)]) N kN9 kP9 (by (first | ((repeat (first | exact ks_nil | refine ks_l 0 rfl ?_ | refine ks_l 1 rfl ?_ | refine ks_l 2 rfl ?_ | refine ks_l 3 rfl ?_ | refine ks_l 4 rfl ?_ | refine ks_r 0 rfl ?_ | refine ks_r 1 rfl ?_ | refine ks_r 2 rfl ?_ | refine ks_r 3 rfl ?_ | refine ks_r 4 rfl ?_ | refine ks_r 5 rfl ?_)); done) | simp)) (by (first | ((repeat (first | exact sub_nil | refine sub_cons 0 rfl ?_ | refine sub_cons 1 rfl ?_ | refine sub_cons 2 rfl ?_ | refine sub_cons 3 rfl ?_ | refine sub_cons 4 rfl ?_ | refine sub_cons 5 rfl ?_ | refine sub_cons 6 rfl ?_ | refine sub_cons 7 rfl ?_ | refine sub_cons 8 rfl ?_ | refine sub_cons 9 rfl ?_ | refine sub_cons 10 rfl ?_ | refine sub_cons 11 rfl ?_ | refine sub_cons 12 rfl ?_ | refine sub_cons 13 rfl ?_)); done) | kcf_all)) (by (first | ((repeat (first | exact sub_nil | refine sub_cons 0 rfl ?_ | refine sub_cons 1 rfl ?_ | refine sub_cons 2 rfl ?_ | refine sub_cons 3 rfl ?_ | refine sub_cons 4 rfl ?_ | refine sub_cons 5 rfl ?_ | refine sub_cons 6 rfl ?_ | refine sub_cons 7 rfl ?_ | refine sub_cons 8 rfl ?_ | refine sub_cons 9 rfl ?_ | refine sub_cons 10 rfl ?_ | refine sub_cons 11 rfl ?_ | refine sub_cons 12 rfl ?_ | refine sub_cons 13 rfl ?_)); done) | kcf_all))
        exact k _ _ _ _ _ (fun b o e => Nat.lt_trans (hL b o e) hLr) hrc hrl (by assumption) (news_sub kN9 (by (first | ((repeat (first | exact sub_nil | refine sub_cons 0 rfl ?_ | refine sub_cons 1 rfl ?_ | refine sub_cons 2 rfl ?_ | refine sub_cons 3 rfl ?_ | refine sub_cons 4 rfl ?_ | refine sub_cons 5 rfl ?_ | refine sub_cons 6 rfl ?_ | refine sub_cons 7 rfl ?_ | refine sub_cons 8 rfl ?_ | refine sub_cons 9 rfl ?_ | refine sub_cons 10 rfl ?_ | refine sub_cons 11 rfl ?_ | refine sub_cons 12 rfl ?_ | refine sub_cons 13 rfl ?_)); done) | kcf_all))) (fun b o e => kS9 b o e (by simp))
local macro_rules | `(tactic| walk_at "compareOp NotEq ref ref") => `(tactic| apply stop_of)
local macro_rules | `(tactic| walk_at "compareOp Eq ref ref") => `(tactic| apply stop_of)
-- RgD4
noncomputable def PlaceOK (n : Nat) (heap place : List Int) : Prop := ∀ v : Nat, 1 ≤ v → v < n → place.getD v 0 = if (v : Int) ∈ heap then (heap.idxOf (v : Int) : Int) else -1
theorem risen_spec {w : World} {env : Env} {outer : List Env} {L : Addr} {h₀ : Heap} {m : Str → Option Value} {dp un : Nat} {gd : Option (List Code)} {s : Shared} {Q E : Value → Shared → Prop}
    {x dx al hl pl : Addr} {D : DP} {avs hvs pvs : List Value} {na nh np : Nat} {act heap place : List Int} {spot : Int} {t1 : Tok}
    (C : Cx w env outer L h₀) (F : Fr h₀ L s.heap m) (N : News h₀ L s.heap [(x, instObj 144 dx), (dx, oDict D al hl pl), (al, oList avs na), (hl, oList hvs nh), (pl, oList pvs np)])
    (hdp : dp + 100 < recursionLimit) (hun : un + 500 < cLine)
    (o1 : @LT.lt Nat _ dx x) (o2 : @LT.lt Nat _ x al) (o3 : @LT.lt Nat _ al hl) (o4 : @LT.lt Nat _ hl pl) (ha : IntsAre avs act) (hh : IntsAre hvs heap) (hp : IntsAre pvs place) (la : act.length ≤ 1000) (la1 : 1 ≤ act.length) (lh : heap.length ≤ 1000) (lp : place.length = act.length) (h1 : 0 ≤ spot) (h1' : spot < heap.length) (hr : InRange heap act.length) (hdue : (riseL act (heap.getD spot.toNat 0) heap place spot.toNat).1 = dueL act heap spot.toNat) (hlen2 : (riseL act (heap.getD spot.toNat 0) heap place spot.toNat).2.length = act.length) (hpo : PlaceOK act.length (dueL act heap spot.toNat) (riseL act (heap.getD spot.toNat 0) heap place spot.toNat).2)
    (k : ∀ h' tk' hvs' nh' pvs' np', IntsAre hvs' (dueL act heap spot.toNat) → IntsAre pvs' (riseL act (heap.getD spot.toNat 0) heap place spot.toNat).2 → Fr h₀ L h' m → News h₀ L h' [(hl, oList hvs' nh'), (pl, oList pvs' np')] → Kept s.heap h' [hl, pl] → Q (.bool true) { s with heap := h', toks := tk' }) :
    wpAny (model PySem.Challenge.rw_rg0205_01.row.prog w) ⟨none, dp, some (env :: outer), gd, un⟩ (call (.ref 174) [.ref x, .int spot t1]) Q E s := by
  refine cx_elim C fun A₀ base mean mg mb B X T hf hke => ?_
  revert X
  k_fill
  intro X
  refine wpAny_call ?_
  refine' enterRC (binds := [(Str.ofString "some", .ref x), (Str.ofString "spot", .int spot t1)]) B F X N T rfl hf hke ?k6 ?k7 ?k8 ?k9 ?kB ?kD ?_ ?c2 ?c3 ?c4
  case k6 => k_is
  case k7 => k_is
  case k8 => exact Nat.lt_of_le_of_lt (Nat.le_add_right _ _) hdp
  case k9 => exact BindsTo.of_eq rfl
  case kB => exact rfl
  case kD => decide +kernel
  case c2 => exact rfl
  case c3 => exact rfl
  case c4 => exact rfl
  intro g' L' h' tk' cells' FG' F' N' Y' B' X' T' l1 hL C'
  k_lt l1
  have ap := ap5 o1 o2 o3 o4
  k_cells Y'
  try dsimp only [List.cons_append, List.nil_append] at N'
  dsimp only
  try k_fold
  have lv1 := IntsAre.length ha
  have lv2 := IntsAre.length hh
  have lv3 := IntsAre.length hp
  (repeat' (first | (k_unfold; (try dsimp only)) | (k_end; wrow_close) | ((with_reducible show wpAny _ _ (newTuple _) _ _ _); k_here; k_dflt (refine' newTuple_R ?F ?N ?_ ?z; (case F => k_asm); (case N => k_asm); (case z => kmk_size)); intro _ _ _ _ zl zm; (try k_lt zl); (revert zl zm; intro _ _); (try k_sweep)) | ((with_reducible show wpAny _ _ (call (Value.type _) [Value.ref _]) _ _ _); k_here; (with_unfolding_all (refine' list_copyR ?k1 ?k2 ?k3 ?_ ?z; (case k1 => k_asm); (case k2 => k_asm); (case k3 => is_list); (case z => size_fits); k_whole)); intro _ _ _ _ _ zl zm; (try k_lt zl); (revert zl zm; intro _ _); (try k_sweep)) | ((with_reducible show wpAny _ _ (eval (Expr.ListComp _ _ _ _) _) _ _ _); k_here; k_dflt (first | (refine LCt.ListComp_T (F₀ := by k_asm) (by with_unfolding_all rfl) (by decide) (by rfl) (by decide) (by rfl) ?_) | (refine LCg.ListComp_U (F₀ := by k_asm) (by with_unfolding_all rfl) (by decide) (by rfl) (by decide) (by rfl) ?_))) | walk1 | (dsimp only; walk1) | (leave1; walk_say "STEP leave1"; try dsimp only) | fail "no step"))
  have N2 := ‹News g' L' _ _›
  have F2 := ‹Fr g' L' _ _›
  try dsimp only at F2 N2 ⊢
  refine stop_go (due_spec C' F2 (cb_drop N2 (by (first | ((repeat (first | exact sub_nil | refine sub_cons 0 rfl ?_ | refine sub_cons 1 rfl ?_ | refine sub_cons 2 rfl ?_ | refine sub_cons 3 rfl ?_ | refine sub_cons 4 rfl ?_ | refine sub_cons 5 rfl ?_ | refine sub_cons 6 rfl ?_ | refine sub_cons 7 rfl ?_ | refine sub_cons 8 rfl ?_ | refine sub_cons 9 rfl ?_ | refine sub_cons 10 rfl ?_ | refine sub_cons 11 rfl ?_ | refine sub_cons 12 rfl ?_ | refine sub_cons 13 rfl ?_)); done) | kcf_all))) (by show dp + 1 + 60 < recursionLimit; exact room2 hdp rfl) (by show un + 3 + 300 < cLine; exact room2 hun rfl) o1 o2 o3 o4 ha hh la lh h1 h1' hr ?_)
  intro h3 tk3 rl rvs rn hr3 hrc hrl F3 N3 K3
  have N4 := news_join N3 (news_all N2 K3)
  have l9 := allLt_news N2 hr3
  dsimp only [AllLt] at l9
  dsimp only [List.cons_append, List.nil_append] at N4
  clear F2 N2 N3 K3 hr3
  have lv4 := IntsAre.length hrc
  (repeat' (first | (k_unfold; (try dsimp only)) | (k_end; wrow_close) | ((with_reducible show wpAny _ _ (newTuple _) _ _ _); k_here; k_dflt (refine' newTuple_R ?F ?N ?_ ?z; (case F => k_asm); (case N => k_asm); (case z => kmk_size)); intro _ _ _ _ zl zm; (try k_lt zl); (revert zl zm; intro _ _); (try k_sweep)) | ((with_reducible show wpAny _ _ (call (Value.type _) [Value.ref _]) _ _ _); k_here; (with_unfolding_all (refine' list_copyR ?k1 ?k2 ?k3 ?_ ?z; (case k1 => k_asm); (case k2 => k_asm); (case k3 => is_list); (case z => size_fits); k_whole)); intro _ _ _ _ _ zl zm; (try k_lt zl); (revert zl zm; intro _ _); (try k_sweep)) | ((with_reducible show wpAny _ _ (eval (Expr.ListComp _ _ _ _) _) _ _ _); k_here; k_dflt (first | (refine LCt.ListComp_T (F₀ := by k_asm) (by with_unfolding_all rfl) (by decide) (by rfl) (by decide) (by rfl) ?_) | (refine LCg.ListComp_U (F₀ := by k_asm) (by with_unfolding_all rfl) (by decide) (by rfl) (by decide) (by rfl) ?_))) | walk1 | (dsimp only; walk1) | (leave1; walk_say "STEP leave1"; try dsimp only) | fail "no step"))
  have N5 := ‹News g' L' _ _›
  have F5 := ‹Fr g' L' _ _›
  try dsimp only at F5 N5 ⊢
  refine stop_go (rise_spec C' F5 (cb_drop N5 (by (first | ((repeat (first | exact sub_nil | refine sub_cons 0 rfl ?_ | refine sub_cons 1 rfl ?_ | refine sub_cons 2 rfl ?_ | refine sub_cons 3 rfl ?_ | refine sub_cons 4 rfl ?_ | refine sub_cons 5 rfl ?_ | refine sub_cons 6 rfl ?_ | refine sub_cons 7 rfl ?_ | refine sub_cons 8 rfl ?_ | refine sub_cons 9 rfl ?_ | refine sub_cons 10 rfl ?_ | refine sub_cons 11 rfl ?_ | refine sub_cons 12 rfl ?_ | refine sub_cons 13 rfl ?_)); done) | kcf_all))) (by show dp + 1 + 40 < recursionLimit; exact room2 hdp rfl) (by show un + 3 + 200 < cLine; exact room2 hun rfl) o1 o2 o3 o4 ha hh hp la lh lp h1 h1' hr ?_)
  intro h6 tk6 hvs6 nh6 pvs6 np6 hh6 hp6 F6 N6 K6
  have N7 := news_re N5 (by repeat (first | exact Rest.nil | (apply Rest.keep; focus ((repeat (first | exact off_nil | (refine off_cons ?_ ?_; focus (first | (apply ap_x; assumption; (repeat constructor); done) | (refine Nat.ne_of_gt ?_; simp only [*]; done) | (refine Nat.ne_of_lt ?_; simp only [*]; done) | ((fail_if_success (fail_if_success omega (config := {}))); (first | with_reducible assumption | decide | lia | omega (config := {}))))))); done)) | apply Rest.skip)) K6 N6
  dsimp only [List.cons_append, List.nil_append] at N7
  clear F5 N5 N6 K6
  rw [hdue] at hh6
  have lv5 := IntsAre.length hh6
  have lv6 := IntsAre.length hp6
  (repeat' (first | (k_unfold; (try dsimp only)) | (k_end; wrow_close) | ((with_reducible show wpAny _ _ (newTuple _) _ _ _); k_here; k_dflt (refine' newTuple_R ?F ?N ?_ ?z; (case F => k_asm); (case N => k_asm); (case z => kmk_size)); intro _ _ _ _ zl zm; (try k_lt zl); (revert zl zm; intro _ _); (try k_sweep)) | ((with_reducible show wpAny _ _ (call (Value.type _) [Value.ref _]) _ _ _); k_here; (with_unfolding_all (refine' list_copyR ?k1 ?k2 ?k3 ?_ ?z; (case k1 => k_asm); (case k2 => k_asm); (case k3 => is_list); (case z => size_fits); k_whole)); intro _ _ _ _ _ zl zm; (try k_lt zl); (revert zl zm; intro _ _); (try k_sweep)) | ((with_reducible show wpAny _ _ (eval (Expr.ListComp _ _ _ _) _) _ _ _); k_here; k_dflt (first | (refine LCt.ListComp_T (F₀ := by k_asm) (by with_unfolding_all rfl) (by decide) (by rfl) (by decide) (by rfl) ?_) | (refine LCg.ListComp_U (F₀ := by k_asm) (by with_unfolding_all rfl) (by decide) (by rfl) (by decide) (by rfl) ?_))) | walk1 | (dsimp only; walk1) | (leave1; walk_say "STEP leave1"; try dsimp only) | fail "no step"))
  refine stop_go (ke_ne_ints (News.isList ‹News g' L' _ _› (by k_mem)) (News.isList ‹News g' L' _ _› (by k_mem)) hh6 hrc (by show un + 3 + 64 < cLine; exact room2 hun rfl) ?_)
  rw [decide_eq_true rfl, Bool.not_true]
  (repeat' (first | (k_unfold; (try dsimp only)) | (k_end; wrow_close) | ((with_reducible show wpAny _ _ (newTuple _) _ _ _); k_here; k_dflt (refine' newTuple_R ?F ?N ?_ ?z; (case F => k_asm); (case N => k_asm); (case z => kmk_size)); intro _ _ _ _ zl zm; (try k_lt zl); (revert zl zm; intro _ _); (try k_sweep)) | ((with_reducible show wpAny _ _ (call (Value.type _) [Value.ref _]) _ _ _); k_here; (with_unfolding_all (refine' list_copyR ?k1 ?k2 ?k3 ?_ ?z; (case k1 => k_asm); (case k2 => k_asm); (case k3 => is_list); (case z => size_fits); k_whole)); intro _ _ _ _ _ zl zm; (try k_lt zl); (revert zl zm; intro _ _); (try k_sweep)) | ((with_reducible show wpAny _ _ (eval (Expr.ListComp _ _ _ _) _) _ _ _); k_here; k_dflt (first | (refine LCt.ListComp_T (F₀ := by k_asm) (by with_unfolding_all rfl) (by decide) (by rfl) (by decide) (by rfl) ?_) | (refine LCg.ListComp_U (F₀ := by k_asm) (by with_unfolding_all rfl) (by decide) (by rfl) (by decide) (by rfl) ?_))) | walk1 | (dsimp only; walk1) | (leave1; walk_say "STEP leave1"; try dsimp only) | fail "no step"))
  refine stop_go (ne_kept (News.isTup ‹News g' L' _ _› (by k_mem)) (News.isTup ‹News g' L' _ _› (by k_mem)) (News.isList ‹News g' L' _ _› (by k_mem)) (News.isList ‹News g' L' _ _› (by k_mem)) ha ha (by show un + 3 + 64 < cLine; exact room2 hun rfl) ?_)
  (repeat' (first | (k_unfold; (try dsimp only)) | (k_end; wrow_close) | ((with_reducible show wpAny _ _ (newTuple _) _ _ _); k_here; k_dflt (refine' newTuple_R ?F ?N ?_ ?z; (case F => k_asm); (case N => k_asm); (case z => kmk_size)); intro _ _ _ _ zl zm; (try k_lt zl); (revert zl zm; intro _ _); (try k_sweep)) | ((with_reducible show wpAny _ _ (call (Value.type _) [Value.ref _]) _ _ _); k_here; (with_unfolding_all (refine' list_copyR ?k1 ?k2 ?k3 ?_ ?z; (case k1 => k_asm); (case k2 => k_asm); (case k3 => is_list); (case z => size_fits); k_whole)); intro _ _ _ _ _ zl zm; (try k_lt zl); (revert zl zm; intro _ _); (try k_sweep)) | ((with_reducible show wpAny _ _ (eval (Expr.ListComp _ _ _ _) _) _ _ _); k_here; k_dflt (first | (refine LCt.ListComp_T (F₀ := by k_asm) (by with_unfolding_all rfl) (by decide) (by rfl) (by decide) (by rfl) ?_) | (refine LCg.ListComp_U (F₀ := by k_asm) (by with_unfolding_all rfl) (by decide) (by rfl) (by decide) (by rfl) ?_))) | walk1 | (dsimp only; walk1) | (leave1; walk_say "STEP leave1"; try dsimp only) | fail "no step"))
  have N8 := ‹News g' L' _ _›
  have F8 := ‹Fr g' L' _ _›
  try dsimp only at F8 N8 ⊢
  refine stop_go (many_spec C' F8 (cb_drop N8 (by (first | ((repeat (first | exact sub_nil | refine sub_cons 0 rfl ?_ | refine sub_cons 1 rfl ?_ | refine sub_cons 2 rfl ?_ | refine sub_cons 3 rfl ?_ | refine sub_cons 4 rfl ?_ | refine sub_cons 5 rfl ?_ | refine sub_cons 6 rfl ?_ | refine sub_cons 7 rfl ?_ | refine sub_cons 8 rfl ?_ | refine sub_cons 9 rfl ?_ | refine sub_cons 10 rfl ?_ | refine sub_cons 11 rfl ?_ | refine sub_cons 12 rfl ?_ | refine sub_cons 13 rfl ?_)); done) | kcf_all))) (by show dp + 1 + 20 < recursionLimit; exact room2 hdp rfl) (by show un + 3 + 100 < cLine; exact room2 hun rfl) ha la ?_)
  intro h9 tk9 t9 F9 K9
  have N9 := news_all N8 K9
  clear F8 N8 K9
  (repeat' (first | (k_unfold; (try dsimp only)) | (k_end; wrow_close) | ((with_reducible show wpAny _ _ (newTuple _) _ _ _); k_here; k_dflt (refine' newTuple_R ?F ?N ?_ ?z; (case F => k_asm); (case N => k_asm); (case z => kmk_size)); intro _ _ _ _ zl zm; (try k_lt zl); (revert zl zm; intro _ _); (try k_sweep)) | ((with_reducible show wpAny _ _ (call (Value.type _) [Value.ref _]) _ _ _); k_here; (with_unfolding_all (refine' list_copyR ?k1 ?k2 ?k3 ?_ ?z; (case k1 => k_asm); (case k2 => k_asm); (case k3 => is_list); (case z => size_fits); k_whole)); intro _ _ _ _ _ zl zm; (try k_lt zl); (revert zl zm; intro _ _); (try k_sweep)) | ((with_reducible show wpAny _ _ (eval (Expr.ListComp _ _ _ _) _) _ _ _); k_here; k_dflt (first | (refine LCt.ListComp_T (F₀ := by k_asm) (by with_unfolding_all rfl) (by decide) (by rfl) (by decide) (by rfl) ?_) | (refine LCg.ListComp_U (F₀ := by k_asm) (by with_unfolding_all rfl) (by decide) (by rfl) (by decide) (by rfl) ?_))) | walk1 | (dsimp only; walk1) | (leave1; walk_say "STEP leave1"; try dsimp only) | fail "no step"))
  rename_i hR hF hN hK
  refine stop_go (LCt.CompSrcT.range (by rfl) hF hN hR (small_one (by (first | (apply ap_x; assumption; (repeat constructor); done) | (refine Nat.ne_of_gt ?_; simp only [*]; done) | (refine Nat.ne_of_lt ?_; simp only [*]; done) | ((fail_if_success (fail_if_success omega (config := {}))); (first | with_reducible assumption | decide | lia | omega (config := {}))))) (by (first | (apply ap_x; assumption; (repeat constructor); done) | (refine Nat.ne_of_gt ?_; simp only [*]; done) | (refine Nat.ne_of_lt ?_; simp only [*]; done) | ((fail_if_success (fail_if_success omega (config := {}))); (first | with_reducible assumption | decide | lia | omega (config := {}))))) (by (first | (apply ap_x; assumption; (repeat constructor); done) | (refine Nat.ne_of_gt ?_; simp only [*]; done) | (refine Nat.ne_of_lt ?_; simp only [*]; done) | ((fail_if_success (fail_if_success omega (config := {}))); (first | with_reducible assumption | decide | lia | omega (config := {}))))) (by (first | (apply ap_x; assumption; (repeat constructor); done) | (refine Nat.ne_of_gt ?_; simp only [*]; done) | (refine Nat.ne_of_lt ?_; simp only [*]; done) | ((fail_if_success (fail_if_success omega (config := {}))); (first | with_reducible assumption | decide | lia | omega (config := {})))))) (rangeSize_nat _ _) (by rw [sizeLine_eq]; (first | (apply ap_x; assumption; (repeat constructor); done) | (refine Nat.ne_of_gt ?_; simp only [*]; done) | (refine Nat.ne_of_lt ?_; simp only [*]; done) | ((fail_if_success (fail_if_success omega (config := {}))); (first | with_reducible assumption | decide | lia | omega (config := {}))))) ?_)
  intro gg
  refine' kci_range (fun l _ => l) (fun k0 kt I oI Cc oC Dd m2 ys l0 hh0 tk0 E0 hlo hhi hyl hC hx2 F1 N1 off ne _ => ?_) ?_ ?_
  · replace ne := hide_of ne
    replace off := hide_of off
    obtain ⟨kn, rfl⟩ := Int.eq_ofNat_of_zero_le (show 0 ≤ k0 by (first | (apply ap_x; assumption; (repeat constructor); done) | (refine Nat.ne_of_gt ?_; simp only [*]; done) | (refine Nat.ne_of_lt ?_; simp only [*]; done) | ((fail_if_success (fail_if_success omega (config := {}))); (first | with_reducible assumption | decide | lia | omega (config := {})))))
    have hpk := hpo kn (by (first | (apply ap_x; assumption; (repeat constructor); done) | (refine Nat.ne_of_gt ?_; simp only [*]; done) | (refine Nat.ne_of_lt ?_; simp only [*]; done) | ((fail_if_success (fail_if_success omega (config := {}))); (first | with_reducible assumption | decide | lia | omega (config := {}))))) (by (first | (apply ap_x; assumption; (repeat constructor); done) | (refine Nat.ne_of_gt ?_; simp only [*]; done) | (refine Nat.ne_of_lt ?_; simp only [*]; done) | ((fail_if_success (fail_if_success omega (config := {}))); (first | with_reducible assumption | decide | lia | omega (config := {})))))
    (repeat' (first | (k_unfold; (try dsimp only)) | (k_end; wrow_close) | ((with_reducible show wpAny _ _ (newTuple _) _ _ _); k_here; k_dflt (refine' newTuple_R ?F ?N ?_ ?z; (case F => k_asm); (case N => k_asm); (case z => kmk_size)); intro _ _ _ _ zl zm; (try k_lt zl); (revert zl zm; intro _ _); (try k_sweep)) | ((with_reducible show wpAny _ _ (call (Value.type _) [Value.ref _]) _ _ _); k_here; (with_unfolding_all (refine' list_copyR ?k1 ?k2 ?k3 ?_ ?z; (case k1 => k_asm); (case k2 => k_asm); (case k3 => is_list); (case z => size_fits); k_whole)); intro _ _ _ _ _ zl zm; (try k_lt zl); (revert zl zm; intro _ _); (try k_sweep)) | ((with_reducible show wpAny _ _ (eval (Expr.ListComp _ _ _ _) _) _ _ _); k_here; k_dflt (first | (refine LCt.ListComp_T (F₀ := by k_asm) (by with_unfolding_all rfl) (by decide) (by rfl) (by decide) (by rfl) ?_) | (refine LCg.ListComp_U (F₀ := by k_asm) (by with_unfolding_all rfl) (by decide) (by rfl) (by decide) (by rfl) ?_))) | walk1 | (dsimp only; walk1) | (leave1; walk_say "STEP leave1"; try dsimp only) | fail "no step"))
    · have hin := any_mem ‹(List.any _ _) = true›
      rw [if_pos hin] at hpk
      have N8 := ‹News g' L' _ _›
      try dsimp only at N8 ⊢
      refine index_ints (News.isList N8 (by k_mem)) hrc (by (first | (apply ap_x; assumption; (repeat constructor); done) | (refine Nat.ne_of_gt ?_; simp only [*]; done) | (refine Nat.ne_of_lt ?_; simp only [*]; done) | ((fail_if_success (fail_if_success omega (config := {}))); (first | with_reducible assumption | decide | lia | omega (config := {}))))) hin ?_
      (repeat' (first | (k_unfold; (try dsimp only)) | (k_end; wrow_close) | ((with_reducible show wpAny _ _ (newTuple _) _ _ _); k_here; k_dflt (refine' newTuple_R ?F ?N ?_ ?z; (case F => k_asm); (case N => k_asm); (case z => kmk_size)); intro _ _ _ _ zl zm; (try k_lt zl); (revert zl zm; intro _ _); (try k_sweep)) | ((with_reducible show wpAny _ _ (call (Value.type _) [Value.ref _]) _ _ _); k_here; (with_unfolding_all (refine' list_copyR ?k1 ?k2 ?k3 ?_ ?z; (case k1 => k_asm); (case k2 => k_asm); (case k3 => is_list); (case z => size_fits); k_whole)); intro _ _ _ _ _ zl zm; (try k_lt zl); (revert zl zm; intro _ _); (try k_sweep)) | ((with_reducible show wpAny _ _ (eval (Expr.ListComp _ _ _ _) _) _ _ _); k_here; k_dflt (first | (refine LCt.ListComp_T (F₀ := by k_asm) (by with_unfolding_all rfl) (by decide) (by rfl) (by decide) (by rfl) ?_) | (refine LCg.ListComp_U (F₀ := by k_asm) (by with_unfolding_all rfl) (by decide) (by rfl) (by decide) (by rfl) ?_))) | walk1 | (dsimp only; walk1) | (leave1; walk_say "STEP leave1"; try dsimp only) | fail "no step"))
      · exfalso
        have hne := ‹_ ≠ (((dueL act heap spot.toNat).idxOf (kn : Int) : Nat) : Int)›
        exact hne hpk
      · have N9 := ‹News g' L' _ _›
        refine stop_go (LCg.CompEnd.intro (by assumption) N9 _ ?_ off.out trivial (kci_no rfl rfl))
        (first | ((repeat (first | exact sub_nil | refine sub_cons 0 rfl ?_ | refine sub_cons 1 rfl ?_ | refine sub_cons 2 rfl ?_ | refine sub_cons 3 rfl ?_ | refine sub_cons 4 rfl ?_ | refine sub_cons 5 rfl ?_ | refine sub_cons 6 rfl ?_ | refine sub_cons 7 rfl ?_ | refine sub_cons 8 rfl ?_ | refine sub_cons 9 rfl ?_ | refine sub_cons 10 rfl ?_ | refine sub_cons 11 rfl ?_ | refine sub_cons 12 rfl ?_ | refine sub_cons 13 rfl ?_)); done) | kcf_all)
    · have hin := any_not_mem ‹(List.any _ _) = false›
      rw [if_neg hin] at hpk
      exact absurd hpk ‹_ ≠ (-1 : Int)›
    · have N9 := ‹News g' L' _ _›
      refine stop_go (LCg.CompEnd.intro (by assumption) N9 _ ?_ off.out trivial (kci_no rfl rfl))
      (first | ((repeat (first | exact sub_nil | refine sub_cons 0 rfl ?_ | refine sub_cons 1 rfl ?_ | refine sub_cons 2 rfl ?_ | refine sub_cons 3 rfl ?_ | refine sub_cons 4 rfl ?_ | refine sub_cons 5 rfl ?_ | refine sub_cons 6 rfl ?_ | refine sub_cons 7 rfl ?_ | refine sub_cons 8 rfl ?_ | refine sub_cons 9 rfl ?_ | refine sub_cons 10 rfl ?_ | refine sub_cons 11 rfl ?_ | refine sub_cons 12 rfl ?_ | refine sub_cons 13 rfl ?_)); done) | kcf_all)
  · unfold KPfDone
    intro ys hys hyl D9 h9 tk9 F9 N9 off9
    rw [foldl_skip] at hys
    replace off9 := hide_of off9
    dsimp only
    (repeat' (first | (k_unfold; (try dsimp only)) | (k_end; wrow_close) | ((with_reducible show wpAny _ _ (newTuple _) _ _ _); k_here; k_dflt (refine' newTuple_R ?F ?N ?_ ?z; (case F => k_asm); (case N => k_asm); (case z => kmk_size)); intro _ _ _ _ zl zm; (try k_lt zl); (revert zl zm; intro _ _); (try k_sweep)) | ((with_reducible show wpAny _ _ (call (Value.type _) [Value.ref _]) _ _ _); k_here; (with_unfolding_all (refine' list_copyR ?k1 ?k2 ?k3 ?_ ?z; (case k1 => k_asm); (case k2 => k_asm); (case k3 => is_list); (case z => size_fits); k_whole)); intro _ _ _ _ _ zl zm; (try k_lt zl); (revert zl zm; intro _ _); (try k_sweep)) | ((with_reducible show wpAny _ _ (eval (Expr.ListComp _ _ _ _) _) _ _ _); k_here; k_dflt (first | (refine LCt.ListComp_T (F₀ := by k_asm) (by with_unfolding_all rfl) (by decide) (by rfl) (by decide) (by rfl) ?_) | (refine LCg.ListComp_U (F₀ := by k_asm) (by with_unfolding_all rfl) (by decide) (by rfl) (by decide) (by rfl) ?_))) | walk1 | (dsimp only; walk1) | (leave1; walk_say "STEP leave1"; try dsimp only) | fail "no step"))
    refine stop_go (ke_eq_ints (News.isList ‹News g' L' _ _› (by k_mem)) (News.isList ‹News g' L' _ _› (by k_mem)) hys .nil (by show un + 3 + 64 < cLine; exact room2 hun rfl) ?_)
    rw [decide_eq_true rfl]
    (repeat' (first | (k_unfold; (try dsimp only)) | (k_end; wrow_close) | ((with_reducible show wpAny _ _ (newTuple _) _ _ _); k_here; k_dflt (refine' newTuple_R ?F ?N ?_ ?z; (case F => k_asm); (case N => k_asm); (case z => kmk_size)); intro _ _ _ _ zl zm; (try k_lt zl); (revert zl zm; intro _ _); (try k_sweep)) | ((with_reducible show wpAny _ _ (call (Value.type _) [Value.ref _]) _ _ _); k_here; (with_unfolding_all (refine' list_copyR ?k1 ?k2 ?k3 ?_ ?z; (case k1 => k_asm); (case k2 => k_asm); (case k3 => is_list); (case z => size_fits); k_whole)); intro _ _ _ _ _ zl zm; (try k_lt zl); (revert zl zm; intro _ _); (try k_sweep)) | ((with_reducible show wpAny _ _ (eval (Expr.ListComp _ _ _ _) _) _ _ _); k_here; k_dflt (first | (refine LCt.ListComp_T (F₀ := by k_asm) (by with_unfolding_all rfl) (by decide) (by rfl) (by decide) (by rfl) ?_) | (refine LCg.ListComp_U (F₀ := by k_asm) (by with_unfolding_all rfl) (by decide) (by rfl) (by decide) (by rfl) ?_))) | walk1 | (dsimp only; walk1) | (leave1; walk_say "STEP leave1"; try dsimp only) | fail "no step"))
    have kN9 := ‹News h₀ L _ _›
    have kP9 := ‹Kept s.heap _ _›
    exact k _ _ _ _ _ _ hh6 hp6 (by assumption) (news_sub kN9 (by (first | ((repeat (first | exact sub_nil | refine sub_cons 0 rfl ?_ | refine sub_cons 1 rfl ?_ | refine sub_cons 2 rfl ?_ | refine sub_cons 3 rfl ?_ | refine sub_cons 4 rfl ?_ | refine sub_cons 5 rfl ?_ | refine sub_cons 6 rfl ?_ | refine sub_cons 7 rfl ?_ | refine sub_cons 8 rfl ?_ | refine sub_cons 9 rfl ?_ | refine sub_cons 10 rfl ?_ | refine sub_cons 11 rfl ?_ | refine sub_cons 12 rfl ?_ | refine sub_cons 13 rfl ?_)); done) | kcf_all))) (kept_shrink (same := [(x, instObj 144 dx), (dx, oDict D al hl pl), (al, oList avs na)]) N kN9 kP9 (by (first | ((repeat (first | exact ks_nil | refine ks_l 0 rfl ?_ | refine ks_l 1 rfl ?_ | refine ks_l 2 rfl ?_ | refine ks_l 3 rfl ?_ | refine ks_l 4 rfl ?_ | refine ks_r 0 rfl ?_ | refine ks_r 1 rfl ?_ | refine ks_r 2 rfl ?_ | refine ks_r 3 rfl ?_ | refine ks_r 4 rfl ?_ | refine ks_r 5 rfl ?_)); done) | simp)) (by (first | ((repeat (first | exact sub_nil | refine sub_cons 0 rfl ?_ | refine sub_cons 1 rfl ?_ | refine sub_cons 2 rfl ?_ | refine sub_cons 3 rfl ?_ | refine sub_cons 4 rfl ?_ | refine sub_cons 5 rfl ?_ | refine sub_cons 6 rfl ?_ | refine sub_cons 7 rfl ?_ | refine sub_cons 8 rfl ?_ | refine sub_cons 9 rfl ?_ | refine sub_cons 10 rfl ?_ | refine sub_cons 11 rfl ?_ | refine sub_cons 12 rfl ?_ | refine sub_cons 13 rfl ?_)); done) | kcf_all)) (by (first | ((repeat (first | exact sub_nil | refine sub_cons 0 rfl ?_ | refine sub_cons 1 rfl ?_ | refine sub_cons 2 rfl ?_ | refine sub_cons 3 rfl ?_ | refine sub_cons 4 rfl ?_ | refine sub_cons 5 rfl ?_ | refine sub_cons 6 rfl ?_ | refine sub_cons 7 rfl ?_ | refine sub_cons 8 rfl ?_ | refine sub_cons 9 rfl ?_ | refine sub_cons 10 rfl ?_ | refine sub_cons 11 rfl ?_ | refine sub_cons 12 rfl ?_ | refine sub_cons 13 rfl ?_)); done) | kcf_all)))
  · intro l k
    exact Nat.le_succ _
-- RgQ1

theorem rank_true {act : List Int} {a b : Int} : rankLt act a b = true ↔ (act.getD b.toNat 0 < act.getD a.toNat 0 ∨ (act.getD a.toNat 0 = act.getD b.toNat 0 ∧ a < b)) := by
  unfold rankLt lexLt
  split
  · rw [decide_eq_true_eq]; (first | exact u_lt ‹_› | exact u_n ‹_› | exact p_lt ‹_› | exact p_ne ‹_› | exact p_nf ‹_› | exact p_l ‹_› | exact b_1 ‹_› | exact Nat.ne_of_gt ‹_› | exact Nat.ne_of_lt ‹_› | exact u_ne ‹_› ‹_› | exact u_nf ‹_› ‹_› | exact u_ab ‹_› ‹_› | exact p_n ‹_› ‹_› | exact p_k ‹_› ‹_› | exact l_e ‹_› ‹_› | exact l_f ‹_› ‹_› | exact b_2 ‹_› ‹_› | exact u_1 _ | exact u_2 _ | (apply Nat.lt_trans; assumption; assumption; done) | (apply Nat.lt_of_lt_of_le; assumption; assumption; done) | (apply Nat.lt_of_le_of_lt; assumption; assumption; done) | (apply Nat.le_trans; assumption; assumption; done) | ((fail_if_success (fail_if_success omega (config := {}))); (first | with_reducible assumption | decide | lia | omega (config := {}))))
  · rw [decide_eq_true_eq]; (first | exact u_lt ‹_› | exact u_n ‹_› | exact p_lt ‹_› | exact p_ne ‹_› | exact p_nf ‹_› | exact p_l ‹_› | exact b_1 ‹_› | exact Nat.ne_of_gt ‹_› | exact Nat.ne_of_lt ‹_› | exact u_ne ‹_› ‹_› | exact u_nf ‹_› ‹_› | exact u_ab ‹_› ‹_› | exact p_n ‹_› ‹_› | exact p_k ‹_› ‹_› | exact l_e ‹_› ‹_› | exact l_f ‹_› ‹_› | exact b_2 ‹_› ‹_› | exact u_1 _ | exact u_2 _ | (apply Nat.lt_trans; assumption; assumption; done) | (apply Nat.lt_of_lt_of_le; assumption; assumption; done) | (apply Nat.lt_of_le_of_lt; assumption; assumption; done) | (apply Nat.le_trans; assumption; assumption; done) | ((fail_if_success (fail_if_success omega (config := {}))); (first | with_reducible assumption | decide | lia | omega (config := {}))))
theorem rank_false {act : List Int} {a b : Int} : rankLt act a b = false ↔ (act.getD a.toNat 0 < act.getD b.toNat 0 ∨ (act.getD a.toNat 0 = act.getD b.toNat 0 ∧ b ≤ a)) := by
  rw [← Bool.not_eq_true, rank_true]; (first | exact u_lt ‹_› | exact u_n ‹_› | exact p_lt ‹_› | exact p_ne ‹_› | exact p_nf ‹_› | exact p_l ‹_› | exact b_1 ‹_› | exact Nat.ne_of_gt ‹_› | exact Nat.ne_of_lt ‹_› | exact u_ne ‹_› ‹_› | exact u_nf ‹_› ‹_› | exact u_ab ‹_› ‹_› | exact p_n ‹_› ‹_› | exact p_k ‹_› ‹_› | exact l_e ‹_› ‹_› | exact l_f ‹_› ‹_› | exact b_2 ‹_› ‹_› | exact u_1 _ | exact u_2 _ | (apply Nat.lt_trans; assumption; assumption; done) | (apply Nat.lt_of_lt_of_le; assumption; assumption; done) | (apply Nat.lt_of_le_of_lt; assumption; assumption; done) | (apply Nat.le_trans; assumption; assumption; done) | ((fail_if_success (fail_if_success omega (config := {}))); (first | with_reducible assumption | decide | lia | omega (config := {}))))
theorem before_rank (act : List Int) (a b : Int) : before act a b = rankLt act a b := by
  unfold before rankLt lexLt
  by_cases h : act.getD a.toNat 0 = act.getD b.toNat 0
  · rw [if_neg (by (first | exact u_lt ‹_› | exact u_n ‹_› | exact p_lt ‹_› | exact p_ne ‹_› | exact p_nf ‹_› | exact p_l ‹_› | exact b_1 ‹_› | exact Nat.ne_of_gt ‹_› | exact Nat.ne_of_lt ‹_› | exact u_ne ‹_› ‹_› | exact u_nf ‹_› ‹_› | exact u_ab ‹_› ‹_› | exact p_n ‹_› ‹_› | exact p_k ‹_› ‹_› | exact l_e ‹_› ‹_› | exact l_f ‹_› ‹_› | exact b_2 ‹_› ‹_› | exact u_1 _ | exact u_2 _ | (apply Nat.lt_trans; assumption; assumption; done) | (apply Nat.lt_of_lt_of_le; assumption; assumption; done) | (apply Nat.lt_of_le_of_lt; assumption; assumption; done) | (apply Nat.le_trans; assumption; assumption; done) | ((fail_if_success (fail_if_success omega (config := {}))); (first | with_reducible assumption | decide | lia | omega (config := {}))))), if_pos (by (first | exact u_lt ‹_› | exact u_n ‹_› | exact p_lt ‹_› | exact p_ne ‹_› | exact p_nf ‹_› | exact p_l ‹_› | exact b_1 ‹_› | exact Nat.ne_of_gt ‹_› | exact Nat.ne_of_lt ‹_› | exact u_ne ‹_› ‹_› | exact u_nf ‹_› ‹_› | exact u_ab ‹_› ‹_› | exact p_n ‹_› ‹_› | exact p_k ‹_› ‹_› | exact l_e ‹_› ‹_› | exact l_f ‹_› ‹_› | exact b_2 ‹_› ‹_› | exact u_1 _ | exact u_2 _ | (apply Nat.lt_trans; assumption; assumption; done) | (apply Nat.lt_of_lt_of_le; assumption; assumption; done) | (apply Nat.lt_of_le_of_lt; assumption; assumption; done) | (apply Nat.le_trans; assumption; assumption; done) | ((fail_if_success (fail_if_success omega (config := {}))); (first | with_reducible assumption | decide | lia | omega (config := {})))))]
  · rw [if_pos h, if_neg (by (first | exact u_lt ‹_› | exact u_n ‹_› | exact p_lt ‹_› | exact p_ne ‹_› | exact p_nf ‹_› | exact p_l ‹_› | exact b_1 ‹_› | exact Nat.ne_of_gt ‹_› | exact Nat.ne_of_lt ‹_› | exact u_ne ‹_› ‹_› | exact u_nf ‹_› ‹_› | exact u_ab ‹_› ‹_› | exact p_n ‹_› ‹_› | exact p_k ‹_› ‹_› | exact l_e ‹_› ‹_› | exact l_f ‹_› ‹_› | exact b_2 ‹_› ‹_› | exact u_1 _ | exact u_2 _ | (apply Nat.lt_trans; assumption; assumption; done) | (apply Nat.lt_of_lt_of_le; assumption; assumption; done) | (apply Nat.lt_of_le_of_lt; assumption; assumption; done) | (apply Nat.le_trans; assumption; assumption; done) | ((fail_if_success (fail_if_success omega (config := {}))); (first | with_reducible assumption | decide | lia | omega (config := {})))))]
    congr 1
    exact propext ⟨fun _ => by (first | exact u_lt ‹_› | exact u_n ‹_› | exact p_lt ‹_› | exact p_ne ‹_› | exact p_nf ‹_› | exact p_l ‹_› | exact b_1 ‹_› | exact Nat.ne_of_gt ‹_› | exact Nat.ne_of_lt ‹_› | exact u_ne ‹_› ‹_› | exact u_nf ‹_› ‹_› | exact u_ab ‹_› ‹_› | exact p_n ‹_› ‹_› | exact p_k ‹_› ‹_› | exact l_e ‹_› ‹_› | exact l_f ‹_› ‹_› | exact b_2 ‹_› ‹_› | exact u_1 _ | exact u_2 _ | (apply Nat.lt_trans; assumption; assumption; done) | (apply Nat.lt_of_lt_of_le; assumption; assumption; done) | (apply Nat.lt_of_le_of_lt; assumption; assumption; done) | (apply Nat.le_trans; assumption; assumption; done) | ((fail_if_success (fail_if_success omega (config := {}))); (first | with_reducible assumption | decide | lia | omega (config := {})))), fun _ => by (first | exact u_lt ‹_› | exact u_n ‹_› | exact p_lt ‹_› | exact p_ne ‹_› | exact p_nf ‹_› | exact p_l ‹_› | exact b_1 ‹_› | exact Nat.ne_of_gt ‹_› | exact Nat.ne_of_lt ‹_› | exact u_ne ‹_› ‹_› | exact u_nf ‹_› ‹_› | exact u_ab ‹_› ‹_› | exact p_n ‹_› ‹_› | exact p_k ‹_› ‹_› | exact l_e ‹_› ‹_› | exact l_f ‹_› ‹_› | exact b_2 ‹_› ‹_› | exact u_1 _ | exact u_2 _ | (apply Nat.lt_trans; assumption; assumption; done) | (apply Nat.lt_of_lt_of_le; assumption; assumption; done) | (apply Nat.lt_of_le_of_lt; assumption; assumption; done) | (apply Nat.le_trans; assumption; assumption; done) | ((fail_if_success (fail_if_success omega (config := {}))); (first | with_reducible assumption | decide | lia | omega (config := {}))))⟩
theorem rank_trans {act : List Int} {a b c : Int} (h1 : rankLt act b a = false) (h2 : rankLt act c b = false) : rankLt act c a = false := by
  rw [rank_false] at h1 h2 ⊢; (first | exact u_lt ‹_› | exact u_n ‹_› | exact p_lt ‹_› | exact p_ne ‹_› | exact p_nf ‹_› | exact p_l ‹_› | exact b_1 ‹_› | exact Nat.ne_of_gt ‹_› | exact Nat.ne_of_lt ‹_› | exact u_ne ‹_› ‹_› | exact u_nf ‹_› ‹_› | exact u_ab ‹_› ‹_› | exact p_n ‹_› ‹_› | exact p_k ‹_› ‹_› | exact l_e ‹_› ‹_› | exact l_f ‹_› ‹_› | exact b_2 ‹_› ‹_› | exact u_1 _ | exact u_2 _ | (apply Nat.lt_trans; assumption; assumption; done) | (apply Nat.lt_of_lt_of_le; assumption; assumption; done) | (apply Nat.lt_of_le_of_lt; assumption; assumption; done) | (apply Nat.le_trans; assumption; assumption; done) | ((fail_if_success (fail_if_success omega (config := {}))); (first | with_reducible assumption | decide | lia | omega (config := {}))))
theorem rank_asym {act : List Int} {a b : Int} (h1 : rankLt act a b = true) : rankLt act b a = false := by
  rw [rank_true] at h1; rw [rank_false]; (first | exact u_lt ‹_› | exact u_n ‹_› | exact p_lt ‹_› | exact p_ne ‹_› | exact p_nf ‹_› | exact p_l ‹_› | exact b_1 ‹_› | exact Nat.ne_of_gt ‹_› | exact Nat.ne_of_lt ‹_› | exact u_ne ‹_› ‹_› | exact u_nf ‹_› ‹_› | exact u_ab ‹_› ‹_› | exact p_n ‹_› ‹_› | exact p_k ‹_› ‹_› | exact l_e ‹_› ‹_› | exact l_f ‹_› ‹_› | exact b_2 ‹_› ‹_› | exact u_1 _ | exact u_2 _ | (apply Nat.lt_trans; assumption; assumption; done) | (apply Nat.lt_of_lt_of_le; assumption; assumption; done) | (apply Nat.lt_of_le_of_lt; assumption; assumption; done) | (apply Nat.le_trans; assumption; assumption; done) | ((fail_if_success (fail_if_success omega (config := {}))); (first | with_reducible assumption | decide | lia | omega (config := {}))))
theorem getElem_getD {l : List Int} {i : Nat} (h : i < l.length) : l[i] = l.getD i 0 := by
  rw [List.getD_eq_getElem?_getD, List.getElem?_eq_getElem h]; rfl
theorem gset (l : List Int) (i j : Nat) (v : Int) : (l.set i v).getD j 0 = if i = j ∧ i < l.length then v else l.getD j 0 := by
  rw [List.getD_eq_getElem?_getD, List.getD_eq_getElem?_getD, List.getElem?_set]
  by_cases h : i = j
  · subst h
    by_cases h2 : i < l.length
    · rw [if_pos rfl, if_pos h2, if_pos ⟨rfl, h2⟩]; rfl
    · rw [if_pos rfl, if_neg h2, if_neg (fun c => h2 c.2), List.getElem?_eq_none (by (first | exact u_lt ‹_› | exact u_n ‹_› | exact p_lt ‹_› | exact p_ne ‹_› | exact p_nf ‹_› | exact p_l ‹_› | exact b_1 ‹_› | exact Nat.ne_of_gt ‹_› | exact Nat.ne_of_lt ‹_› | exact u_ne ‹_› ‹_› | exact u_nf ‹_› ‹_› | exact u_ab ‹_› ‹_› | exact p_n ‹_› ‹_› | exact p_k ‹_› ‹_› | exact l_e ‹_› ‹_› | exact l_f ‹_› ‹_› | exact b_2 ‹_› ‹_› | exact u_1 _ | exact u_2 _ | (apply Nat.lt_trans; assumption; assumption; done) | (apply Nat.lt_of_lt_of_le; assumption; assumption; done) | (apply Nat.lt_of_le_of_lt; assumption; assumption; done) | (apply Nat.le_trans; assumption; assumption; done) | ((fail_if_success (fail_if_success omega (config := {}))); (first | with_reducible assumption | decide | lia | omega (config := {})))))]
  · rw [if_neg h, if_neg (fun c => h c.1)]
theorem gset_eq {l : List Int} {i : Nat} {v : Int} (h : i < l.length) : (l.set i v).getD i 0 = v := by rw [gset, if_pos ⟨rfl, h⟩]
theorem gset_ne {l : List Int} {i j : Nat} {v : Int} (h : i ≠ j) : (l.set i v).getD j 0 = l.getD j 0 := by rw [gset, if_neg (fun c => h c.1)]
theorem riseL_ind (act : List Int) (v : Int) (P : List Int → List Int → Nat → Prop) (step : ∀ h pl sp, 0 < sp → sp < h.length → before act v (h.getD ((sp - 1) / 2) 0) = true → P h pl sp → P (h.set sp (h.getD ((sp - 1) / 2) 0)) (pl.set (h.getD ((sp - 1) / 2) 0).toNat sp) ((sp - 1) / 2)) :
    ∀ sp h pl, sp < h.length → P h pl sp → ∃ h' pl' sp', P h' pl' sp' ∧ riseL act v h pl sp = (h'.set sp' v, pl'.set v.toNat sp') ∧ sp' < h'.length ∧ h'.length = h.length ∧ pl'.length = pl.length ∧ (0 < sp' → before act v (h'.getD ((sp' - 1) / 2) 0) = false) := by
  intro sp
  induction sp using Nat.strongRecOn with
  | ind sp ih =>
    intro h pl hl p
    rw [riseL_eq]
    split
    · rename_i h0
      by_cases hb : before act v (h.getD ((sp - 1) / 2) 0) = true
      · rw [if_pos hb]
        obtain ⟨h', pl', sp', q1, q2, q3, q4, q5, q6⟩ := ih ((sp - 1) / 2) (by (first | exact u_lt ‹_› | exact u_n ‹_› | exact p_lt ‹_› | exact p_ne ‹_› | exact p_nf ‹_› | exact p_l ‹_› | exact b_1 ‹_› | exact Nat.ne_of_gt ‹_› | exact Nat.ne_of_lt ‹_› | exact u_ne ‹_› ‹_› | exact u_nf ‹_› ‹_› | exact u_ab ‹_› ‹_› | exact p_n ‹_› ‹_› | exact p_k ‹_› ‹_› | exact l_e ‹_› ‹_› | exact l_f ‹_› ‹_› | exact b_2 ‹_› ‹_› | exact u_1 _ | exact u_2 _ | (apply Nat.lt_trans; assumption; assumption; done) | (apply Nat.lt_of_lt_of_le; assumption; assumption; done) | (apply Nat.lt_of_le_of_lt; assumption; assumption; done) | (apply Nat.le_trans; assumption; assumption; done) | ((fail_if_success (fail_if_success omega (config := {}))); (first | with_reducible assumption | decide | lia | omega (config := {}))))) _ _ (by rw [List.length_set]; (first | exact u_lt ‹_› | exact u_n ‹_› | exact p_lt ‹_› | exact p_ne ‹_› | exact p_nf ‹_› | exact p_l ‹_› | exact b_1 ‹_› | exact Nat.ne_of_gt ‹_› | exact Nat.ne_of_lt ‹_› | exact u_ne ‹_› ‹_› | exact u_nf ‹_› ‹_› | exact u_ab ‹_› ‹_› | exact p_n ‹_› ‹_› | exact p_k ‹_› ‹_› | exact l_e ‹_› ‹_› | exact l_f ‹_› ‹_› | exact b_2 ‹_› ‹_› | exact u_1 _ | exact u_2 _ | (apply Nat.lt_trans; assumption; assumption; done) | (apply Nat.lt_of_lt_of_le; assumption; assumption; done) | (apply Nat.lt_of_le_of_lt; assumption; assumption; done) | (apply Nat.le_trans; assumption; assumption; done) | ((fail_if_success (fail_if_success omega (config := {}))); (first | with_reducible assumption | decide | lia | omega (config := {}))))) (step h pl sp h0 hl hb p)
        rw [List.length_set] at q4 q5
        exact ⟨h', pl', sp', q1, q2, q3, q4, q5, q6⟩
      · rw [if_neg hb]
        exact ⟨h, pl, sp, p, rfl, hl, rfl, rfl, fun _ => by simpa using hb⟩
    · exact ⟨h, pl, sp, p, rfl, hl, rfl, rfl, fun c => absurd c (by assumption)⟩
/-- the place tells each var's spot -/
structure Good (n : Nat) (H pl : List Int) : Prop where
  len : pl.length = n
  at_ : ∀ j, j < H.length → 1 ≤ H.getD j 0 ∧ H.getD j 0 < n ∧ pl.getD (H.getD j 0).toNat 0 = j
  off : ∀ u : Nat, 1 ≤ u → u < n → pl.getD u 0 = -1 ∨ ∃ j, j < H.length ∧ H.getD j 0 = u
theorem Good.inj {n : Nat} {H pl : List Int} (G : Good n H pl) {i j : Nat} (hi : i < H.length) (hj : j < H.length) (e : H.getD i 0 = H.getD j 0) : i = j := by
  have h1 := (G.at_ i hi).2.2
  have h2 := (G.at_ j hj).2.2
  rw [e, h2] at h1
  (first | exact u_lt ‹_› | exact u_n ‹_› | exact p_lt ‹_› | exact p_ne ‹_› | exact p_nf ‹_› | exact p_l ‹_› | exact b_1 ‹_› | exact Nat.ne_of_gt ‹_› | exact Nat.ne_of_lt ‹_› | exact u_ne ‹_› ‹_› | exact u_nf ‹_› ‹_› | exact u_ab ‹_› ‹_› | exact p_n ‹_› ‹_› | exact p_k ‹_› ‹_› | exact l_e ‹_› ‹_› | exact l_f ‹_› ‹_› | exact b_2 ‹_› ‹_› | exact u_1 _ | exact u_2 _ | (apply Nat.lt_trans; assumption; assumption; done) | (apply Nat.lt_of_lt_of_le; assumption; assumption; done) | (apply Nat.lt_of_le_of_lt; assumption; assumption; done) | (apply Nat.le_trans; assumption; assumption; done) | ((fail_if_success (fail_if_success omega (config := {}))); (first | with_reducible assumption | decide | lia | omega (config := {}))))
theorem Good.range {n : Nat} {H pl : List Int} (G : Good n H pl) : InRange H n := fun v hv => by
  obtain ⟨i, hi, rfl⟩ := List.mem_iff_getElem.mp hv
  have h := G.at_ i hi
  rw [List.getD_eq_getElem?_getD, List.getElem?_eq_getElem hi] at h
  have h1 : 1 ≤ H[i] := h.1
  have h2 : H[i] < n := h.2.1
  (first | exact u_lt ‹_› | exact u_n ‹_› | exact p_lt ‹_› | exact p_ne ‹_› | exact p_nf ‹_› | exact p_l ‹_› | exact b_1 ‹_› | exact Nat.ne_of_gt ‹_› | exact Nat.ne_of_lt ‹_› | exact u_ne ‹_› ‹_› | exact u_nf ‹_› ‹_› | exact u_ab ‹_› ‹_› | exact p_n ‹_› ‹_› | exact p_k ‹_› ‹_› | exact l_e ‹_› ‹_› | exact l_f ‹_› ‹_› | exact b_2 ‹_› ‹_› | exact u_1 _ | exact u_2 _ | (apply Nat.lt_trans; assumption; assumption; done) | (apply Nat.lt_of_lt_of_le; assumption; assumption; done) | (apply Nat.lt_of_le_of_lt; assumption; assumption; done) | (apply Nat.le_trans; assumption; assumption; done) | ((fail_if_success (fail_if_success omega (config := {}))); (first | with_reducible assumption | decide | lia | omega (config := {}))))
theorem mem_at {H : List Int} {v : Int} : v ∈ H ↔ ∃ j, j < H.length ∧ H.getD j 0 = v := by
  constructor
  · intro h
    obtain ⟨i, hi, rfl⟩ := List.mem_iff_getElem.mp h
    exact ⟨i, hi, by rw [List.getD_eq_getElem?_getD, List.getElem?_eq_getElem hi]; rfl⟩
  · rintro ⟨i, hi, rfl⟩
    rw [List.getD_eq_getElem?_getD, List.getElem?_eq_getElem hi]
    exact List.getElem_mem hi
theorem Good.placeOK {n : Nat} {H pl : List Int} (G : Good n H pl) : PlaceOK n H pl := by
  intro v h1 h2
  split
  · rename_i hm
    have hx : H.idxOf (v : Int) < H.length := List.idxOf_lt_length_iff.mpr hm
    have e : H.getD (H.idxOf (v : Int)) 0 = v := by
      rw [List.getD_eq_getElem?_getD, List.getElem?_eq_getElem hx]
      exact List.getElem_idxOf hx
    have := (G.at_ _ hx).2.2
    rw [e, Int.toNat_natCast] at this
    exact this
  · rename_i hm
    rcases G.off v h1 h2 with h | h
    · exact h
    · exact absurd (mem_at.mpr h) hm
theorem Good.swap {n : Nat} {h pl : List Int} {sp ab : Nat} {v : Int} (hs : sp < h.length) (ha : ab < h.length) (hna : ab ≠ sp) (G : Good n (h.set sp v) (pl.set v.toNat sp)) :
    Good n ((h.set sp (h.getD ab 0)).set ab v) ((pl.set (h.getD ab 0).toNat sp).set v.toNat ab) := by
  have hn : pl.length = n := by simpa using G.len
  have e1 : (h.set sp v).getD sp 0 = v := gset_eq hs
  have e2 : (h.set sp v).getD ab 0 = h.getD ab 0 := gset_ne (by (first | exact u_lt ‹_› | exact u_n ‹_› | exact p_lt ‹_› | exact p_ne ‹_› | exact p_nf ‹_› | exact p_l ‹_› | exact b_1 ‹_› | exact Nat.ne_of_gt ‹_› | exact Nat.ne_of_lt ‹_› | exact u_ne ‹_› ‹_› | exact u_nf ‹_› ‹_› | exact u_ab ‹_› ‹_› | exact p_n ‹_› ‹_› | exact p_k ‹_› ‹_› | exact l_e ‹_› ‹_› | exact l_f ‹_› ‹_› | exact b_2 ‹_› ‹_› | exact u_1 _ | exact u_2 _ | (apply Nat.lt_trans; assumption; assumption; done) | (apply Nat.lt_of_lt_of_le; assumption; assumption; done) | (apply Nat.lt_of_le_of_lt; assumption; assumption; done) | (apply Nat.le_trans; assumption; assumption; done) | ((fail_if_success (fail_if_success omega (config := {}))); (first | with_reducible assumption | decide | lia | omega (config := {})))))
  have g1 := G.at_ sp (by rw [List.length_set]; exact hs)
  have g2 := G.at_ ab (by rw [List.length_set]; (first | exact u_lt ‹_› | exact u_n ‹_› | exact p_lt ‹_› | exact p_ne ‹_› | exact p_nf ‹_› | exact p_l ‹_› | exact b_1 ‹_› | exact Nat.ne_of_gt ‹_› | exact Nat.ne_of_lt ‹_› | exact u_ne ‹_› ‹_› | exact u_nf ‹_› ‹_› | exact u_ab ‹_› ‹_› | exact p_n ‹_› ‹_› | exact p_k ‹_› ‹_› | exact l_e ‹_› ‹_› | exact l_f ‹_› ‹_› | exact b_2 ‹_› ‹_› | exact u_1 _ | exact u_2 _ | (apply Nat.lt_trans; assumption; assumption; done) | (apply Nat.lt_of_lt_of_le; assumption; assumption; done) | (apply Nat.lt_of_le_of_lt; assumption; assumption; done) | (apply Nat.le_trans; assumption; assumption; done) | ((fail_if_success (fail_if_success omega (config := {}))); (first | with_reducible assumption | decide | lia | omega (config := {})))))
  rw [e1] at g1
  rw [e2] at g2
  generalize hu : h.getD ab 0 = u at *
  have hne : v.toNat ≠ u.toNat := fun e => by
    rw [← e] at g2
    have := g1.2.2
    rw [g2.2.2] at this
    (first | exact u_lt ‹_› | exact u_n ‹_› | exact p_lt ‹_› | exact p_ne ‹_› | exact p_nf ‹_› | exact p_l ‹_› | exact b_1 ‹_› | exact Nat.ne_of_gt ‹_› | exact Nat.ne_of_lt ‹_› | exact u_ne ‹_› ‹_› | exact u_nf ‹_› ‹_› | exact u_ab ‹_› ‹_› | exact p_n ‹_› ‹_› | exact p_k ‹_› ‹_› | exact l_e ‹_› ‹_› | exact l_f ‹_› ‹_› | exact b_2 ‹_› ‹_› | exact u_1 _ | exact u_2 _ | (apply Nat.lt_trans; assumption; assumption; done) | (apply Nat.lt_of_lt_of_le; assumption; assumption; done) | (apply Nat.lt_of_le_of_lt; assumption; assumption; done) | (apply Nat.le_trans; assumption; assumption; done) | ((fail_if_success (fail_if_success omega (config := {}))); (first | with_reducible assumption | decide | lia | omega (config := {}))))
  refine ⟨by simpa using hn, fun j hj => ?_, fun w h1 h2 => ?_⟩
  · simp only [List.length_set] at hj
    rcases Nat.decEq j ab with c1 | c1
    · rcases Nat.decEq j sp with c2 | c2
      · have e3 : ((h.set sp u).set ab v).getD j 0 = h.getD j 0 := by rw [gset_ne (fun c => c1 c.symm), gset_ne (fun c => c2 c.symm)]
        have e4 : (h.set sp v).getD j 0 = h.getD j 0 := gset_ne (fun c => c2 c.symm)
        have g3 := G.at_ j (by rw [List.length_set]; exact hj)
        rw [e4] at g3
        rw [e3]
        refine ⟨g3.1, g3.2.1, ?_⟩
        have n1 : v.toNat ≠ (h.getD j 0).toNat := fun e => by
          have := g3.2.2
          rw [← e, g1.2.2] at this
          (first | exact u_lt ‹_› | exact u_n ‹_› | exact p_lt ‹_› | exact p_ne ‹_› | exact p_nf ‹_› | exact p_l ‹_› | exact b_1 ‹_› | exact Nat.ne_of_gt ‹_› | exact Nat.ne_of_lt ‹_› | exact u_ne ‹_› ‹_› | exact u_nf ‹_› ‹_› | exact u_ab ‹_› ‹_› | exact p_n ‹_› ‹_› | exact p_k ‹_› ‹_› | exact l_e ‹_› ‹_› | exact l_f ‹_› ‹_› | exact b_2 ‹_› ‹_› | exact u_1 _ | exact u_2 _ | (apply Nat.lt_trans; assumption; assumption; done) | (apply Nat.lt_of_lt_of_le; assumption; assumption; done) | (apply Nat.lt_of_le_of_lt; assumption; assumption; done) | (apply Nat.le_trans; assumption; assumption; done) | ((fail_if_success (fail_if_success omega (config := {}))); (first | with_reducible assumption | decide | lia | omega (config := {}))))
        have n2 : u.toNat ≠ (h.getD j 0).toNat := fun e => by
          have := g3.2.2
          rw [← e, g2.2.2] at this
          (first | exact u_lt ‹_› | exact u_n ‹_› | exact p_lt ‹_› | exact p_ne ‹_› | exact p_nf ‹_› | exact p_l ‹_› | exact b_1 ‹_› | exact Nat.ne_of_gt ‹_› | exact Nat.ne_of_lt ‹_› | exact u_ne ‹_› ‹_› | exact u_nf ‹_› ‹_› | exact u_ab ‹_› ‹_› | exact p_n ‹_› ‹_› | exact p_k ‹_› ‹_› | exact l_e ‹_› ‹_› | exact l_f ‹_› ‹_› | exact b_2 ‹_› ‹_› | exact u_1 _ | exact u_2 _ | (apply Nat.lt_trans; assumption; assumption; done) | (apply Nat.lt_of_lt_of_le; assumption; assumption; done) | (apply Nat.lt_of_le_of_lt; assumption; assumption; done) | (apply Nat.le_trans; assumption; assumption; done) | ((fail_if_success (fail_if_success omega (config := {}))); (first | with_reducible assumption | decide | lia | omega (config := {}))))
        rw [gset_ne n1, gset_ne n2]
        have := g3.2.2
        rw [gset_ne n1] at this
        exact this
      · subst c2
        have e3 : ((h.set j u).set ab v).getD j 0 = u := by rw [gset_ne (by (first | exact u_lt ‹_› | exact u_n ‹_› | exact p_lt ‹_› | exact p_ne ‹_› | exact p_nf ‹_› | exact p_l ‹_› | exact b_1 ‹_› | exact Nat.ne_of_gt ‹_› | exact Nat.ne_of_lt ‹_› | exact u_ne ‹_› ‹_› | exact u_nf ‹_› ‹_› | exact u_ab ‹_› ‹_› | exact p_n ‹_› ‹_› | exact p_k ‹_› ‹_› | exact l_e ‹_› ‹_› | exact l_f ‹_› ‹_› | exact b_2 ‹_› ‹_› | exact u_1 _ | exact u_2 _ | (apply Nat.lt_trans; assumption; assumption; done) | (apply Nat.lt_of_lt_of_le; assumption; assumption; done) | (apply Nat.lt_of_le_of_lt; assumption; assumption; done) | (apply Nat.le_trans; assumption; assumption; done) | ((fail_if_success (fail_if_success omega (config := {}))); (first | with_reducible assumption | decide | lia | omega (config := {}))))), gset_eq hs]
        rw [e3]
        refine ⟨g2.1, g2.2.1, ?_⟩
        rw [gset_ne hne, gset_eq (by (first | exact u_lt ‹_› | exact u_n ‹_› | exact p_lt ‹_› | exact p_ne ‹_› | exact p_nf ‹_› | exact p_l ‹_› | exact b_1 ‹_› | exact Nat.ne_of_gt ‹_› | exact Nat.ne_of_lt ‹_› | exact u_ne ‹_› ‹_› | exact u_nf ‹_› ‹_› | exact u_ab ‹_› ‹_› | exact p_n ‹_› ‹_› | exact p_k ‹_› ‹_› | exact l_e ‹_› ‹_› | exact l_f ‹_› ‹_› | exact b_2 ‹_› ‹_› | exact u_1 _ | exact u_2 _ | (apply Nat.lt_trans; assumption; assumption; done) | (apply Nat.lt_of_lt_of_le; assumption; assumption; done) | (apply Nat.lt_of_le_of_lt; assumption; assumption; done) | (apply Nat.le_trans; assumption; assumption; done) | ((fail_if_success (fail_if_success omega (config := {}))); (first | with_reducible assumption | decide | lia | omega (config := {})))))]
    · subst c1
      have e3 : ((h.set sp u).set j v).getD j 0 = v := gset_eq (by rw [List.length_set]; exact hj)
      rw [e3]
      refine ⟨g1.1, g1.2.1, ?_⟩
      exact gset_eq (by rw [List.length_set]; (first | exact u_lt ‹_› | exact u_n ‹_› | exact p_lt ‹_› | exact p_ne ‹_› | exact p_nf ‹_› | exact p_l ‹_› | exact b_1 ‹_› | exact Nat.ne_of_gt ‹_› | exact Nat.ne_of_lt ‹_› | exact u_ne ‹_› ‹_› | exact u_nf ‹_› ‹_› | exact u_ab ‹_› ‹_› | exact p_n ‹_› ‹_› | exact p_k ‹_› ‹_› | exact l_e ‹_› ‹_› | exact l_f ‹_› ‹_› | exact b_2 ‹_› ‹_› | exact u_1 _ | exact u_2 _ | (apply Nat.lt_trans; assumption; assumption; done) | (apply Nat.lt_of_lt_of_le; assumption; assumption; done) | (apply Nat.lt_of_le_of_lt; assumption; assumption; done) | (apply Nat.le_trans; assumption; assumption; done) | ((fail_if_success (fail_if_success omega (config := {}))); (first | with_reducible assumption | decide | lia | omega (config := {})))))
  · rcases Nat.decEq v.toNat w with c1 | c1
    · rcases Nat.decEq u.toNat w with c2 | c2
      · rw [gset_ne c1, gset_ne c2]
        have := G.off w h1 h2
        rw [gset_ne c1] at this
        rcases this with t | ⟨j, hj, e⟩
        · exact .inl t
        · refine .inr ⟨j, by simpa using hj, ?_⟩
          have n1 : sp ≠ j := fun c => by subst c; rw [e1] at e; (first | exact u_lt ‹_› | exact u_n ‹_› | exact p_lt ‹_› | exact p_ne ‹_› | exact p_nf ‹_› | exact p_l ‹_› | exact b_1 ‹_› | exact Nat.ne_of_gt ‹_› | exact Nat.ne_of_lt ‹_› | exact u_ne ‹_› ‹_› | exact u_nf ‹_› ‹_› | exact u_ab ‹_› ‹_› | exact p_n ‹_› ‹_› | exact p_k ‹_› ‹_› | exact l_e ‹_› ‹_› | exact l_f ‹_› ‹_› | exact b_2 ‹_› ‹_› | exact u_1 _ | exact u_2 _ | (apply Nat.lt_trans; assumption; assumption; done) | (apply Nat.lt_of_lt_of_le; assumption; assumption; done) | (apply Nat.lt_of_le_of_lt; assumption; assumption; done) | (apply Nat.le_trans; assumption; assumption; done) | ((fail_if_success (fail_if_success omega (config := {}))); (first | with_reducible assumption | decide | lia | omega (config := {}))))
          have n2 : ab ≠ j := fun c => by subst c; rw [gset_ne n1, hu] at e; (first | exact u_lt ‹_› | exact u_n ‹_› | exact p_lt ‹_› | exact p_ne ‹_› | exact p_nf ‹_› | exact p_l ‹_› | exact b_1 ‹_› | exact Nat.ne_of_gt ‹_› | exact Nat.ne_of_lt ‹_› | exact u_ne ‹_› ‹_› | exact u_nf ‹_› ‹_› | exact u_ab ‹_› ‹_› | exact p_n ‹_› ‹_› | exact p_k ‹_› ‹_› | exact l_e ‹_› ‹_› | exact l_f ‹_› ‹_› | exact b_2 ‹_› ‹_› | exact u_1 _ | exact u_2 _ | (apply Nat.lt_trans; assumption; assumption; done) | (apply Nat.lt_of_lt_of_le; assumption; assumption; done) | (apply Nat.lt_of_le_of_lt; assumption; assumption; done) | (apply Nat.le_trans; assumption; assumption; done) | ((fail_if_success (fail_if_success omega (config := {}))); (first | with_reducible assumption | decide | lia | omega (config := {}))))
          rw [gset_ne n2, gset_ne n1]
          rw [gset_ne n1] at e
          exact e
      · refine .inr ⟨sp, by simpa using hs, ?_⟩
        rw [gset_ne (by (first | exact u_lt ‹_› | exact u_n ‹_› | exact p_lt ‹_› | exact p_ne ‹_› | exact p_nf ‹_› | exact p_l ‹_› | exact b_1 ‹_› | exact Nat.ne_of_gt ‹_› | exact Nat.ne_of_lt ‹_› | exact u_ne ‹_› ‹_› | exact u_nf ‹_› ‹_› | exact u_ab ‹_› ‹_› | exact p_n ‹_› ‹_› | exact p_k ‹_› ‹_› | exact l_e ‹_› ‹_› | exact l_f ‹_› ‹_› | exact b_2 ‹_› ‹_› | exact u_1 _ | exact u_2 _ | (apply Nat.lt_trans; assumption; assumption; done) | (apply Nat.lt_of_lt_of_le; assumption; assumption; done) | (apply Nat.lt_of_le_of_lt; assumption; assumption; done) | (apply Nat.le_trans; assumption; assumption; done) | ((fail_if_success (fail_if_success omega (config := {}))); (first | with_reducible assumption | decide | lia | omega (config := {}))))), gset_eq hs]
        (first | exact u_lt ‹_› | exact u_n ‹_› | exact p_lt ‹_› | exact p_ne ‹_› | exact p_nf ‹_› | exact p_l ‹_› | exact b_1 ‹_› | exact Nat.ne_of_gt ‹_› | exact Nat.ne_of_lt ‹_› | exact u_ne ‹_› ‹_› | exact u_nf ‹_› ‹_› | exact u_ab ‹_› ‹_› | exact p_n ‹_› ‹_› | exact p_k ‹_› ‹_› | exact l_e ‹_› ‹_› | exact l_f ‹_› ‹_› | exact b_2 ‹_› ‹_› | exact u_1 _ | exact u_2 _ | (apply Nat.lt_trans; assumption; assumption; done) | (apply Nat.lt_of_lt_of_le; assumption; assumption; done) | (apply Nat.lt_of_le_of_lt; assumption; assumption; done) | (apply Nat.le_trans; assumption; assumption; done) | ((fail_if_success (fail_if_success omega (config := {}))); (first | with_reducible assumption | decide | lia | omega (config := {}))))
    · refine .inr ⟨ab, by simp only [List.length_set]; (first | exact u_lt ‹_› | exact u_n ‹_› | exact p_lt ‹_› | exact p_ne ‹_› | exact p_nf ‹_› | exact p_l ‹_› | exact b_1 ‹_› | exact Nat.ne_of_gt ‹_› | exact Nat.ne_of_lt ‹_› | exact u_ne ‹_› ‹_› | exact u_nf ‹_› ‹_› | exact u_ab ‹_› ‹_› | exact p_n ‹_› ‹_› | exact p_k ‹_› ‹_› | exact l_e ‹_› ‹_› | exact l_f ‹_› ‹_› | exact b_2 ‹_› ‹_› | exact u_1 _ | exact u_2 _ | (apply Nat.lt_trans; assumption; assumption; done) | (apply Nat.lt_of_lt_of_le; assumption; assumption; done) | (apply Nat.lt_of_le_of_lt; assumption; assumption; done) | (apply Nat.le_trans; assumption; assumption; done) | ((fail_if_success (fail_if_success omega (config := {}))); (first | with_reducible assumption | decide | lia | omega (config := {})))), ?_⟩
      rw [gset_eq (by rw [List.length_set]; (first | exact u_lt ‹_› | exact u_n ‹_› | exact p_lt ‹_› | exact p_ne ‹_› | exact p_nf ‹_› | exact p_l ‹_› | exact b_1 ‹_› | exact Nat.ne_of_gt ‹_› | exact Nat.ne_of_lt ‹_› | exact u_ne ‹_› ‹_› | exact u_nf ‹_› ‹_› | exact u_ab ‹_› ‹_› | exact p_n ‹_› ‹_› | exact p_k ‹_› ‹_› | exact l_e ‹_› ‹_› | exact l_f ‹_› ‹_› | exact b_2 ‹_› ‹_› | exact u_1 _ | exact u_2 _ | (apply Nat.lt_trans; assumption; assumption; done) | (apply Nat.lt_of_lt_of_le; assumption; assumption; done) | (apply Nat.lt_of_le_of_lt; assumption; assumption; done) | (apply Nat.le_trans; assumption; assumption; done) | ((fail_if_success (fail_if_success omega (config := {}))); (first | with_reducible assumption | decide | lia | omega (config := {})))))]
      (first | exact u_lt ‹_› | exact u_n ‹_› | exact p_lt ‹_› | exact p_ne ‹_› | exact p_nf ‹_› | exact p_l ‹_› | exact b_1 ‹_› | exact Nat.ne_of_gt ‹_› | exact Nat.ne_of_lt ‹_› | exact u_ne ‹_› ‹_› | exact u_nf ‹_› ‹_› | exact u_ab ‹_› ‹_› | exact p_n ‹_› ‹_› | exact p_k ‹_› ‹_› | exact l_e ‹_› ‹_› | exact l_f ‹_› ‹_› | exact b_2 ‹_› ‹_› | exact u_1 _ | exact u_2 _ | (apply Nat.lt_trans; assumption; assumption; done) | (apply Nat.lt_of_lt_of_le; assumption; assumption; done) | (apply Nat.lt_of_le_of_lt; assumption; assumption; done) | (apply Nat.le_trans; assumption; assumption; done) | ((fail_if_success (fail_if_success omega (config := {}))); (first | with_reducible assumption | decide | lia | omega (config := {}))))
/-- all in order but the edge above sp -/
noncomputable def Nearly (act H : List Int) (many sp : Nat) : Prop :=
  (∀ k, 1 ≤ k → k < many → k ≠ sp → rankLt act (H.getD k 0) (H.getD ((k - 1) / 2) 0) = false) ∧
  (0 < sp → ∀ c, 1 ≤ c → c < many → (c - 1) / 2 = sp → rankLt act (H.getD c 0) (H.getD ((sp - 1) / 2) 0) = false)
theorem Nearly.swap {act h : List Int} {many sp : Nat} {v : Int} (hs : sp < h.length) (h0 : 0 < sp) (hb : rankLt act v (h.getD ((sp - 1) / 2) 0) = true) (I : Nearly act (h.set sp v) many sp) (hm : many ≤ h.length) (hm2 : sp < many) :
    Nearly act ((h.set sp (h.getD ((sp - 1) / 2) 0)).set ((sp - 1) / 2) v) many ((sp - 1) / 2) := by
  generalize ha : (sp - 1) / 2 = ab at *
  have hab : ab < sp := by (first | exact u_lt ‹_› | exact u_n ‹_› | exact p_lt ‹_› | exact p_ne ‹_› | exact p_nf ‹_› | exact p_l ‹_› | exact b_1 ‹_› | exact Nat.ne_of_gt ‹_› | exact Nat.ne_of_lt ‹_› | exact u_ne ‹_› ‹_› | exact u_nf ‹_› ‹_› | exact u_ab ‹_› ‹_› | exact p_n ‹_› ‹_› | exact p_k ‹_› ‹_› | exact l_e ‹_› ‹_› | exact l_f ‹_› ‹_› | exact b_2 ‹_› ‹_› | exact u_1 _ | exact u_2 _ | (apply Nat.lt_trans; assumption; assumption; done) | (apply Nat.lt_of_lt_of_le; assumption; assumption; done) | (apply Nat.lt_of_le_of_lt; assumption; assumption; done) | (apply Nat.le_trans; assumption; assumption; done) | ((fail_if_success (fail_if_success omega (config := {}))); (first | with_reducible assumption | decide | lia | omega (config := {}))))
  have e1 : (h.set sp v).getD sp 0 = v := gset_eq hs
  have e2 : (h.set sp v).getD ab 0 = h.getD ab 0 := gset_ne (by (first | exact u_lt ‹_› | exact u_n ‹_› | exact p_lt ‹_› | exact p_ne ‹_› | exact p_nf ‹_› | exact p_l ‹_› | exact b_1 ‹_› | exact Nat.ne_of_gt ‹_› | exact Nat.ne_of_lt ‹_› | exact u_ne ‹_› ‹_› | exact u_nf ‹_› ‹_› | exact u_ab ‹_› ‹_› | exact p_n ‹_› ‹_› | exact p_k ‹_› ‹_› | exact l_e ‹_› ‹_› | exact l_f ‹_› ‹_› | exact b_2 ‹_› ‹_› | exact u_1 _ | exact u_2 _ | (apply Nat.lt_trans; assumption; assumption; done) | (apply Nat.lt_of_lt_of_le; assumption; assumption; done) | (apply Nat.lt_of_le_of_lt; assumption; assumption; done) | (apply Nat.le_trans; assumption; assumption; done) | ((fail_if_success (fail_if_success omega (config := {}))); (first | with_reducible assumption | decide | lia | omega (config := {})))))
  generalize hu : h.getD ab 0 = u at *
  have f1 : ((h.set sp u).set ab v).getD ab 0 = v := gset_eq (by rw [List.length_set]; (first | exact u_lt ‹_› | exact u_n ‹_› | exact p_lt ‹_› | exact p_ne ‹_› | exact p_nf ‹_› | exact p_l ‹_› | exact b_1 ‹_› | exact Nat.ne_of_gt ‹_› | exact Nat.ne_of_lt ‹_› | exact u_ne ‹_› ‹_› | exact u_nf ‹_› ‹_› | exact u_ab ‹_› ‹_› | exact p_n ‹_› ‹_› | exact p_k ‹_› ‹_› | exact l_e ‹_› ‹_› | exact l_f ‹_› ‹_› | exact b_2 ‹_› ‹_› | exact u_1 _ | exact u_2 _ | (apply Nat.lt_trans; assumption; assumption; done) | (apply Nat.lt_of_lt_of_le; assumption; assumption; done) | (apply Nat.lt_of_le_of_lt; assumption; assumption; done) | (apply Nat.le_trans; assumption; assumption; done) | ((fail_if_success (fail_if_success omega (config := {}))); (first | with_reducible assumption | decide | lia | omega (config := {})))))
  have f2 : ((h.set sp u).set ab v).getD sp 0 = u := by rw [gset_ne (by (first | exact u_lt ‹_› | exact u_n ‹_› | exact p_lt ‹_› | exact p_ne ‹_› | exact p_nf ‹_› | exact p_l ‹_› | exact b_1 ‹_› | exact Nat.ne_of_gt ‹_› | exact Nat.ne_of_lt ‹_› | exact u_ne ‹_› ‹_› | exact u_nf ‹_› ‹_› | exact u_ab ‹_› ‹_› | exact p_n ‹_› ‹_› | exact p_k ‹_› ‹_› | exact l_e ‹_› ‹_› | exact l_f ‹_› ‹_› | exact b_2 ‹_› ‹_› | exact u_1 _ | exact u_2 _ | (apply Nat.lt_trans; assumption; assumption; done) | (apply Nat.lt_of_lt_of_le; assumption; assumption; done) | (apply Nat.lt_of_le_of_lt; assumption; assumption; done) | (apply Nat.le_trans; assumption; assumption; done) | ((fail_if_success (fail_if_success omega (config := {}))); (first | with_reducible assumption | decide | lia | omega (config := {}))))), gset_eq hs]
  have f3 : ∀ j, j ≠ ab → j ≠ sp → ((h.set sp u).set ab v).getD j 0 = h.getD j 0 := fun j c1 c2 => by rw [gset_ne (fun c => c1 c.symm), gset_ne (fun c => c2 c.symm)]
  have f4 : ∀ j, j ≠ sp → (h.set sp v).getD j 0 = h.getD j 0 := fun j c2 => gset_ne (fun c => c2 c.symm)
  have huv := rank_asym hb
  obtain ⟨I1, I2⟩ := I
  have I2 := I2 h0
  refine ⟨fun k k1 k2 k3 => ?_, fun hp c c1 c2 c3 => ?_⟩
  · rcases Nat.decEq k sp with d1 | d1
    · have i1 := I1 k k1 k2 d1
      rw [f4 k d1] at i1
      rw [f3 k k3 d1]
      rcases Nat.decEq ((k - 1) / 2) sp with d2 | d2
      · rcases Nat.decEq ((k - 1) / 2) ab with d3 | d3
        · rw [f4 _ d2] at i1
          rw [f3 _ d3 d2]
          exact i1
        · rw [d3, e2] at i1
          rw [d3, f1]
          exact rank_trans huv i1
      · have i2 := I2 k k1 k2 d2
        rw [f4 k d1, ha, e2] at i2
        rw [d2, f2]
        exact i2
    · subst d1
      rw [f2, ha, f1]
      exact huv
  · have i3 := I1 ab (by (first | exact u_lt ‹_› | exact u_n ‹_› | exact p_lt ‹_› | exact p_ne ‹_› | exact p_nf ‹_› | exact p_l ‹_› | exact b_1 ‹_› | exact Nat.ne_of_gt ‹_› | exact Nat.ne_of_lt ‹_› | exact u_ne ‹_› ‹_› | exact u_nf ‹_› ‹_› | exact u_ab ‹_› ‹_› | exact p_n ‹_› ‹_› | exact p_k ‹_› ‹_› | exact l_e ‹_› ‹_› | exact l_f ‹_› ‹_› | exact b_2 ‹_› ‹_› | exact u_1 _ | exact u_2 _ | (apply Nat.lt_trans; assumption; assumption; done) | (apply Nat.lt_of_lt_of_le; assumption; assumption; done) | (apply Nat.lt_of_le_of_lt; assumption; assumption; done) | (apply Nat.le_trans; assumption; assumption; done) | ((fail_if_success (fail_if_success omega (config := {}))); (first | with_reducible assumption | decide | lia | omega (config := {}))))) (by (first | exact u_lt ‹_› | exact u_n ‹_› | exact p_lt ‹_› | exact p_ne ‹_› | exact p_nf ‹_› | exact p_l ‹_› | exact b_1 ‹_› | exact Nat.ne_of_gt ‹_› | exact Nat.ne_of_lt ‹_› | exact u_ne ‹_› ‹_› | exact u_nf ‹_› ‹_› | exact u_ab ‹_› ‹_› | exact p_n ‹_› ‹_› | exact p_k ‹_› ‹_› | exact l_e ‹_› ‹_› | exact l_f ‹_› ‹_› | exact b_2 ‹_› ‹_› | exact u_1 _ | exact u_2 _ | (apply Nat.lt_trans; assumption; assumption; done) | (apply Nat.lt_of_lt_of_le; assumption; assumption; done) | (apply Nat.lt_of_le_of_lt; assumption; assumption; done) | (apply Nat.le_trans; assumption; assumption; done) | ((fail_if_success (fail_if_success omega (config := {}))); (first | with_reducible assumption | decide | lia | omega (config := {}))))) (by (first | exact u_lt ‹_› | exact u_n ‹_› | exact p_lt ‹_› | exact p_ne ‹_› | exact p_nf ‹_› | exact p_l ‹_› | exact b_1 ‹_› | exact Nat.ne_of_gt ‹_› | exact Nat.ne_of_lt ‹_› | exact u_ne ‹_› ‹_› | exact u_nf ‹_› ‹_› | exact u_ab ‹_› ‹_› | exact p_n ‹_› ‹_› | exact p_k ‹_› ‹_› | exact l_e ‹_› ‹_› | exact l_f ‹_› ‹_› | exact b_2 ‹_› ‹_› | exact u_1 _ | exact u_2 _ | (apply Nat.lt_trans; assumption; assumption; done) | (apply Nat.lt_of_lt_of_le; assumption; assumption; done) | (apply Nat.lt_of_le_of_lt; assumption; assumption; done) | (apply Nat.le_trans; assumption; assumption; done) | ((fail_if_success (fail_if_success omega (config := {}))); (first | with_reducible assumption | decide | lia | omega (config := {})))))
    rw [e2, f4 _ (by (first | exact u_lt ‹_› | exact u_n ‹_› | exact p_lt ‹_› | exact p_ne ‹_› | exact p_nf ‹_› | exact p_l ‹_› | exact b_1 ‹_› | exact Nat.ne_of_gt ‹_› | exact Nat.ne_of_lt ‹_› | exact u_ne ‹_› ‹_› | exact u_nf ‹_› ‹_› | exact u_ab ‹_› ‹_› | exact p_n ‹_› ‹_› | exact p_k ‹_› ‹_› | exact l_e ‹_› ‹_› | exact l_f ‹_› ‹_› | exact b_2 ‹_› ‹_› | exact u_1 _ | exact u_2 _ | (apply Nat.lt_trans; assumption; assumption; done) | (apply Nat.lt_of_lt_of_le; assumption; assumption; done) | (apply Nat.lt_of_le_of_lt; assumption; assumption; done) | (apply Nat.le_trans; assumption; assumption; done) | ((fail_if_success (fail_if_success omega (config := {}))); (first | with_reducible assumption | decide | lia | omega (config := {})))))] at i3
    rw [f3 ((ab - 1) / 2) (by (first | exact u_lt ‹_› | exact u_n ‹_› | exact p_lt ‹_› | exact p_ne ‹_› | exact p_nf ‹_› | exact p_l ‹_› | exact b_1 ‹_› | exact Nat.ne_of_gt ‹_› | exact Nat.ne_of_lt ‹_› | exact u_ne ‹_› ‹_› | exact u_nf ‹_› ‹_› | exact u_ab ‹_› ‹_› | exact p_n ‹_› ‹_› | exact p_k ‹_› ‹_› | exact l_e ‹_› ‹_› | exact l_f ‹_› ‹_› | exact b_2 ‹_› ‹_› | exact u_1 _ | exact u_2 _ | (apply Nat.lt_trans; assumption; assumption; done) | (apply Nat.lt_of_lt_of_le; assumption; assumption; done) | (apply Nat.lt_of_le_of_lt; assumption; assumption; done) | (apply Nat.le_trans; assumption; assumption; done) | ((fail_if_success (fail_if_success omega (config := {}))); (first | with_reducible assumption | decide | lia | omega (config := {}))))) (by (first | exact u_lt ‹_› | exact u_n ‹_› | exact p_lt ‹_› | exact p_ne ‹_› | exact p_nf ‹_› | exact p_l ‹_› | exact b_1 ‹_› | exact Nat.ne_of_gt ‹_› | exact Nat.ne_of_lt ‹_› | exact u_ne ‹_› ‹_› | exact u_nf ‹_› ‹_› | exact u_ab ‹_› ‹_› | exact p_n ‹_› ‹_› | exact p_k ‹_› ‹_› | exact l_e ‹_› ‹_› | exact l_f ‹_› ‹_› | exact b_2 ‹_› ‹_› | exact u_1 _ | exact u_2 _ | (apply Nat.lt_trans; assumption; assumption; done) | (apply Nat.lt_of_lt_of_le; assumption; assumption; done) | (apply Nat.lt_of_le_of_lt; assumption; assumption; done) | (apply Nat.le_trans; assumption; assumption; done) | ((fail_if_success (fail_if_success omega (config := {}))); (first | with_reducible assumption | decide | lia | omega (config := {})))))]
    rcases Nat.decEq c sp with d1 | d1
    · rw [f3 c (by (first | exact u_lt ‹_› | exact u_n ‹_› | exact p_lt ‹_› | exact p_ne ‹_› | exact p_nf ‹_› | exact p_l ‹_› | exact b_1 ‹_› | exact Nat.ne_of_gt ‹_› | exact Nat.ne_of_lt ‹_› | exact u_ne ‹_› ‹_› | exact u_nf ‹_› ‹_› | exact u_ab ‹_› ‹_› | exact p_n ‹_› ‹_› | exact p_k ‹_› ‹_› | exact l_e ‹_› ‹_› | exact l_f ‹_› ‹_› | exact b_2 ‹_› ‹_› | exact u_1 _ | exact u_2 _ | (apply Nat.lt_trans; assumption; assumption; done) | (apply Nat.lt_of_lt_of_le; assumption; assumption; done) | (apply Nat.lt_of_le_of_lt; assumption; assumption; done) | (apply Nat.le_trans; assumption; assumption; done) | ((fail_if_success (fail_if_success omega (config := {}))); (first | with_reducible assumption | decide | lia | omega (config := {}))))) d1]
      have i1 := I1 c c1 c2 d1
      rw [f4 c d1, c3, e2] at i1
      exact rank_trans i3 i1
    · subst d1
      rw [f2]
      exact i3
theorem rise_due {act r : List Int} {v : Int} : ∀ (sp : Nat) (h pl : List Int), sp < h.length → (∀ j, j < sp → h.getD j 0 = r.getD j 0 ∧ r.getD j 0 ≠ v) →
    (riseL act v h pl sp).1 = layL h (wayL sp) (takeBehind act r v ((wayL sp).drop 1) ++ [v]) := by
  intro sp
  induction sp using Nat.strongRecOn with
  | ind sp ih =>
    intro h pl hl hr
    rw [riseL_eq]
    rcases Nat.eq_zero_or_pos sp with h0 | h0
    · subst h0
      rw [if_neg (by (first | exact u_lt ‹_› | exact u_n ‹_› | exact p_lt ‹_› | exact p_ne ‹_› | exact p_nf ‹_› | exact p_l ‹_› | exact b_1 ‹_› | exact Nat.ne_of_gt ‹_› | exact Nat.ne_of_lt ‹_› | exact u_ne ‹_› ‹_› | exact u_nf ‹_› ‹_› | exact u_ab ‹_› ‹_› | exact p_n ‹_› ‹_› | exact p_k ‹_› ‹_› | exact l_e ‹_› ‹_› | exact l_f ‹_› ‹_› | exact b_2 ‹_› ‹_› | exact u_1 _ | exact u_2 _ | (apply Nat.lt_trans; assumption; assumption; done) | (apply Nat.lt_of_lt_of_le; assumption; assumption; done) | (apply Nat.lt_of_le_of_lt; assumption; assumption; done) | (apply Nat.le_trans; assumption; assumption; done) | ((fail_if_success (fail_if_success omega (config := {}))); (first | with_reducible assumption | decide | lia | omega (config := {}))))), wayL_zero]
      rfl
    · rw [if_pos h0, wayL_pos h0, List.drop_succ_cons, List.drop_zero]
      have ha : (sp - 1) / 2 < sp := by (first | exact u_lt ‹_› | exact u_n ‹_› | exact p_lt ‹_› | exact p_ne ‹_› | exact p_nf ‹_› | exact p_l ‹_› | exact b_1 ‹_› | exact Nat.ne_of_gt ‹_› | exact Nat.ne_of_lt ‹_› | exact u_ne ‹_› ‹_› | exact u_nf ‹_› ‹_› | exact u_ab ‹_› ‹_› | exact p_n ‹_› ‹_› | exact p_k ‹_› ‹_› | exact l_e ‹_› ‹_› | exact l_f ‹_› ‹_› | exact b_2 ‹_› ‹_› | exact u_1 _ | exact u_2 _ | (apply Nat.lt_trans; assumption; assumption; done) | (apply Nat.lt_of_lt_of_le; assumption; assumption; done) | (apply Nat.lt_of_le_of_lt; assumption; assumption; done) | (apply Nat.le_trans; assumption; assumption; done) | ((fail_if_success (fail_if_success omega (config := {}))); (first | with_reducible assumption | decide | lia | omega (config := {}))))
      obtain ⟨q1, q2⟩ := hr _ ha
      have hw : ∃ tl, wayL ((sp - 1) / 2) = (((sp - 1) / 2 : Nat) : Int) :: tl ∧ (wayL ((sp - 1) / 2)).drop 1 = tl := by
        rw [wayL_eq]; exact ⟨_, rfl, rfl⟩
      obtain ⟨tl, w1, w2⟩ := hw
      have key : takeBehind act r v (wayL ((sp - 1) / 2)) = if rankLt act (r.getD ((sp - 1) / 2) 0) v = true then [] else r.getD ((sp - 1) / 2) 0 :: takeBehind act r v tl := by
        rw [w1, takeBehind, Int.toNat_natCast]
      rw [key]
      by_cases hb : before act v (h.getD ((sp - 1) / 2) 0) = true
      · rw [if_pos hb]
        rw [before_rank, q1] at hb
        rw [if_neg (by rw [rank_asym hb]; decide)]
        rw [ih _ ha _ _ (by rw [List.length_set]; (first | exact u_lt ‹_› | exact u_n ‹_› | exact p_lt ‹_› | exact p_ne ‹_› | exact p_nf ‹_› | exact p_l ‹_› | exact b_1 ‹_› | exact Nat.ne_of_gt ‹_› | exact Nat.ne_of_lt ‹_› | exact u_ne ‹_› ‹_› | exact u_nf ‹_› ‹_› | exact u_ab ‹_› ‹_› | exact p_n ‹_› ‹_› | exact p_k ‹_› ‹_› | exact l_e ‹_› ‹_› | exact l_f ‹_› ‹_› | exact b_2 ‹_› ‹_› | exact u_1 _ | exact u_2 _ | (apply Nat.lt_trans; assumption; assumption; done) | (apply Nat.lt_of_lt_of_le; assumption; assumption; done) | (apply Nat.lt_of_le_of_lt; assumption; assumption; done) | (apply Nat.le_trans; assumption; assumption; done) | ((fail_if_success (fail_if_success omega (config := {}))); (first | with_reducible assumption | decide | lia | omega (config := {}))))) (fun j hj => by rw [gset_ne (by (first | exact u_lt ‹_› | exact u_n ‹_› | exact p_lt ‹_› | exact p_ne ‹_› | exact p_nf ‹_› | exact p_l ‹_› | exact b_1 ‹_› | exact Nat.ne_of_gt ‹_› | exact Nat.ne_of_lt ‹_› | exact u_ne ‹_› ‹_› | exact u_nf ‹_› ‹_› | exact u_ab ‹_› ‹_› | exact p_n ‹_› ‹_› | exact p_k ‹_› ‹_› | exact l_e ‹_› ‹_› | exact l_f ‹_› ‹_› | exact b_2 ‹_› ‹_› | exact u_1 _ | exact u_2 _ | (apply Nat.lt_trans; assumption; assumption; done) | (apply Nat.lt_of_lt_of_le; assumption; assumption; done) | (apply Nat.lt_of_le_of_lt; assumption; assumption; done) | (apply Nat.le_trans; assumption; assumption; done) | ((fail_if_success (fail_if_success omega (config := {}))); (first | with_reducible assumption | decide | lia | omega (config := {})))))]; exact hr j (by (first | exact u_lt ‹_› | exact u_n ‹_› | exact p_lt ‹_› | exact p_ne ‹_› | exact p_nf ‹_› | exact p_l ‹_› | exact b_1 ‹_› | exact Nat.ne_of_gt ‹_› | exact Nat.ne_of_lt ‹_› | exact u_ne ‹_› ‹_› | exact u_nf ‹_› ‹_› | exact u_ab ‹_› ‹_› | exact p_n ‹_› ‹_› | exact p_k ‹_› ‹_› | exact l_e ‹_› ‹_› | exact l_f ‹_› ‹_› | exact b_2 ‹_› ‹_› | exact u_1 _ | exact u_2 _ | (apply Nat.lt_trans; assumption; assumption; done) | (apply Nat.lt_of_lt_of_le; assumption; assumption; done) | (apply Nat.lt_of_le_of_lt; assumption; assumption; done) | (apply Nat.le_trans; assumption; assumption; done) | ((fail_if_success (fail_if_success omega (config := {}))); (first | with_reducible assumption | decide | lia | omega (config := {})))))), w2]
        rw [List.cons_append, layL, Int.toNat_natCast, q1]
      · rw [if_neg hb]
        rw [before_rank, q1, rank_true] at hb
        rw [if_pos (by rw [rank_true]; (first | exact u_lt ‹_› | exact u_n ‹_› | exact p_lt ‹_› | exact p_ne ‹_› | exact p_nf ‹_› | exact p_l ‹_› | exact b_1 ‹_› | exact Nat.ne_of_gt ‹_› | exact Nat.ne_of_lt ‹_› | exact u_ne ‹_› ‹_› | exact u_nf ‹_› ‹_› | exact u_ab ‹_› ‹_› | exact p_n ‹_› ‹_› | exact p_k ‹_› ‹_› | exact l_e ‹_› ‹_› | exact l_f ‹_› ‹_› | exact b_2 ‹_› ‹_› | exact u_1 _ | exact u_2 _ | (apply Nat.lt_trans; assumption; assumption; done) | (apply Nat.lt_of_lt_of_le; assumption; assumption; done) | (apply Nat.lt_of_le_of_lt; assumption; assumption; done) | (apply Nat.le_trans; assumption; assumption; done) | ((fail_if_success (fail_if_success omega (config := {}))); (first | with_reducible assumption | decide | lia | omega (config := {}))))), List.nil_append, layL, layL_nil2, Int.toNat_natCast]
theorem set_self (l : List Int) (i : Nat) (v : Int) (h : l.getD i 0 = v) : l.set i v = l := by
  apply List.ext_getElem? 
  intro j
  rw [List.getElem?_set]
  split
  · rename_i e
    subst e
    split
    · rename_i hl
      rw [List.getD_eq_getElem?_getD, List.getElem?_eq_getElem hl] at h
      rw [List.getElem?_eq_getElem hl]
      exact congrArg some h.symm
    · rename_i hl
      exact (List.getElem?_eq_none (by (first | exact u_lt ‹_› | exact u_n ‹_› | exact p_lt ‹_› | exact p_ne ‹_› | exact p_nf ‹_› | exact p_l ‹_› | exact b_1 ‹_› | exact Nat.ne_of_gt ‹_› | exact Nat.ne_of_lt ‹_› | exact u_ne ‹_› ‹_› | exact u_nf ‹_› ‹_› | exact u_ab ‹_› ‹_› | exact p_n ‹_› ‹_› | exact p_k ‹_› ‹_› | exact l_e ‹_› ‹_› | exact l_f ‹_› ‹_› | exact b_2 ‹_› ‹_› | exact u_1 _ | exact u_2 _ | (apply Nat.lt_trans; assumption; assumption; done) | (apply Nat.lt_of_lt_of_le; assumption; assumption; done) | (apply Nat.lt_of_le_of_lt; assumption; assumption; done) | (apply Nat.le_trans; assumption; assumption; done) | ((fail_if_success (fail_if_success omega (config := {}))); (first | with_reducible assumption | decide | lia | omega (config := {})))))).symm
  · rfl
theorem rise_ok {act : List Int} {n sp many : Nat} {H pl : List Int} (hs : sp < H.length) (G : Good n H pl) (hm : many ≤ H.length) (hm2 : sp < many) (I : Nearly act H many sp) :
    (riseL act (H.getD sp 0) H pl sp).1 = dueL act H sp ∧ Good n (dueL act H sp) (riseL act (H.getD sp 0) H pl sp).2 ∧ Ord act (dueL act H sp) many ∧ (dueL act H sp).Perm H := by
  have hd : (riseL act (H.getD sp 0) H pl sp).1 = dueL act H sp := rise_due sp H pl hs fun j hj => ⟨rfl, fun e => by have := G.inj (by (first | exact u_lt ‹_› | exact u_n ‹_› | exact p_lt ‹_› | exact p_ne ‹_› | exact p_nf ‹_› | exact p_l ‹_› | exact b_1 ‹_› | exact Nat.ne_of_gt ‹_› | exact Nat.ne_of_lt ‹_› | exact u_ne ‹_› ‹_› | exact u_nf ‹_› ‹_› | exact u_ab ‹_› ‹_› | exact p_n ‹_› ‹_› | exact p_k ‹_› ‹_› | exact l_e ‹_› ‹_› | exact l_f ‹_› ‹_› | exact b_2 ‹_› ‹_› | exact u_1 _ | exact u_2 _ | (apply Nat.lt_trans; assumption; assumption; done) | (apply Nat.lt_of_lt_of_le; assumption; assumption; done) | (apply Nat.lt_of_le_of_lt; assumption; assumption; done) | (apply Nat.le_trans; assumption; assumption; done) | ((fail_if_success (fail_if_success omega (config := {}))); (first | with_reducible assumption | decide | lia | omega (config := {}))))) hs e; (first | exact u_lt ‹_› | exact u_n ‹_› | exact p_lt ‹_› | exact p_ne ‹_› | exact p_nf ‹_› | exact p_l ‹_› | exact b_1 ‹_› | exact Nat.ne_of_gt ‹_› | exact Nat.ne_of_lt ‹_› | exact u_ne ‹_› ‹_› | exact u_nf ‹_› ‹_› | exact u_ab ‹_› ‹_› | exact p_n ‹_› ‹_› | exact p_k ‹_› ‹_› | exact l_e ‹_› ‹_› | exact l_f ‹_› ‹_› | exact b_2 ‹_› ‹_› | exact u_1 _ | exact u_2 _ | (apply Nat.lt_trans; assumption; assumption; done) | (apply Nat.lt_of_lt_of_le; assumption; assumption; done) | (apply Nat.lt_of_le_of_lt; assumption; assumption; done) | (apply Nat.le_trans; assumption; assumption; done) | ((fail_if_success (fail_if_success omega (config := {}))); (first | with_reducible assumption | decide | lia | omega (config := {}))))⟩
  refine ⟨hd, ?_⟩
  rw [← hd]
  have e1 : H.set sp (H.getD sp 0) = H := set_self _ _ _ rfl
  have e2 : pl.set (H.getD sp 0).toNat sp = pl := set_self _ _ _ (G.at_ sp hs).2.2
  obtain ⟨h', pl', sp', ⟨⟨G', I', P'⟩, hm', ho'⟩, q2, q3, q4, q5, q6⟩ := riseL_ind act (H.getD sp 0) (fun h pl sp' => (Good n (h.set sp' (H.getD sp 0)) (pl.set (H.getD sp 0).toNat sp') ∧ Nearly act (h.set sp' (H.getD sp 0)) many sp' ∧ (h.set sp' (H.getD sp 0)).Perm H) ∧ many ≤ h.length ∧ sp' < many) (fun h pl sp' h0 hl hb p => by
    obtain ⟨⟨g, i, p⟩, hm, ho⟩ := p
    rw [before_rank] at hb
    refine ⟨⟨g.swap hl (by (first | exact u_lt ‹_› | exact u_n ‹_› | exact p_lt ‹_› | exact p_ne ‹_› | exact p_nf ‹_› | exact p_l ‹_› | exact b_1 ‹_› | exact Nat.ne_of_gt ‹_› | exact Nat.ne_of_lt ‹_› | exact u_ne ‹_› ‹_› | exact u_nf ‹_› ‹_› | exact u_ab ‹_› ‹_› | exact p_n ‹_› ‹_› | exact p_k ‹_› ‹_› | exact l_e ‹_› ‹_› | exact l_f ‹_› ‹_› | exact b_2 ‹_› ‹_› | exact u_1 _ | exact u_2 _ | (apply Nat.lt_trans; assumption; assumption; done) | (apply Nat.lt_of_lt_of_le; assumption; assumption; done) | (apply Nat.lt_of_le_of_lt; assumption; assumption; done) | (apply Nat.le_trans; assumption; assumption; done) | ((fail_if_success (fail_if_success omega (config := {}))); (first | with_reducible assumption | decide | lia | omega (config := {}))))) (by (first | exact u_lt ‹_› | exact u_n ‹_› | exact p_lt ‹_› | exact p_ne ‹_› | exact p_nf ‹_› | exact p_l ‹_› | exact b_1 ‹_› | exact Nat.ne_of_gt ‹_› | exact Nat.ne_of_lt ‹_› | exact u_ne ‹_› ‹_› | exact u_nf ‹_› ‹_› | exact u_ab ‹_› ‹_› | exact p_n ‹_› ‹_› | exact p_k ‹_› ‹_› | exact l_e ‹_› ‹_› | exact l_f ‹_› ‹_› | exact b_2 ‹_› ‹_› | exact u_1 _ | exact u_2 _ | (apply Nat.lt_trans; assumption; assumption; done) | (apply Nat.lt_of_lt_of_le; assumption; assumption; done) | (apply Nat.lt_of_le_of_lt; assumption; assumption; done) | (apply Nat.le_trans; assumption; assumption; done) | ((fail_if_success (fail_if_success omega (config := {}))); (first | with_reducible assumption | decide | lia | omega (config := {}))))), i.swap hl h0 hb hm ho, ?_⟩, by rw [List.length_set]; exact hm, by (first | exact u_lt ‹_› | exact u_n ‹_› | exact p_lt ‹_› | exact p_ne ‹_› | exact p_nf ‹_› | exact p_l ‹_› | exact b_1 ‹_› | exact Nat.ne_of_gt ‹_› | exact Nat.ne_of_lt ‹_› | exact u_ne ‹_› ‹_› | exact u_nf ‹_› ‹_› | exact u_ab ‹_› ‹_› | exact p_n ‹_› ‹_› | exact p_k ‹_› ‹_› | exact l_e ‹_› ‹_› | exact l_f ‹_› ‹_› | exact b_2 ‹_› ‹_› | exact u_1 _ | exact u_2 _ | (apply Nat.lt_trans; assumption; assumption; done) | (apply Nat.lt_of_lt_of_le; assumption; assumption; done) | (apply Nat.lt_of_le_of_lt; assumption; assumption; done) | (apply Nat.le_trans; assumption; assumption; done) | ((fail_if_success (fail_if_success omega (config := {}))); (first | with_reducible assumption | decide | lia | omega (config := {}))))⟩
    refine .trans ?_ p
    have ha : (sp' - 1) / 2 < h.length := by (first | exact u_lt ‹_› | exact u_n ‹_› | exact p_lt ‹_› | exact p_ne ‹_› | exact p_nf ‹_› | exact p_l ‹_› | exact b_1 ‹_› | exact Nat.ne_of_gt ‹_› | exact Nat.ne_of_lt ‹_› | exact u_ne ‹_› ‹_› | exact u_nf ‹_› ‹_› | exact u_ab ‹_› ‹_› | exact p_n ‹_› ‹_› | exact p_k ‹_› ‹_› | exact l_e ‹_› ‹_› | exact l_f ‹_› ‹_› | exact b_2 ‹_› ‹_› | exact u_1 _ | exact u_2 _ | (apply Nat.lt_trans; assumption; assumption; done) | (apply Nat.lt_of_lt_of_le; assumption; assumption; done) | (apply Nat.lt_of_le_of_lt; assumption; assumption; done) | (apply Nat.le_trans; assumption; assumption; done) | ((fail_if_success (fail_if_success omega (config := {}))); (first | with_reducible assumption | decide | lia | omega (config := {}))))
    have l1 : sp' < (h.set sp' (H.getD sp 0)).length := by rw [List.length_set]; exact hl
    have l2 : (sp' - 1) / 2 < (h.set sp' (H.getD sp 0)).length := by rw [List.length_set]; exact ha
    have t := List.set_set_perm l1 l2
    have ea : (h.set sp' (H.getD sp 0))[(sp' - 1) / 2] = h.getD ((sp' - 1) / 2) 0 := by
      exact (List.getElem_set_ne (by (first | exact u_lt ‹_› | exact u_n ‹_› | exact p_lt ‹_› | exact p_ne ‹_› | exact p_nf ‹_› | exact p_l ‹_› | exact b_1 ‹_› | exact Nat.ne_of_gt ‹_› | exact Nat.ne_of_lt ‹_› | exact u_ne ‹_› ‹_› | exact u_nf ‹_› ‹_› | exact u_ab ‹_› ‹_› | exact p_n ‹_› ‹_› | exact p_k ‹_› ‹_› | exact l_e ‹_› ‹_› | exact l_f ‹_› ‹_› | exact b_2 ‹_› ‹_› | exact u_1 _ | exact u_2 _ | (apply Nat.lt_trans; assumption; assumption; done) | (apply Nat.lt_of_lt_of_le; assumption; assumption; done) | (apply Nat.lt_of_le_of_lt; assumption; assumption; done) | (apply Nat.le_trans; assumption; assumption; done) | ((fail_if_success (fail_if_success omega (config := {}))); (first | with_reducible assumption | decide | lia | omega (config := {}))))) _).trans (getElem_getD ha)
    have eb : (h.set sp' (H.getD sp 0))[sp'] = H.getD sp 0 := List.getElem_set_self _
    rw [ea, eb, List.set_set] at t
    exact t) sp H pl hs ⟨⟨by rw [e1, e2]; exact G, by rw [e1]; exact I, by rw [e1]⟩, hm, hm2⟩
  rw [q2]
  refine ⟨G', fun k k1 k2 => ?_, P'⟩
  rcases Nat.decEq k sp' with d | d
  · exact I'.1 k k1 k2 d
  · subst d
    have := q6 (by (first | exact u_lt ‹_› | exact u_n ‹_› | exact p_lt ‹_› | exact p_ne ‹_› | exact p_nf ‹_› | exact p_l ‹_› | exact b_1 ‹_› | exact Nat.ne_of_gt ‹_› | exact Nat.ne_of_lt ‹_› | exact u_ne ‹_› ‹_› | exact u_nf ‹_› ‹_› | exact u_ab ‹_› ‹_› | exact p_n ‹_› ‹_› | exact p_k ‹_› ‹_› | exact l_e ‹_› ‹_› | exact l_f ‹_› ‹_› | exact b_2 ‹_› ‹_› | exact u_1 _ | exact u_2 _ | (apply Nat.lt_trans; assumption; assumption; done) | (apply Nat.lt_of_lt_of_le; assumption; assumption; done) | (apply Nat.lt_of_le_of_lt; assumption; assumption; done) | (apply Nat.le_trans; assumption; assumption; done) | ((fail_if_success (fail_if_success omega (config := {}))); (first | with_reducible assumption | decide | lia | omega (config := {})))))
    rw [before_rank] at this
    rw [gset_eq q3, gset_ne (by (first | exact u_lt ‹_› | exact u_n ‹_› | exact p_lt ‹_› | exact p_ne ‹_› | exact p_nf ‹_› | exact p_l ‹_› | exact b_1 ‹_› | exact Nat.ne_of_gt ‹_› | exact Nat.ne_of_lt ‹_› | exact u_ne ‹_› ‹_› | exact u_nf ‹_› ‹_› | exact u_ab ‹_› ‹_› | exact p_n ‹_› ‹_› | exact p_k ‹_› ‹_› | exact l_e ‹_› ‹_› | exact l_f ‹_› ‹_› | exact b_2 ‹_› ‹_› | exact u_1 _ | exact u_2 _ | (apply Nat.lt_trans; assumption; assumption; done) | (apply Nat.lt_of_lt_of_le; assumption; assumption; done) | (apply Nat.lt_of_le_of_lt; assumption; assumption; done) | (apply Nat.le_trans; assumption; assumption; done) | ((fail_if_success (fail_if_success omega (config := {}))); (first | with_reducible assumption | decide | lia | omega (config := {})))))]
    exact this
-- RgQ2

noncomputable def sp (w : Nat) : Nat → Nat
  | 0 => 0
  | i + 1 => 2 * sp w i + 1 + w / 2 ^ i % 2
theorem sp_next (w i : Nat) : 2 * (sp w i : Int) + 1 + ((w : Int).fdiv (2 ^ (0 + (i : Int)).toNat)).fmod 2 = ((sp w (i + 1) : Nat) : Int) := by
  have e : (0 + (i : Int)).toNat = i := by (first | exact u_lt ‹_› | exact u_n ‹_› | exact p_lt ‹_› | exact p_ne ‹_› | exact p_nf ‹_› | exact p_l ‹_› | exact b_1 ‹_› | exact Nat.ne_of_gt ‹_› | exact Nat.ne_of_lt ‹_› | exact u_ne ‹_› ‹_› | exact u_nf ‹_› ‹_› | exact u_ab ‹_› ‹_› | exact p_n ‹_› ‹_› | exact p_k ‹_› ‹_› | exact l_e ‹_› ‹_› | exact l_f ‹_› ‹_› | exact b_2 ‹_› ‹_› | exact u_1 _ | exact u_2 _ | (apply Nat.lt_trans; assumption; assumption; done) | (apply Nat.lt_of_lt_of_le; assumption; assumption; done) | (apply Nat.lt_of_le_of_lt; assumption; assumption; done) | (apply Nat.le_trans; assumption; assumption; done) | ((fail_if_success (fail_if_success omega (config := {}))); (first | with_reducible assumption | decide | lia | omega (config := {}))))
  rw [e, Int.fdiv_eq_ediv_of_nonneg _ (Int.le_of_lt (Int.pow_pos (by decide))), Int.fmod_eq_emod_of_nonneg _ (by decide)]
  show _ = ((2 * sp w i + 1 + w / 2 ^ i % 2 : Nat) : Int)
  rw [Int.natCast_add, Int.natCast_add, Int.natCast_mul, Int.natCast_emod, Int.natCast_ediv, Int.natCast_pow]
  rfl
theorem sp_lt (w i : Nat) : sp w i + 1 < 2 ^ (i + 1) := by
  induction i with
  | zero => show 0 + 1 < 2 ^ (0 + 1); decide
  | succ i ih =>
    have h : sp w (i + 1) = 2 * sp w i + 1 + w / 2 ^ i % 2 := rfl
    have h2 : w / 2 ^ i % 2 < 2 := Nat.mod_lt _ (by decide)
    rw [h, Nat.pow_succ]
    (first | exact u_lt ‹_› | exact u_n ‹_› | exact p_lt ‹_› | exact p_ne ‹_› | exact p_nf ‹_› | exact p_l ‹_› | exact b_1 ‹_› | exact Nat.ne_of_gt ‹_› | exact Nat.ne_of_lt ‹_› | exact u_ne ‹_› ‹_› | exact u_nf ‹_› ‹_› | exact u_ab ‹_› ‹_› | exact p_n ‹_› ‹_› | exact p_k ‹_› ‹_› | exact l_e ‹_› ‹_› | exact l_f ‹_› ‹_› | exact b_2 ‹_› ‹_› | exact u_1 _ | exact u_2 _ | (apply Nat.lt_trans; assumption; assumption; done) | (apply Nat.lt_of_lt_of_le; assumption; assumption; done) | (apply Nat.lt_of_le_of_lt; assumption; assumption; done) | (apply Nat.le_trans; assumption; assumption; done) | ((fail_if_success (fail_if_success omega (config := {}))); (first | with_reducible assumption | decide | lia | omega (config := {}))))
theorem sp_lt63 (w : Nat) {i : Nat} (h : i < 6) : sp w i < 63 := by
  have h1 := sp_lt w i
  have h2 : 2 ^ (i + 1) ≤ 2 ^ 6 := Nat.pow_le_pow_right (by decide) (by (first | exact u_lt ‹_› | exact u_n ‹_› | exact p_lt ‹_› | exact p_ne ‹_› | exact p_nf ‹_› | exact p_l ‹_› | exact b_1 ‹_› | exact Nat.ne_of_gt ‹_› | exact Nat.ne_of_lt ‹_› | exact u_ne ‹_› ‹_› | exact u_nf ‹_› ‹_› | exact u_ab ‹_› ‹_› | exact p_n ‹_› ‹_› | exact p_k ‹_› ‹_› | exact l_e ‹_› ‹_› | exact l_f ‹_› ‹_› | exact b_2 ‹_› ‹_› | exact u_1 _ | exact u_2 _ | (apply Nat.lt_trans; assumption; assumption; done) | (apply Nat.lt_of_lt_of_le; assumption; assumption; done) | (apply Nat.lt_of_le_of_lt; assumption; assumption; done) | (apply Nat.le_trans; assumption; assumption; done) | ((fail_if_success (fail_if_success omega (config := {}))); (first | with_reducible assumption | decide | lia | omega (config := {})))))
  have h3 : (2 : Nat) ^ 6 = 64 := by decide
  (first | exact u_lt ‹_› | exact u_n ‹_› | exact p_lt ‹_› | exact p_ne ‹_› | exact p_nf ‹_› | exact p_l ‹_› | exact b_1 ‹_› | exact Nat.ne_of_gt ‹_› | exact Nat.ne_of_lt ‹_› | exact u_ne ‹_› ‹_› | exact u_nf ‹_› ‹_› | exact u_ab ‹_› ‹_› | exact p_n ‹_› ‹_› | exact p_k ‹_› ‹_› | exact l_e ‹_› ‹_› | exact l_f ‹_› ‹_› | exact b_2 ‹_› ‹_› | exact u_1 _ | exact u_2 _ | (apply Nat.lt_trans; assumption; assumption; done) | (apply Nat.lt_of_lt_of_le; assumption; assumption; done) | (apply Nat.lt_of_le_of_lt; assumption; assumption; done) | (apply Nat.le_trans; assumption; assumption; done) | ((fail_if_success (fail_if_success omega (config := {}))); (first | with_reducible assumption | decide | lia | omega (config := {}))))
theorem upto_at {k i : Nat} (h : i < k) : (upto k).getD ((i : Int)).toNat 0 = ((i + 1 : Nat) : Int) := by
  rw [Int.toNat_natCast, upto_getD h]; rfl
theorem spot_bound (w i : Nat) (h : sp w i < 63) : 0 ≤ (upto 63).getD ((sp w i : Int)).toNat 0 ∧ (upto 63).getD ((sp w i : Int)).toNat 0 < 64 := by
  rw [upto_at h]
  (first | exact u_lt ‹_› | exact u_n ‹_› | exact p_lt ‹_› | exact p_ne ‹_› | exact p_nf ‹_› | exact p_l ‹_› | exact b_1 ‹_› | exact Nat.ne_of_gt ‹_› | exact Nat.ne_of_lt ‹_› | exact u_ne ‹_› ‹_› | exact u_nf ‹_› ‹_› | exact u_ab ‹_› ‹_› | exact p_n ‹_› ‹_› | exact p_k ‹_› ‹_› | exact l_e ‹_› ‹_› | exact l_f ‹_› ‹_› | exact b_2 ‹_› ‹_› | exact u_1 _ | exact u_2 _ | (apply Nat.lt_trans; assumption; assumption; done) | (apply Nat.lt_of_lt_of_le; assumption; assumption; done) | (apply Nat.lt_of_le_of_lt; assumption; assumption; done) | (apply Nat.le_trans; assumption; assumption; done) | ((fail_if_success (fail_if_success omega (config := {}))); (first | with_reducible assumption | decide | lia | omega (config := {}))))
noncomputable def actF (w : Nat) : Nat → List Int
  | 0 => List.replicate 64 0
  | i + 1 => (actF w i).set (sp w i + 1) (20 - 2 * (i : Int))
theorem actF_len (w i : Nat) : (actF w i).length = 64 := by
  induction i with
  | zero => exact List.length_replicate
  | succ i ih => show ((actF w i).set _ _).length = 64; rw [List.length_set, ih]
theorem places_at {k i : Nat} (h : i < k) : (places k).getD (i + 1) 0 = (i : Int) := by
  rw [List.getD_eq_getElem?_getD]
  simp [places, h]
theorem upto_good (k : Nat) : Good (k + 1) (upto k) (places k) := by
  refine ⟨places_length k, fun j hj => ?_, fun u h1 h2 => ?_⟩
  · rw [upto_length] at hj
    rw [upto_getD hj]
    refine ⟨by (first | exact u_lt ‹_› | exact u_n ‹_› | exact p_lt ‹_› | exact p_ne ‹_› | exact p_nf ‹_› | exact p_l ‹_› | exact b_1 ‹_› | exact Nat.ne_of_gt ‹_› | exact Nat.ne_of_lt ‹_› | exact u_ne ‹_› ‹_› | exact u_nf ‹_› ‹_› | exact u_ab ‹_› ‹_› | exact p_n ‹_› ‹_› | exact p_k ‹_› ‹_› | exact l_e ‹_› ‹_› | exact l_f ‹_› ‹_› | exact b_2 ‹_› ‹_› | exact u_1 _ | exact u_2 _ | (apply Nat.lt_trans; assumption; assumption; done) | (apply Nat.lt_of_lt_of_le; assumption; assumption; done) | (apply Nat.lt_of_le_of_lt; assumption; assumption; done) | (apply Nat.le_trans; assumption; assumption; done) | ((fail_if_success (fail_if_success omega (config := {}))); (first | with_reducible assumption | decide | lia | omega (config := {})))), by (first | exact u_lt ‹_› | exact u_n ‹_› | exact p_lt ‹_› | exact p_ne ‹_› | exact p_nf ‹_› | exact p_l ‹_› | exact b_1 ‹_› | exact Nat.ne_of_gt ‹_› | exact Nat.ne_of_lt ‹_› | exact u_ne ‹_› ‹_› | exact u_nf ‹_› ‹_› | exact u_ab ‹_› ‹_› | exact p_n ‹_› ‹_› | exact p_k ‹_› ‹_› | exact l_e ‹_› ‹_› | exact l_f ‹_› ‹_› | exact b_2 ‹_› ‹_› | exact u_1 _ | exact u_2 _ | (apply Nat.lt_trans; assumption; assumption; done) | (apply Nat.lt_of_lt_of_le; assumption; assumption; done) | (apply Nat.lt_of_le_of_lt; assumption; assumption; done) | (apply Nat.le_trans; assumption; assumption; done) | ((fail_if_success (fail_if_success omega (config := {}))); (first | with_reducible assumption | decide | lia | omega (config := {})))), ?_⟩
    have : ((j : Int) + 1).toNat = j + 1 := by (first | exact u_lt ‹_› | exact u_n ‹_› | exact p_lt ‹_› | exact p_ne ‹_› | exact p_nf ‹_› | exact p_l ‹_› | exact b_1 ‹_› | exact Nat.ne_of_gt ‹_› | exact Nat.ne_of_lt ‹_› | exact u_ne ‹_› ‹_› | exact u_nf ‹_› ‹_› | exact u_ab ‹_› ‹_› | exact p_n ‹_› ‹_› | exact p_k ‹_› ‹_› | exact l_e ‹_› ‹_› | exact l_f ‹_› ‹_› | exact b_2 ‹_› ‹_› | exact u_1 _ | exact u_2 _ | (apply Nat.lt_trans; assumption; assumption; done) | (apply Nat.lt_of_lt_of_le; assumption; assumption; done) | (apply Nat.lt_of_le_of_lt; assumption; assumption; done) | (apply Nat.le_trans; assumption; assumption; done) | ((fail_if_success (fail_if_success omega (config := {}))); (first | with_reducible assumption | decide | lia | omega (config := {}))))
    rw [this, places_at hj]
  · refine .inr ⟨u - 1, by rw [upto_length]; (first | exact u_lt ‹_› | exact u_n ‹_› | exact p_lt ‹_› | exact p_ne ‹_› | exact p_nf ‹_› | exact p_l ‹_› | exact b_1 ‹_› | exact Nat.ne_of_gt ‹_› | exact Nat.ne_of_lt ‹_› | exact u_ne ‹_› ‹_› | exact u_nf ‹_› ‹_› | exact u_ab ‹_› ‹_› | exact p_n ‹_› ‹_› | exact p_k ‹_› ‹_› | exact l_e ‹_› ‹_› | exact l_f ‹_› ‹_› | exact b_2 ‹_› ‹_› | exact u_1 _ | exact u_2 _ | (apply Nat.lt_trans; assumption; assumption; done) | (apply Nat.lt_of_lt_of_le; assumption; assumption; done) | (apply Nat.lt_of_le_of_lt; assumption; assumption; done) | (apply Nat.le_trans; assumption; assumption; done) | ((fail_if_success (fail_if_success omega (config := {}))); (first | with_reducible assumption | decide | lia | omega (config := {})))), ?_⟩
    rw [upto_getD (by (first | exact u_lt ‹_› | exact u_n ‹_› | exact p_lt ‹_› | exact p_ne ‹_› | exact p_nf ‹_› | exact p_l ‹_› | exact b_1 ‹_› | exact Nat.ne_of_gt ‹_› | exact Nat.ne_of_lt ‹_› | exact u_ne ‹_› ‹_› | exact u_nf ‹_› ‹_› | exact u_ab ‹_› ‹_› | exact p_n ‹_› ‹_› | exact p_k ‹_› ‹_› | exact l_e ‹_› ‹_› | exact l_f ‹_› ‹_› | exact b_2 ‹_› ‹_› | exact u_1 _ | exact u_2 _ | (apply Nat.lt_trans; assumption; assumption; done) | (apply Nat.lt_of_lt_of_le; assumption; assumption; done) | (apply Nat.lt_of_le_of_lt; assumption; assumption; done) | (apply Nat.le_trans; assumption; assumption; done) | ((fail_if_success (fail_if_success omega (config := {}))); (first | with_reducible assumption | decide | lia | omega (config := {})))))]
    (first | exact u_lt ‹_› | exact u_n ‹_› | exact p_lt ‹_› | exact p_ne ‹_› | exact p_nf ‹_› | exact p_l ‹_› | exact b_1 ‹_› | exact Nat.ne_of_gt ‹_› | exact Nat.ne_of_lt ‹_› | exact u_ne ‹_› ‹_› | exact u_nf ‹_› ‹_› | exact u_ab ‹_› ‹_› | exact p_n ‹_› ‹_› | exact p_k ‹_› ‹_› | exact l_e ‹_› ‹_› | exact l_f ‹_› ‹_› | exact b_2 ‹_› ‹_› | exact u_1 _ | exact u_2 _ | (apply Nat.lt_trans; assumption; assumption; done) | (apply Nat.lt_of_lt_of_le; assumption; assumption; done) | (apply Nat.lt_of_le_of_lt; assumption; assumption; done) | (apply Nat.le_trans; assumption; assumption; done) | ((fail_if_success (fail_if_success omega (config := {}))); (first | with_reducible assumption | decide | lia | omega (config := {}))))
/-- the activities at the foot -/
noncomputable def actM (w s : Nat) : List Int := (actF w 6).set (sp w 5 + 1) (11 + 2 * (s : Int))
theorem actM_len (w s : Nat) : (actM w s).length = 64 := by
  unfold actM; rw [List.length_set, actF_len]
theorem sp_up (w i : Nat) : sp w i < sp w (i + 1) := by
  have h : sp w (i + 1) = 2 * sp w i + 1 + w / 2 ^ i % 2 := rfl
  (first | exact u_lt ‹_› | exact u_n ‹_› | exact p_lt ‹_› | exact p_ne ‹_› | exact p_nf ‹_› | exact p_l ‹_› | exact b_1 ‹_› | exact Nat.ne_of_gt ‹_› | exact Nat.ne_of_lt ‹_› | exact u_ne ‹_› ‹_› | exact u_nf ‹_› ‹_› | exact u_ab ‹_› ‹_› | exact p_n ‹_› ‹_› | exact p_k ‹_› ‹_› | exact l_e ‹_› ‹_› | exact l_f ‹_› ‹_› | exact b_2 ‹_› ‹_› | exact u_1 _ | exact u_2 _ | (apply Nat.lt_trans; assumption; assumption; done) | (apply Nat.lt_of_lt_of_le; assumption; assumption; done) | (apply Nat.lt_of_le_of_lt; assumption; assumption; done) | (apply Nat.le_trans; assumption; assumption; done) | ((fail_if_success (fail_if_success omega (config := {}))); (first | with_reducible assumption | decide | lia | omega (config := {}))))
theorem sp_mono {w i j : Nat} (h : i < j) : sp w i < sp w j := by
  induction h with
  | refl => exact sp_up w i
  | step _ ih => exact Nat.lt_trans ih (sp_up w _)
theorem sp_above (w i : Nat) : (sp w (i + 1) - 1) / 2 = sp w i := by
  have h : sp w (i + 1) = 2 * sp w i + 1 + w / 2 ^ i % 2 := rfl
  have h2 : w / 2 ^ i % 2 < 2 := Nat.mod_lt _ (by decide)
  rw [h]
  generalize w / 2 ^ i % 2 = b at h2
  (first | exact u_lt ‹_› | exact u_n ‹_› | exact p_lt ‹_› | exact p_ne ‹_› | exact p_nf ‹_› | exact p_l ‹_› | exact b_1 ‹_› | exact Nat.ne_of_gt ‹_› | exact Nat.ne_of_lt ‹_› | exact u_ne ‹_› ‹_› | exact u_nf ‹_› ‹_› | exact u_ab ‹_› ‹_› | exact p_n ‹_› ‹_› | exact p_k ‹_› ‹_› | exact l_e ‹_› ‹_› | exact l_f ‹_› ‹_› | exact b_2 ‹_› ‹_› | exact u_1 _ | exact u_2 _ | (apply Nat.lt_trans; assumption; assumption; done) | (apply Nat.lt_of_lt_of_le; assumption; assumption; done) | (apply Nat.lt_of_le_of_lt; assumption; assumption; done) | (apply Nat.le_trans; assumption; assumption; done) | ((fail_if_success (fail_if_success omega (config := {}))); (first | with_reducible assumption | decide | lia | omega (config := {}))))
theorem sp_ge (w i : Nat) : 2 ^ i ≤ sp w i + 1 := by
  induction i with
  | zero => show 2 ^ 0 ≤ 0 + 1; decide
  | succ i ih =>
    have h : sp w (i + 1) = 2 * sp w i + 1 + w / 2 ^ i % 2 := rfl
    rw [h, Nat.pow_succ]
    (first | exact u_lt ‹_› | exact u_n ‹_› | exact p_lt ‹_› | exact p_ne ‹_› | exact p_nf ‹_› | exact p_l ‹_› | exact b_1 ‹_› | exact Nat.ne_of_gt ‹_› | exact Nat.ne_of_lt ‹_› | exact u_ne ‹_› ‹_› | exact u_nf ‹_› ‹_› | exact u_ab ‹_› ‹_› | exact p_n ‹_› ‹_› | exact p_k ‹_› ‹_› | exact l_e ‹_› ‹_› | exact l_f ‹_› ‹_› | exact b_2 ‹_› ‹_› | exact u_1 _ | exact u_2 _ | (apply Nat.lt_trans; assumption; assumption; done) | (apply Nat.lt_of_lt_of_le; assumption; assumption; done) | (apply Nat.lt_of_le_of_lt; assumption; assumption; done) | (apply Nat.le_trans; assumption; assumption; done) | ((fail_if_success (fail_if_success omega (config := {}))); (first | with_reducible assumption | decide | lia | omega (config := {}))))
theorem actF_on {w n i : Nat} (hn : n ≤ 6) (hi : i < n) : (actF w n).getD (sp w i + 1) 0 = 20 - 2 * (i : Int) := by
  induction n with
  | zero => (first | exact u_lt ‹_› | exact u_n ‹_› | exact p_lt ‹_› | exact p_ne ‹_› | exact p_nf ‹_› | exact p_l ‹_› | exact b_1 ‹_› | exact Nat.ne_of_gt ‹_› | exact Nat.ne_of_lt ‹_› | exact u_ne ‹_› ‹_› | exact u_nf ‹_› ‹_› | exact u_ab ‹_› ‹_› | exact p_n ‹_› ‹_› | exact p_k ‹_› ‹_› | exact l_e ‹_› ‹_› | exact l_f ‹_› ‹_› | exact b_2 ‹_› ‹_› | exact u_1 _ | exact u_2 _ | (apply Nat.lt_trans; assumption; assumption; done) | (apply Nat.lt_of_lt_of_le; assumption; assumption; done) | (apply Nat.lt_of_le_of_lt; assumption; assumption; done) | (apply Nat.le_trans; assumption; assumption; done) | ((fail_if_success (fail_if_success omega (config := {}))); (first | with_reducible assumption | decide | lia | omega (config := {}))))
  | succ n ih =>
    show ((actF w n).set (sp w n + 1) (20 - 2 * (n : Int))).getD (sp w i + 1) 0 = _
    by_cases h : i = n
    · subst h
      exact gset_eq (by rw [actF_len]; have := sp_lt63 w (i := i) (by (first | exact u_lt ‹_› | exact u_n ‹_› | exact p_lt ‹_› | exact p_ne ‹_› | exact p_nf ‹_› | exact p_l ‹_› | exact b_1 ‹_› | exact Nat.ne_of_gt ‹_› | exact Nat.ne_of_lt ‹_› | exact u_ne ‹_› ‹_› | exact u_nf ‹_› ‹_› | exact u_ab ‹_› ‹_› | exact p_n ‹_› ‹_› | exact p_k ‹_› ‹_› | exact l_e ‹_› ‹_› | exact l_f ‹_› ‹_› | exact b_2 ‹_› ‹_› | exact u_1 _ | exact u_2 _ | (apply Nat.lt_trans; assumption; assumption; done) | (apply Nat.lt_of_lt_of_le; assumption; assumption; done) | (apply Nat.lt_of_le_of_lt; assumption; assumption; done) | (apply Nat.le_trans; assumption; assumption; done) | ((fail_if_success (fail_if_success omega (config := {}))); (first | with_reducible assumption | decide | lia | omega (config := {}))))); (first | exact u_lt ‹_› | exact u_n ‹_› | exact p_lt ‹_› | exact p_ne ‹_› | exact p_nf ‹_› | exact p_l ‹_› | exact b_1 ‹_› | exact Nat.ne_of_gt ‹_› | exact Nat.ne_of_lt ‹_› | exact u_ne ‹_› ‹_› | exact u_nf ‹_› ‹_› | exact u_ab ‹_› ‹_› | exact p_n ‹_› ‹_› | exact p_k ‹_› ‹_› | exact l_e ‹_› ‹_› | exact l_f ‹_› ‹_› | exact b_2 ‹_› ‹_› | exact u_1 _ | exact u_2 _ | (apply Nat.lt_trans; assumption; assumption; done) | (apply Nat.lt_of_lt_of_le; assumption; assumption; done) | (apply Nat.lt_of_le_of_lt; assumption; assumption; done) | (apply Nat.le_trans; assumption; assumption; done) | ((fail_if_success (fail_if_success omega (config := {}))); (first | with_reducible assumption | decide | lia | omega (config := {})))))
    · rw [gset_ne (by have := sp_mono (w := w) (i := i) (j := n) (by (first | exact u_lt ‹_› | exact u_n ‹_› | exact p_lt ‹_› | exact p_ne ‹_› | exact p_nf ‹_› | exact p_l ‹_› | exact b_1 ‹_› | exact Nat.ne_of_gt ‹_› | exact Nat.ne_of_lt ‹_› | exact u_ne ‹_› ‹_› | exact u_nf ‹_› ‹_› | exact u_ab ‹_› ‹_› | exact p_n ‹_› ‹_› | exact p_k ‹_› ‹_› | exact l_e ‹_› ‹_› | exact l_f ‹_› ‹_› | exact b_2 ‹_› ‹_› | exact u_1 _ | exact u_2 _ | (apply Nat.lt_trans; assumption; assumption; done) | (apply Nat.lt_of_lt_of_le; assumption; assumption; done) | (apply Nat.lt_of_le_of_lt; assumption; assumption; done) | (apply Nat.le_trans; assumption; assumption; done) | ((fail_if_success (fail_if_success omega (config := {}))); (first | with_reducible assumption | decide | lia | omega (config := {}))))); (first | exact u_lt ‹_› | exact u_n ‹_› | exact p_lt ‹_› | exact p_ne ‹_› | exact p_nf ‹_› | exact p_l ‹_› | exact b_1 ‹_› | exact Nat.ne_of_gt ‹_› | exact Nat.ne_of_lt ‹_› | exact u_ne ‹_› ‹_› | exact u_nf ‹_› ‹_› | exact u_ab ‹_› ‹_› | exact p_n ‹_› ‹_› | exact p_k ‹_› ‹_› | exact l_e ‹_› ‹_› | exact l_f ‹_› ‹_› | exact b_2 ‹_› ‹_› | exact u_1 _ | exact u_2 _ | (apply Nat.lt_trans; assumption; assumption; done) | (apply Nat.lt_of_lt_of_le; assumption; assumption; done) | (apply Nat.lt_of_le_of_lt; assumption; assumption; done) | (apply Nat.le_trans; assumption; assumption; done) | ((fail_if_success (fail_if_success omega (config := {}))); (first | with_reducible assumption | decide | lia | omega (config := {})))))]
      exact ih (by (first | exact u_lt ‹_› | exact u_n ‹_› | exact p_lt ‹_› | exact p_ne ‹_› | exact p_nf ‹_› | exact p_l ‹_› | exact b_1 ‹_› | exact Nat.ne_of_gt ‹_› | exact Nat.ne_of_lt ‹_› | exact u_ne ‹_› ‹_› | exact u_nf ‹_› ‹_› | exact u_ab ‹_› ‹_› | exact p_n ‹_› ‹_› | exact p_k ‹_› ‹_› | exact l_e ‹_› ‹_› | exact l_f ‹_› ‹_› | exact b_2 ‹_› ‹_› | exact u_1 _ | exact u_2 _ | (apply Nat.lt_trans; assumption; assumption; done) | (apply Nat.lt_of_lt_of_le; assumption; assumption; done) | (apply Nat.lt_of_le_of_lt; assumption; assumption; done) | (apply Nat.le_trans; assumption; assumption; done) | ((fail_if_success (fail_if_success omega (config := {}))); (first | with_reducible assumption | decide | lia | omega (config := {}))))) (by (first | exact u_lt ‹_› | exact u_n ‹_› | exact p_lt ‹_› | exact p_ne ‹_› | exact p_nf ‹_› | exact p_l ‹_› | exact b_1 ‹_› | exact Nat.ne_of_gt ‹_› | exact Nat.ne_of_lt ‹_› | exact u_ne ‹_› ‹_› | exact u_nf ‹_› ‹_› | exact u_ab ‹_› ‹_› | exact p_n ‹_› ‹_› | exact p_k ‹_› ‹_› | exact l_e ‹_› ‹_› | exact l_f ‹_› ‹_› | exact b_2 ‹_› ‹_› | exact u_1 _ | exact u_2 _ | (apply Nat.lt_trans; assumption; assumption; done) | (apply Nat.lt_of_lt_of_le; assumption; assumption; done) | (apply Nat.lt_of_le_of_lt; assumption; assumption; done) | (apply Nat.le_trans; assumption; assumption; done) | ((fail_if_success (fail_if_success omega (config := {}))); (first | with_reducible assumption | decide | lia | omega (config := {})))))
theorem actF_off {w n v : Nat} (h : ∀ i, i < n → v ≠ sp w i + 1) : (actF w n).getD v 0 = 0 := by
  induction n with
  | zero => exact zeros_getD 64 v
  | succ n ih =>
    show ((actF w n).set (sp w n + 1) (20 - 2 * (n : Int))).getD v 0 = 0
    rw [gset_ne (fun e => h n (by (first | exact u_lt ‹_› | exact u_n ‹_› | exact p_lt ‹_› | exact p_ne ‹_› | exact p_nf ‹_› | exact p_l ‹_› | exact b_1 ‹_› | exact Nat.ne_of_gt ‹_› | exact Nat.ne_of_lt ‹_› | exact u_ne ‹_› ‹_› | exact u_nf ‹_› ‹_› | exact u_ab ‹_› ‹_› | exact p_n ‹_› ‹_› | exact p_k ‹_› ‹_› | exact l_e ‹_› ‹_› | exact l_f ‹_› ‹_› | exact b_2 ‹_› ‹_› | exact u_1 _ | exact u_2 _ | (apply Nat.lt_trans; assumption; assumption; done) | (apply Nat.lt_of_lt_of_le; assumption; assumption; done) | (apply Nat.lt_of_le_of_lt; assumption; assumption; done) | (apply Nat.le_trans; assumption; assumption; done) | ((fail_if_success (fail_if_success omega (config := {}))); (first | with_reducible assumption | decide | lia | omega (config := {}))))) e.symm)]
    exact ih fun i hi => h i (by (first | exact u_lt ‹_› | exact u_n ‹_› | exact p_lt ‹_› | exact p_ne ‹_› | exact p_nf ‹_› | exact p_l ‹_› | exact b_1 ‹_› | exact Nat.ne_of_gt ‹_› | exact Nat.ne_of_lt ‹_› | exact u_ne ‹_› ‹_› | exact u_nf ‹_› ‹_› | exact u_ab ‹_› ‹_› | exact p_n ‹_› ‹_› | exact p_k ‹_› ‹_› | exact l_e ‹_› ‹_› | exact l_f ‹_› ‹_› | exact b_2 ‹_› ‹_› | exact u_1 _ | exact u_2 _ | (apply Nat.lt_trans; assumption; assumption; done) | (apply Nat.lt_of_lt_of_le; assumption; assumption; done) | (apply Nat.lt_of_le_of_lt; assumption; assumption; done) | (apply Nat.le_trans; assumption; assumption; done) | ((fail_if_success (fail_if_success omega (config := {}))); (first | with_reducible assumption | decide | lia | omega (config := {})))))
theorem actM_on {w s i : Nat} (hi : i < 5) : (actM w s).getD (sp w i + 1) 0 = 20 - 2 * (i : Int) := by
  unfold actM
  rw [gset_ne (by have := sp_mono (w := w) (i := i) (j := 5) hi; (first | exact u_lt ‹_› | exact u_n ‹_› | exact p_lt ‹_› | exact p_ne ‹_› | exact p_nf ‹_› | exact p_l ‹_› | exact b_1 ‹_› | exact Nat.ne_of_gt ‹_› | exact Nat.ne_of_lt ‹_› | exact u_ne ‹_› ‹_› | exact u_nf ‹_› ‹_› | exact u_ab ‹_› ‹_› | exact p_n ‹_› ‹_› | exact p_k ‹_› ‹_› | exact l_e ‹_› ‹_› | exact l_f ‹_› ‹_› | exact b_2 ‹_› ‹_› | exact u_1 _ | exact u_2 _ | (apply Nat.lt_trans; assumption; assumption; done) | (apply Nat.lt_of_lt_of_le; assumption; assumption; done) | (apply Nat.lt_of_le_of_lt; assumption; assumption; done) | (apply Nat.le_trans; assumption; assumption; done) | ((fail_if_success (fail_if_success omega (config := {}))); (first | with_reducible assumption | decide | lia | omega (config := {})))))]
  exact actF_on (by decide) (by (first | exact u_lt ‹_› | exact u_n ‹_› | exact p_lt ‹_› | exact p_ne ‹_› | exact p_nf ‹_› | exact p_l ‹_› | exact b_1 ‹_› | exact Nat.ne_of_gt ‹_› | exact Nat.ne_of_lt ‹_› | exact u_ne ‹_› ‹_› | exact u_nf ‹_› ‹_› | exact u_ab ‹_› ‹_› | exact p_n ‹_› ‹_› | exact p_k ‹_› ‹_› | exact l_e ‹_› ‹_› | exact l_f ‹_› ‹_› | exact b_2 ‹_› ‹_› | exact u_1 _ | exact u_2 _ | (apply Nat.lt_trans; assumption; assumption; done) | (apply Nat.lt_of_lt_of_le; assumption; assumption; done) | (apply Nat.lt_of_le_of_lt; assumption; assumption; done) | (apply Nat.le_trans; assumption; assumption; done) | ((fail_if_success (fail_if_success omega (config := {}))); (first | with_reducible assumption | decide | lia | omega (config := {})))))
theorem actM_foot {w s : Nat} : (actM w s).getD (sp w 5 + 1) 0 = 11 + 2 * (s : Int) := by
  unfold actM
  exact gset_eq (by rw [actF_len]; have := sp_lt63 w (i := 5) (by decide); (first | exact u_lt ‹_› | exact u_n ‹_› | exact p_lt ‹_› | exact p_ne ‹_› | exact p_nf ‹_› | exact p_l ‹_› | exact b_1 ‹_› | exact Nat.ne_of_gt ‹_› | exact Nat.ne_of_lt ‹_› | exact u_ne ‹_› ‹_› | exact u_nf ‹_› ‹_› | exact u_ab ‹_› ‹_› | exact p_n ‹_› ‹_› | exact p_k ‹_› ‹_› | exact l_e ‹_› ‹_› | exact l_f ‹_› ‹_› | exact b_2 ‹_› ‹_› | exact u_1 _ | exact u_2 _ | (apply Nat.lt_trans; assumption; assumption; done) | (apply Nat.lt_of_lt_of_le; assumption; assumption; done) | (apply Nat.lt_of_le_of_lt; assumption; assumption; done) | (apply Nat.le_trans; assumption; assumption; done) | ((fail_if_success (fail_if_success omega (config := {}))); (first | with_reducible assumption | decide | lia | omega (config := {})))))
theorem actM_off {w s v : Nat} (h : ∀ i, i < 6 → v ≠ sp w i + 1) : (actM w s).getD v 0 = 0 := by
  unfold actM
  rw [gset_ne (fun e => h 5 (by decide) e.symm)]
  exact actF_off h
theorem actM_pos (w s v : Nat) : 0 ≤ (actM w s).getD v 0 := by
  by_cases h : ∃ i, i < 6 ∧ v = sp w i + 1
  · obtain ⟨i, hi, rfl⟩ := h
    by_cases h5 : i = 5
    · subst h5; rw [actM_foot]; (first | exact u_lt ‹_› | exact u_n ‹_› | exact p_lt ‹_› | exact p_ne ‹_› | exact p_nf ‹_› | exact p_l ‹_› | exact b_1 ‹_› | exact Nat.ne_of_gt ‹_› | exact Nat.ne_of_lt ‹_› | exact u_ne ‹_› ‹_› | exact u_nf ‹_› ‹_› | exact u_ab ‹_› ‹_› | exact p_n ‹_› ‹_› | exact p_k ‹_› ‹_› | exact l_e ‹_› ‹_› | exact l_f ‹_› ‹_› | exact b_2 ‹_› ‹_› | exact u_1 _ | exact u_2 _ | (apply Nat.lt_trans; assumption; assumption; done) | (apply Nat.lt_of_lt_of_le; assumption; assumption; done) | (apply Nat.lt_of_le_of_lt; assumption; assumption; done) | (apply Nat.le_trans; assumption; assumption; done) | ((fail_if_success (fail_if_success omega (config := {}))); (first | with_reducible assumption | decide | lia | omega (config := {}))))
    · rw [actM_on (by (first | exact u_lt ‹_› | exact u_n ‹_› | exact p_lt ‹_› | exact p_ne ‹_› | exact p_nf ‹_› | exact p_l ‹_› | exact b_1 ‹_› | exact Nat.ne_of_gt ‹_› | exact Nat.ne_of_lt ‹_› | exact u_ne ‹_› ‹_› | exact u_nf ‹_› ‹_› | exact u_ab ‹_› ‹_› | exact p_n ‹_› ‹_› | exact p_k ‹_› ‹_› | exact l_e ‹_› ‹_› | exact l_f ‹_› ‹_› | exact b_2 ‹_› ‹_› | exact u_1 _ | exact u_2 _ | (apply Nat.lt_trans; assumption; assumption; done) | (apply Nat.lt_of_lt_of_le; assumption; assumption; done) | (apply Nat.lt_of_le_of_lt; assumption; assumption; done) | (apply Nat.le_trans; assumption; assumption; done) | ((fail_if_success (fail_if_success omega (config := {}))); (first | with_reducible assumption | decide | lia | omega (config := {})))))]; (first | exact u_lt ‹_› | exact u_n ‹_› | exact p_lt ‹_› | exact p_ne ‹_› | exact p_nf ‹_› | exact p_l ‹_› | exact b_1 ‹_› | exact Nat.ne_of_gt ‹_› | exact Nat.ne_of_lt ‹_› | exact u_ne ‹_› ‹_› | exact u_nf ‹_› ‹_› | exact u_ab ‹_› ‹_› | exact p_n ‹_› ‹_› | exact p_k ‹_› ‹_› | exact l_e ‹_› ‹_› | exact l_f ‹_› ‹_› | exact b_2 ‹_› ‹_› | exact u_1 _ | exact u_2 _ | (apply Nat.lt_trans; assumption; assumption; done) | (apply Nat.lt_of_lt_of_le; assumption; assumption; done) | (apply Nat.lt_of_le_of_lt; assumption; assumption; done) | (apply Nat.le_trans; assumption; assumption; done) | ((fail_if_success (fail_if_success omega (config := {}))); (first | with_reducible assumption | decide | lia | omega (config := {}))))
  · rw [actM_off fun i hi e => h ⟨i, hi, e⟩]; exact Int.le_refl 0
theorem succ_toNat (k : Nat) : ((k : Int) + 1).toNat = k + 1 := by (first | exact u_lt ‹_› | exact u_n ‹_› | exact p_lt ‹_› | exact p_ne ‹_› | exact p_nf ‹_› | exact p_l ‹_› | exact b_1 ‹_› | exact Nat.ne_of_gt ‹_› | exact Nat.ne_of_lt ‹_› | exact u_ne ‹_› ‹_› | exact u_nf ‹_› ‹_› | exact u_ab ‹_› ‹_› | exact p_n ‹_› ‹_› | exact p_k ‹_› ‹_› | exact l_e ‹_› ‹_› | exact l_f ‹_› ‹_› | exact b_2 ‹_› ‹_› | exact u_1 _ | exact u_2 _ | (apply Nat.lt_trans; assumption; assumption; done) | (apply Nat.lt_of_lt_of_le; assumption; assumption; done) | (apply Nat.lt_of_le_of_lt; assumption; assumption; done) | (apply Nat.le_trans; assumption; assumption; done) | ((fail_if_success (fail_if_success omega (config := {}))); (first | with_reducible assumption | decide | lia | omega (config := {}))))
theorem nearly_foot (w s : Nat) : Nearly (actM w s) (upto 63) 63 (sp w 5) := by
  have h31 := sp_ge w 5
  refine ⟨fun k k1 k2 k3 => ?_, fun _ c c1 c2 c3 => by (first | exact u_lt ‹_› | exact u_n ‹_› | exact p_lt ‹_› | exact p_ne ‹_› | exact p_nf ‹_› | exact p_l ‹_› | exact b_1 ‹_› | exact Nat.ne_of_gt ‹_› | exact Nat.ne_of_lt ‹_› | exact u_ne ‹_› ‹_› | exact u_nf ‹_› ‹_› | exact u_ab ‹_› ‹_› | exact p_n ‹_› ‹_› | exact p_k ‹_› ‹_› | exact l_e ‹_› ‹_› | exact l_f ‹_› ‹_› | exact b_2 ‹_› ‹_› | exact u_1 _ | exact u_2 _ | (apply Nat.lt_trans; assumption; assumption; done) | (apply Nat.lt_of_lt_of_le; assumption; assumption; done) | (apply Nat.lt_of_le_of_lt; assumption; assumption; done) | (apply Nat.le_trans; assumption; assumption; done) | ((fail_if_success (fail_if_success omega (config := {}))); (first | with_reducible assumption | decide | lia | omega (config := {}))))⟩
  rw [upto_getD k2, upto_getD (by (first | exact u_lt ‹_› | exact u_n ‹_› | exact p_lt ‹_› | exact p_ne ‹_› | exact p_nf ‹_› | exact p_l ‹_› | exact b_1 ‹_› | exact Nat.ne_of_gt ‹_› | exact Nat.ne_of_lt ‹_› | exact u_ne ‹_› ‹_› | exact u_nf ‹_› ‹_› | exact u_ab ‹_› ‹_› | exact p_n ‹_› ‹_› | exact p_k ‹_› ‹_› | exact l_e ‹_› ‹_› | exact l_f ‹_› ‹_› | exact b_2 ‹_› ‹_› | exact u_1 _ | exact u_2 _ | (apply Nat.lt_trans; assumption; assumption; done) | (apply Nat.lt_of_lt_of_le; assumption; assumption; done) | (apply Nat.lt_of_le_of_lt; assumption; assumption; done) | (apply Nat.le_trans; assumption; assumption; done) | ((fail_if_success (fail_if_success omega (config := {}))); (first | with_reducible assumption | decide | lia | omega (config := {}))))), rank_false, succ_toNat, succ_toNat]
  by_cases h : ∃ i, i < 5 ∧ k = sp w i
  · obtain ⟨i, hi, rfl⟩ := h
    match i with
    | 0 => exact absurd k1 (by show ¬ 1 ≤ 0; decide)
    | j + 1 =>
      rw [sp_above, actM_on hi, actM_on (by (first | exact u_lt ‹_› | exact u_n ‹_› | exact p_lt ‹_› | exact p_ne ‹_› | exact p_nf ‹_› | exact p_l ‹_› | exact b_1 ‹_› | exact Nat.ne_of_gt ‹_› | exact Nat.ne_of_lt ‹_› | exact u_ne ‹_› ‹_› | exact u_nf ‹_› ‹_› | exact u_ab ‹_› ‹_› | exact p_n ‹_› ‹_› | exact p_k ‹_› ‹_› | exact l_e ‹_› ‹_› | exact l_f ‹_› ‹_› | exact b_2 ‹_› ‹_› | exact u_1 _ | exact u_2 _ | (apply Nat.lt_trans; assumption; assumption; done) | (apply Nat.lt_of_lt_of_le; assumption; assumption; done) | (apply Nat.lt_of_le_of_lt; assumption; assumption; done) | (apply Nat.le_trans; assumption; assumption; done) | ((fail_if_success (fail_if_success omega (config := {}))); (first | with_reducible assumption | decide | lia | omega (config := {})))))]
      (first | exact u_lt ‹_› | exact u_n ‹_› | exact p_lt ‹_› | exact p_ne ‹_› | exact p_nf ‹_› | exact p_l ‹_› | exact b_1 ‹_› | exact Nat.ne_of_gt ‹_› | exact Nat.ne_of_lt ‹_› | exact u_ne ‹_› ‹_› | exact u_nf ‹_› ‹_› | exact u_ab ‹_› ‹_› | exact p_n ‹_› ‹_› | exact p_k ‹_› ‹_› | exact l_e ‹_› ‹_› | exact l_f ‹_› ‹_› | exact b_2 ‹_› ‹_› | exact u_1 _ | exact u_2 _ | (apply Nat.lt_trans; assumption; assumption; done) | (apply Nat.lt_of_lt_of_le; assumption; assumption; done) | (apply Nat.lt_of_le_of_lt; assumption; assumption; done) | (apply Nat.le_trans; assumption; assumption; done) | ((fail_if_success (fail_if_success omega (config := {}))); (first | with_reducible assumption | decide | lia | omega (config := {}))))
  · have h0 : (actM w s).getD (k + 1) 0 = 0 := actM_off fun i hi e => by
      by_cases h5 : i = 5
      · subst h5; (first | exact u_lt ‹_› | exact u_n ‹_› | exact p_lt ‹_› | exact p_ne ‹_› | exact p_nf ‹_› | exact p_l ‹_› | exact b_1 ‹_› | exact Nat.ne_of_gt ‹_› | exact Nat.ne_of_lt ‹_› | exact u_ne ‹_› ‹_› | exact u_nf ‹_› ‹_› | exact u_ab ‹_› ‹_› | exact p_n ‹_› ‹_› | exact p_k ‹_› ‹_› | exact l_e ‹_› ‹_› | exact l_f ‹_› ‹_› | exact b_2 ‹_› ‹_› | exact u_1 _ | exact u_2 _ | (apply Nat.lt_trans; assumption; assumption; done) | (apply Nat.lt_of_lt_of_le; assumption; assumption; done) | (apply Nat.lt_of_le_of_lt; assumption; assumption; done) | (apply Nat.le_trans; assumption; assumption; done) | ((fail_if_success (fail_if_success omega (config := {}))); (first | with_reducible assumption | decide | lia | omega (config := {}))))
      · exact h ⟨i, by (first | exact u_lt ‹_› | exact u_n ‹_› | exact p_lt ‹_› | exact p_ne ‹_› | exact p_nf ‹_› | exact p_l ‹_› | exact b_1 ‹_› | exact Nat.ne_of_gt ‹_› | exact Nat.ne_of_lt ‹_› | exact u_ne ‹_› ‹_› | exact u_nf ‹_› ‹_› | exact u_ab ‹_› ‹_› | exact p_n ‹_› ‹_› | exact p_k ‹_› ‹_› | exact l_e ‹_› ‹_› | exact l_f ‹_› ‹_› | exact b_2 ‹_› ‹_› | exact u_1 _ | exact u_2 _ | (apply Nat.lt_trans; assumption; assumption; done) | (apply Nat.lt_of_lt_of_le; assumption; assumption; done) | (apply Nat.lt_of_le_of_lt; assumption; assumption; done) | (apply Nat.le_trans; assumption; assumption; done) | ((fail_if_success (fail_if_success omega (config := {}))); (first | with_reducible assumption | decide | lia | omega (config := {})))), by (first | exact u_lt ‹_› | exact u_n ‹_› | exact p_lt ‹_› | exact p_ne ‹_› | exact p_nf ‹_› | exact p_l ‹_› | exact b_1 ‹_› | exact Nat.ne_of_gt ‹_› | exact Nat.ne_of_lt ‹_› | exact u_ne ‹_› ‹_› | exact u_nf ‹_› ‹_› | exact u_ab ‹_› ‹_› | exact p_n ‹_› ‹_› | exact p_k ‹_› ‹_› | exact l_e ‹_› ‹_› | exact l_f ‹_› ‹_› | exact b_2 ‹_› ‹_› | exact u_1 _ | exact u_2 _ | (apply Nat.lt_trans; assumption; assumption; done) | (apply Nat.lt_of_lt_of_le; assumption; assumption; done) | (apply Nat.lt_of_le_of_lt; assumption; assumption; done) | (apply Nat.le_trans; assumption; assumption; done) | ((fail_if_success (fail_if_success omega (config := {}))); (first | with_reducible assumption | decide | lia | omega (config := {}))))⟩
    have hp := actM_pos w s ((k - 1) / 2 + 1)
    rw [h0]
    (first | exact u_lt ‹_› | exact u_n ‹_› | exact p_lt ‹_› | exact p_ne ‹_› | exact p_nf ‹_› | exact p_l ‹_› | exact b_1 ‹_› | exact Nat.ne_of_gt ‹_› | exact Nat.ne_of_lt ‹_› | exact u_ne ‹_› ‹_› | exact u_nf ‹_› ‹_› | exact u_ab ‹_› ‹_› | exact p_n ‹_› ‹_› | exact p_k ‹_› ‹_› | exact l_e ‹_› ‹_› | exact l_f ‹_› ‹_› | exact b_2 ‹_› ‹_› | exact u_1 _ | exact u_2 _ | (apply Nat.lt_trans; assumption; assumption; done) | (apply Nat.lt_of_lt_of_le; assumption; assumption; done) | (apply Nat.lt_of_le_of_lt; assumption; assumption; done) | (apply Nat.le_trans; assumption; assumption; done) | ((fail_if_success (fail_if_success omega (config := {}))); (first | with_reducible assumption | decide | lia | omega (config := {}))))
theorem foot_rise {w s : Nat} (hs : s < 6) : ∀ i heap place, i < 6 → 5 - s ≤ i → heap.length = 63 → (∀ j, j < i → heap.getD (sp w j) 0 = (sp w j : Int) + 1) →
    (riseL (actM w s) ((sp w 5 : Int) + 1) heap place (sp w i)).1.getD (sp w (5 - s)) 0 = (sp w 5 : Int) + 1 := by
  intro i
  induction i with
  | zero =>
    intro heap place h6 hi hl hh
    have e0 : 5 - s = 0 := by (first | exact u_lt ‹_› | exact u_n ‹_› | exact p_lt ‹_› | exact p_ne ‹_› | exact p_nf ‹_› | exact p_l ‹_› | exact b_1 ‹_› | exact Nat.ne_of_gt ‹_› | exact Nat.ne_of_lt ‹_› | exact u_ne ‹_› ‹_› | exact u_nf ‹_› ‹_› | exact u_ab ‹_› ‹_› | exact p_n ‹_› ‹_› | exact p_k ‹_› ‹_› | exact l_e ‹_› ‹_› | exact l_f ‹_› ‹_› | exact b_2 ‹_› ‹_› | exact u_1 _ | exact u_2 _ | (apply Nat.lt_trans; assumption; assumption; done) | (apply Nat.lt_of_lt_of_le; assumption; assumption; done) | (apply Nat.lt_of_le_of_lt; assumption; assumption; done) | (apply Nat.le_trans; assumption; assumption; done) | ((fail_if_success (fail_if_success omega (config := {}))); (first | with_reducible assumption | decide | lia | omega (config := {}))))
    rw [e0, riseL_eq, if_neg (by show ¬ 0 < 0; decide)]
    exact gset_eq (by rw [hl]; show 0 < 63; decide)
  | succ i ih =>
    intro heap place h6 hi hl hh
    have hup := sp_up w i
    have h63 := sp_lt63 w (i := i + 1) h6
    have hi0 := hh i (by (first | exact u_lt ‹_› | exact u_n ‹_› | exact p_lt ‹_› | exact p_ne ‹_› | exact p_nf ‹_› | exact p_l ‹_› | exact b_1 ‹_› | exact Nat.ne_of_gt ‹_› | exact Nat.ne_of_lt ‹_› | exact u_ne ‹_› ‹_› | exact u_nf ‹_› ‹_› | exact u_ab ‹_› ‹_› | exact p_n ‹_› ‹_› | exact p_k ‹_› ‹_› | exact l_e ‹_› ‹_› | exact l_f ‹_› ‹_› | exact b_2 ‹_› ‹_› | exact u_1 _ | exact u_2 _ | (apply Nat.lt_trans; assumption; assumption; done) | (apply Nat.lt_of_lt_of_le; assumption; assumption; done) | (apply Nat.lt_of_le_of_lt; assumption; assumption; done) | (apply Nat.le_trans; assumption; assumption; done) | ((fail_if_success (fail_if_success omega (config := {}))); (first | with_reducible assumption | decide | lia | omega (config := {})))))
    rw [riseL_eq, if_pos (by (first | exact u_lt ‹_› | exact u_n ‹_› | exact p_lt ‹_› | exact p_ne ‹_› | exact p_nf ‹_› | exact p_l ‹_› | exact b_1 ‹_› | exact Nat.ne_of_gt ‹_› | exact Nat.ne_of_lt ‹_› | exact u_ne ‹_› ‹_› | exact u_nf ‹_› ‹_› | exact u_ab ‹_› ‹_› | exact p_n ‹_› ‹_› | exact p_k ‹_› ‹_› | exact l_e ‹_› ‹_› | exact l_f ‹_› ‹_› | exact b_2 ‹_› ‹_› | exact u_1 _ | exact u_2 _ | (apply Nat.lt_trans; assumption; assumption; done) | (apply Nat.lt_of_lt_of_le; assumption; assumption; done) | (apply Nat.lt_of_le_of_lt; assumption; assumption; done) | (apply Nat.le_trans; assumption; assumption; done) | ((fail_if_success (fail_if_success omega (config := {}))); (first | with_reducible assumption | decide | lia | omega (config := {}))))), sp_above, hi0]
    have hb : before (actM w s) ((sp w 5 : Int) + 1) ((sp w i : Int) + 1) = decide (5 - s ≤ i) := by
      rw [before_rank, Bool.eq_iff_iff, rank_true, succ_toNat, succ_toNat, actM_foot, actM_on (by (first | exact u_lt ‹_› | exact u_n ‹_› | exact p_lt ‹_› | exact p_ne ‹_› | exact p_nf ‹_› | exact p_l ‹_› | exact b_1 ‹_› | exact Nat.ne_of_gt ‹_› | exact Nat.ne_of_lt ‹_› | exact u_ne ‹_› ‹_› | exact u_nf ‹_› ‹_› | exact u_ab ‹_› ‹_› | exact p_n ‹_› ‹_› | exact p_k ‹_› ‹_› | exact l_e ‹_› ‹_› | exact l_f ‹_› ‹_› | exact b_2 ‹_› ‹_› | exact u_1 _ | exact u_2 _ | (apply Nat.lt_trans; assumption; assumption; done) | (apply Nat.lt_of_lt_of_le; assumption; assumption; done) | (apply Nat.lt_of_le_of_lt; assumption; assumption; done) | (apply Nat.le_trans; assumption; assumption; done) | ((fail_if_success (fail_if_success omega (config := {}))); (first | with_reducible assumption | decide | lia | omega (config := {}))))), decide_eq_true_eq]
      have := sp_mono (w := w) (i := i) (j := 5) (by (first | exact u_lt ‹_› | exact u_n ‹_› | exact p_lt ‹_› | exact p_ne ‹_› | exact p_nf ‹_› | exact p_l ‹_› | exact b_1 ‹_› | exact Nat.ne_of_gt ‹_› | exact Nat.ne_of_lt ‹_› | exact u_ne ‹_› ‹_› | exact u_nf ‹_› ‹_› | exact u_ab ‹_› ‹_› | exact p_n ‹_› ‹_› | exact p_k ‹_› ‹_› | exact l_e ‹_› ‹_› | exact l_f ‹_› ‹_› | exact b_2 ‹_› ‹_› | exact u_1 _ | exact u_2 _ | (apply Nat.lt_trans; assumption; assumption; done) | (apply Nat.lt_of_lt_of_le; assumption; assumption; done) | (apply Nat.lt_of_le_of_lt; assumption; assumption; done) | (apply Nat.le_trans; assumption; assumption; done) | ((fail_if_success (fail_if_success omega (config := {}))); (first | with_reducible assumption | decide | lia | omega (config := {})))))
      (first | exact u_lt ‹_› | exact u_n ‹_› | exact p_lt ‹_› | exact p_ne ‹_› | exact p_nf ‹_› | exact p_l ‹_› | exact b_1 ‹_› | exact Nat.ne_of_gt ‹_› | exact Nat.ne_of_lt ‹_› | exact u_ne ‹_› ‹_› | exact u_nf ‹_› ‹_› | exact u_ab ‹_› ‹_› | exact p_n ‹_› ‹_› | exact p_k ‹_› ‹_› | exact l_e ‹_› ‹_› | exact l_f ‹_› ‹_› | exact b_2 ‹_› ‹_› | exact u_1 _ | exact u_2 _ | (apply Nat.lt_trans; assumption; assumption; done) | (apply Nat.lt_of_lt_of_le; assumption; assumption; done) | (apply Nat.lt_of_le_of_lt; assumption; assumption; done) | (apply Nat.le_trans; assumption; assumption; done) | ((fail_if_success (fail_if_success omega (config := {}))); (first | with_reducible assumption | decide | lia | omega (config := {}))))
    rw [hb]
    by_cases hle : 5 - s ≤ i
    · rw [if_pos (by simpa using hle)]
      refine ih _ _ (by (first | exact u_lt ‹_› | exact u_n ‹_› | exact p_lt ‹_› | exact p_ne ‹_› | exact p_nf ‹_› | exact p_l ‹_› | exact b_1 ‹_› | exact Nat.ne_of_gt ‹_› | exact Nat.ne_of_lt ‹_› | exact u_ne ‹_› ‹_› | exact u_nf ‹_› ‹_› | exact u_ab ‹_› ‹_› | exact p_n ‹_› ‹_› | exact p_k ‹_› ‹_› | exact l_e ‹_› ‹_› | exact l_f ‹_› ‹_› | exact b_2 ‹_› ‹_› | exact u_1 _ | exact u_2 _ | (apply Nat.lt_trans; assumption; assumption; done) | (apply Nat.lt_of_lt_of_le; assumption; assumption; done) | (apply Nat.lt_of_le_of_lt; assumption; assumption; done) | (apply Nat.le_trans; assumption; assumption; done) | ((fail_if_success (fail_if_success omega (config := {}))); (first | with_reducible assumption | decide | lia | omega (config := {}))))) hle (by rw [List.length_set]; exact hl) fun j hj => ?_
      have h1 := sp_mono (w := w) (i := j) (j := i + 1) (by (first | exact u_lt ‹_› | exact u_n ‹_› | exact p_lt ‹_› | exact p_ne ‹_› | exact p_nf ‹_› | exact p_l ‹_› | exact b_1 ‹_› | exact Nat.ne_of_gt ‹_› | exact Nat.ne_of_lt ‹_› | exact u_ne ‹_› ‹_› | exact u_nf ‹_› ‹_› | exact u_ab ‹_› ‹_› | exact p_n ‹_› ‹_› | exact p_k ‹_› ‹_› | exact l_e ‹_› ‹_› | exact l_f ‹_› ‹_› | exact b_2 ‹_› ‹_› | exact u_1 _ | exact u_2 _ | (apply Nat.lt_trans; assumption; assumption; done) | (apply Nat.lt_of_lt_of_le; assumption; assumption; done) | (apply Nat.lt_of_le_of_lt; assumption; assumption; done) | (apply Nat.le_trans; assumption; assumption; done) | ((fail_if_success (fail_if_success omega (config := {}))); (first | with_reducible assumption | decide | lia | omega (config := {})))))
      rw [gset_ne (by (first | exact u_lt ‹_› | exact u_n ‹_› | exact p_lt ‹_› | exact p_ne ‹_› | exact p_nf ‹_› | exact p_l ‹_› | exact b_1 ‹_› | exact Nat.ne_of_gt ‹_› | exact Nat.ne_of_lt ‹_› | exact u_ne ‹_› ‹_› | exact u_nf ‹_› ‹_› | exact u_ab ‹_› ‹_› | exact p_n ‹_› ‹_› | exact p_k ‹_› ‹_› | exact l_e ‹_› ‹_› | exact l_f ‹_› ‹_› | exact b_2 ‹_› ‹_› | exact u_1 _ | exact u_2 _ | (apply Nat.lt_trans; assumption; assumption; done) | (apply Nat.lt_of_lt_of_le; assumption; assumption; done) | (apply Nat.lt_of_le_of_lt; assumption; assumption; done) | (apply Nat.le_trans; assumption; assumption; done) | ((fail_if_success (fail_if_success omega (config := {}))); (first | with_reducible assumption | decide | lia | omega (config := {})))))]
      exact hh j (by (first | exact u_lt ‹_› | exact u_n ‹_› | exact p_lt ‹_› | exact p_ne ‹_› | exact p_nf ‹_› | exact p_l ‹_› | exact b_1 ‹_› | exact Nat.ne_of_gt ‹_› | exact Nat.ne_of_lt ‹_› | exact u_ne ‹_› ‹_› | exact u_nf ‹_› ‹_› | exact u_ab ‹_› ‹_› | exact p_n ‹_› ‹_› | exact p_k ‹_› ‹_› | exact l_e ‹_› ‹_› | exact l_f ‹_› ‹_› | exact b_2 ‹_› ‹_› | exact u_1 _ | exact u_2 _ | (apply Nat.lt_trans; assumption; assumption; done) | (apply Nat.lt_of_lt_of_le; assumption; assumption; done) | (apply Nat.lt_of_le_of_lt; assumption; assumption; done) | (apply Nat.le_trans; assumption; assumption; done) | ((fail_if_success (fail_if_success omega (config := {}))); (first | with_reducible assumption | decide | lia | omega (config := {})))))
    · rw [if_neg (by simpa using hle)]
      have e0 : 5 - s = i + 1 := by (first | exact u_lt ‹_› | exact u_n ‹_› | exact p_lt ‹_› | exact p_ne ‹_› | exact p_nf ‹_› | exact p_l ‹_› | exact b_1 ‹_› | exact Nat.ne_of_gt ‹_› | exact Nat.ne_of_lt ‹_› | exact u_ne ‹_› ‹_› | exact u_nf ‹_› ‹_› | exact u_ab ‹_› ‹_› | exact p_n ‹_› ‹_› | exact p_k ‹_› ‹_› | exact l_e ‹_› ‹_› | exact l_f ‹_› ‹_› | exact b_2 ‹_› ‹_› | exact u_1 _ | exact u_2 _ | (apply Nat.lt_trans; assumption; assumption; done) | (apply Nat.lt_of_lt_of_le; assumption; assumption; done) | (apply Nat.lt_of_le_of_lt; assumption; assumption; done) | (apply Nat.le_trans; assumption; assumption; done) | ((fail_if_success (fail_if_success omega (config := {}))); (first | with_reducible assumption | decide | lia | omega (config := {}))))
      rw [e0]
      exact gset_eq (by rw [hl]; exact h63)
theorem foot_ok {w s : Nat} (hw : w < 32) (hs : s < 6) :
    (riseL (actM w s) ((upto 63).getD (sp w 5) 0) (upto 63) (places 63) (sp w 5)).1 = dueL (actM w s) (upto 63) (sp w 5) ∧ Good 64 (dueL (actM w s) (upto 63) (sp w 5)) (riseL (actM w s) ((upto 63).getD (sp w 5) 0) (upto 63) (places 63) (sp w 5)).2 ∧ Ord (actM w s) (dueL (actM w s) (upto 63) (sp w 5)) 63 ∧ (dueL (actM w s) (upto 63) (sp w 5)).length = 63 ∧ (dueL (actM w s) (upto 63) (sp w 5)).getD (sp w (5 - s)) 0 = (sp w 5 : Int) + 1 := by
  have h63 : sp w 5 < 63 := sp_lt63 w (by decide)
  obtain ⟨r1, r2, r3, r4⟩ := rise_ok (H := upto 63) (pl := places 63) (by rw [upto_length]; exact h63) (upto_good 63) (many := 63) (by rw [upto_length]; decide) h63 (nearly_foot w s)
  refine ⟨r1, r2, r3, by rw [r4.length_eq, upto_length], ?_⟩
  rw [← r1, upto_getD h63]
  exact foot_rise hs 5 (upto 63) (places 63) (by decide) (by (first | exact u_lt ‹_› | exact u_n ‹_› | exact p_lt ‹_› | exact p_ne ‹_› | exact p_nf ‹_› | exact p_l ‹_› | exact b_1 ‹_› | exact Nat.ne_of_gt ‹_› | exact Nat.ne_of_lt ‹_› | exact u_ne ‹_› ‹_› | exact u_nf ‹_› ‹_› | exact u_ab ‹_› ‹_› | exact p_n ‹_› ‹_› | exact p_k ‹_› ‹_› | exact l_e ‹_› ‹_› | exact l_f ‹_› ‹_› | exact b_2 ‹_› ‹_› | exact u_1 _ | exact u_2 _ | (apply Nat.lt_trans; assumption; assumption; done) | (apply Nat.lt_of_lt_of_le; assumption; assumption; done) | (apply Nat.lt_of_le_of_lt; assumption; assumption; done) | (apply Nat.le_trans; assumption; assumption; done) | ((fail_if_success (fail_if_success omega (config := {}))); (first | with_reducible assumption | decide | lia | omega (config := {}))))) (upto_length 63) fun j hj => upto_getD (sp_lt63 w (by (first | exact u_lt ‹_› | exact u_n ‹_› | exact p_lt ‹_› | exact p_ne ‹_› | exact p_nf ‹_› | exact p_l ‹_› | exact b_1 ‹_› | exact Nat.ne_of_gt ‹_› | exact Nat.ne_of_lt ‹_› | exact u_ne ‹_› ‹_› | exact u_nf ‹_› ‹_› | exact u_ab ‹_› ‹_› | exact p_n ‹_› ‹_› | exact p_k ‹_› ‹_› | exact l_e ‹_› ‹_› | exact l_f ‹_› ‹_› | exact b_2 ‹_› ‹_› | exact u_1 _ | exact u_2 _ | (apply Nat.lt_trans; assumption; assumption; done) | (apply Nat.lt_of_lt_of_le; assumption; assumption; done) | (apply Nat.lt_of_le_of_lt; assumption; assumption; done) | (apply Nat.le_trans; assumption; assumption; done) | ((fail_if_success (fail_if_success omega (config := {}))); (first | with_reducible assumption | decide | lia | omega (config := {}))))))
-- RgQ4

theorem betterC_none {act h : List Int} {sp : Nat} (hc : h.length ≤ 2 * sp + 1) : betterC act h sp = -1 := by
  unfold betterC; rw [if_pos (by (first | exact u_lt ‹_› | exact u_n ‹_› | exact p_lt ‹_› | exact p_ne ‹_› | exact p_nf ‹_› | exact p_l ‹_› | exact b_1 ‹_› | exact Nat.ne_of_gt ‹_› | exact Nat.ne_of_lt ‹_› | exact u_ne ‹_› ‹_› | exact u_nf ‹_› ‹_› | exact u_ab ‹_› ‹_› | exact p_n ‹_› ‹_› | exact p_k ‹_› ‹_› | exact l_e ‹_› ‹_› | exact l_f ‹_› ‹_› | exact b_2 ‹_› ‹_› | exact u_1 _ | exact u_2 _ | (apply Nat.lt_trans; assumption; assumption; done) | (apply Nat.lt_of_lt_of_le; assumption; assumption; done) | (apply Nat.lt_of_le_of_lt; assumption; assumption; done) | (apply Nat.le_trans; assumption; assumption; done) | ((fail_if_success (fail_if_success omega (config := {}))); (first | with_reducible assumption | decide | lia | omega (config := {})))))]
theorem betterC_some {act h : List Int} {sp : Nat} (hc : 2 * sp + 1 < h.length) : ∃ c : Nat, betterC act h sp = (c : Int) ∧ c < h.length ∧ 1 ≤ c ∧ (c - 1) / 2 = sp ∧ ∀ k, 1 ≤ k → k < h.length → (k - 1) / 2 = sp → rankLt act (h.getD k 0) (h.getD c 0) = false := by
  have refl : ∀ a : Int, rankLt act a a = false := fun a => by rw [rank_false]; (first | exact u_lt ‹_› | exact u_n ‹_› | exact p_lt ‹_› | exact p_ne ‹_› | exact p_nf ‹_› | exact p_l ‹_› | exact b_1 ‹_› | exact Nat.ne_of_gt ‹_› | exact Nat.ne_of_lt ‹_› | exact u_ne ‹_› ‹_› | exact u_nf ‹_› ‹_› | exact u_ab ‹_› ‹_› | exact p_n ‹_› ‹_› | exact p_k ‹_› ‹_› | exact l_e ‹_› ‹_› | exact l_f ‹_› ‹_› | exact b_2 ‹_› ‹_› | exact u_1 _ | exact u_2 _ | (apply Nat.lt_trans; assumption; assumption; done) | (apply Nat.lt_of_lt_of_le; assumption; assumption; done) | (apply Nat.lt_of_le_of_lt; assumption; assumption; done) | (apply Nat.le_trans; assumption; assumption; done) | ((fail_if_success (fail_if_success omega (config := {}))); (first | with_reducible assumption | decide | lia | omega (config := {}))))
  unfold betterC
  rw [if_neg (by (first | exact u_lt ‹_› | exact u_n ‹_› | exact p_lt ‹_› | exact p_ne ‹_› | exact p_nf ‹_› | exact p_l ‹_› | exact b_1 ‹_› | exact Nat.ne_of_gt ‹_› | exact Nat.ne_of_lt ‹_› | exact u_ne ‹_› ‹_› | exact u_nf ‹_› ‹_› | exact u_ab ‹_› ‹_› | exact p_n ‹_› ‹_› | exact p_k ‹_› ‹_› | exact l_e ‹_› ‹_› | exact l_f ‹_› ‹_› | exact b_2 ‹_› ‹_› | exact u_1 _ | exact u_2 _ | (apply Nat.lt_trans; assumption; assumption; done) | (apply Nat.lt_of_lt_of_le; assumption; assumption; done) | (apply Nat.lt_of_le_of_lt; assumption; assumption; done) | (apply Nat.le_trans; assumption; assumption; done) | ((fail_if_success (fail_if_success omega (config := {}))); (first | with_reducible assumption | decide | lia | omega (config := {})))))]
  by_cases h2 : 2 * sp + 2 < h.length ∧ before act (h.getD (2 * sp + 2) 0) (h.getD (2 * sp + 1) 0) = true
  · rw [if_pos h2]
    refine ⟨2 * sp + 2, rfl, h2.1, by (first | exact u_lt ‹_› | exact u_n ‹_› | exact p_lt ‹_› | exact p_ne ‹_› | exact p_nf ‹_› | exact p_l ‹_› | exact b_1 ‹_› | exact Nat.ne_of_gt ‹_› | exact Nat.ne_of_lt ‹_› | exact u_ne ‹_› ‹_› | exact u_nf ‹_› ‹_› | exact u_ab ‹_› ‹_› | exact p_n ‹_› ‹_› | exact p_k ‹_› ‹_› | exact l_e ‹_› ‹_› | exact l_f ‹_› ‹_› | exact b_2 ‹_› ‹_› | exact u_1 _ | exact u_2 _ | (apply Nat.lt_trans; assumption; assumption; done) | (apply Nat.lt_of_lt_of_le; assumption; assumption; done) | (apply Nat.lt_of_le_of_lt; assumption; assumption; done) | (apply Nat.le_trans; assumption; assumption; done) | ((fail_if_success (fail_if_success omega (config := {}))); (first | with_reducible assumption | decide | lia | omega (config := {})))), by (first | exact u_lt ‹_› | exact u_n ‹_› | exact p_lt ‹_› | exact p_ne ‹_› | exact p_nf ‹_› | exact p_l ‹_› | exact b_1 ‹_› | exact Nat.ne_of_gt ‹_› | exact Nat.ne_of_lt ‹_› | exact u_ne ‹_› ‹_› | exact u_nf ‹_› ‹_› | exact u_ab ‹_› ‹_› | exact p_n ‹_› ‹_› | exact p_k ‹_› ‹_› | exact l_e ‹_› ‹_› | exact l_f ‹_› ‹_› | exact b_2 ‹_› ‹_› | exact u_1 _ | exact u_2 _ | (apply Nat.lt_trans; assumption; assumption; done) | (apply Nat.lt_of_lt_of_le; assumption; assumption; done) | (apply Nat.lt_of_le_of_lt; assumption; assumption; done) | (apply Nat.le_trans; assumption; assumption; done) | ((fail_if_success (fail_if_success omega (config := {}))); (first | with_reducible assumption | decide | lia | omega (config := {})))), fun k k1 k2 k3 => ?_⟩
    have hb := h2.2
    rw [before_rank] at hb
    rcases Nat.lt_or_ge (2 * sp + 1) k with c | c
    · have : k = 2 * sp + 2 := by (first | exact u_lt ‹_› | exact u_n ‹_› | exact p_lt ‹_› | exact p_ne ‹_› | exact p_nf ‹_› | exact p_l ‹_› | exact b_1 ‹_› | exact Nat.ne_of_gt ‹_› | exact Nat.ne_of_lt ‹_› | exact u_ne ‹_› ‹_› | exact u_nf ‹_› ‹_› | exact u_ab ‹_› ‹_› | exact p_n ‹_› ‹_› | exact p_k ‹_› ‹_› | exact l_e ‹_› ‹_› | exact l_f ‹_› ‹_› | exact b_2 ‹_› ‹_› | exact u_1 _ | exact u_2 _ | (apply Nat.lt_trans; assumption; assumption; done) | (apply Nat.lt_of_lt_of_le; assumption; assumption; done) | (apply Nat.lt_of_le_of_lt; assumption; assumption; done) | (apply Nat.le_trans; assumption; assumption; done) | ((fail_if_success (fail_if_success omega (config := {}))); (first | with_reducible assumption | decide | lia | omega (config := {}))))
      subst this
      exact refl _
    · have : k = 2 * sp + 1 := by (first | exact u_lt ‹_› | exact u_n ‹_› | exact p_lt ‹_› | exact p_ne ‹_› | exact p_nf ‹_› | exact p_l ‹_› | exact b_1 ‹_› | exact Nat.ne_of_gt ‹_› | exact Nat.ne_of_lt ‹_› | exact u_ne ‹_› ‹_› | exact u_nf ‹_› ‹_› | exact u_ab ‹_› ‹_› | exact p_n ‹_› ‹_› | exact p_k ‹_› ‹_› | exact l_e ‹_› ‹_› | exact l_f ‹_› ‹_› | exact b_2 ‹_› ‹_› | exact u_1 _ | exact u_2 _ | (apply Nat.lt_trans; assumption; assumption; done) | (apply Nat.lt_of_lt_of_le; assumption; assumption; done) | (apply Nat.lt_of_le_of_lt; assumption; assumption; done) | (apply Nat.le_trans; assumption; assumption; done) | ((fail_if_success (fail_if_success omega (config := {}))); (first | with_reducible assumption | decide | lia | omega (config := {}))))
      subst this
      exact rank_asym hb
  · rw [if_neg h2]
    refine ⟨2 * sp + 1, rfl, hc, by (first | exact u_lt ‹_› | exact u_n ‹_› | exact p_lt ‹_› | exact p_ne ‹_› | exact p_nf ‹_› | exact p_l ‹_› | exact b_1 ‹_› | exact Nat.ne_of_gt ‹_› | exact Nat.ne_of_lt ‹_› | exact u_ne ‹_› ‹_› | exact u_nf ‹_› ‹_› | exact u_ab ‹_› ‹_› | exact p_n ‹_› ‹_› | exact p_k ‹_› ‹_› | exact l_e ‹_› ‹_› | exact l_f ‹_› ‹_› | exact b_2 ‹_› ‹_› | exact u_1 _ | exact u_2 _ | (apply Nat.lt_trans; assumption; assumption; done) | (apply Nat.lt_of_lt_of_le; assumption; assumption; done) | (apply Nat.lt_of_le_of_lt; assumption; assumption; done) | (apply Nat.le_trans; assumption; assumption; done) | ((fail_if_success (fail_if_success omega (config := {}))); (first | with_reducible assumption | decide | lia | omega (config := {})))), by (first | exact u_lt ‹_› | exact u_n ‹_› | exact p_lt ‹_› | exact p_ne ‹_› | exact p_nf ‹_› | exact p_l ‹_› | exact b_1 ‹_› | exact Nat.ne_of_gt ‹_› | exact Nat.ne_of_lt ‹_› | exact u_ne ‹_› ‹_› | exact u_nf ‹_› ‹_› | exact u_ab ‹_› ‹_› | exact p_n ‹_› ‹_› | exact p_k ‹_› ‹_› | exact l_e ‹_› ‹_› | exact l_f ‹_› ‹_› | exact b_2 ‹_› ‹_› | exact u_1 _ | exact u_2 _ | (apply Nat.lt_trans; assumption; assumption; done) | (apply Nat.lt_of_lt_of_le; assumption; assumption; done) | (apply Nat.lt_of_le_of_lt; assumption; assumption; done) | (apply Nat.le_trans; assumption; assumption; done) | ((fail_if_success (fail_if_success omega (config := {}))); (first | with_reducible assumption | decide | lia | omega (config := {})))), fun k k1 k2 k3 => ?_⟩
    rcases Nat.lt_or_ge (2 * sp + 1) k with c | c
    · have e : k = 2 * sp + 2 := by (first | exact u_lt ‹_› | exact u_n ‹_› | exact p_lt ‹_› | exact p_ne ‹_› | exact p_nf ‹_› | exact p_l ‹_› | exact b_1 ‹_› | exact Nat.ne_of_gt ‹_› | exact Nat.ne_of_lt ‹_› | exact u_ne ‹_› ‹_› | exact u_nf ‹_› ‹_› | exact u_ab ‹_› ‹_› | exact p_n ‹_› ‹_› | exact p_k ‹_› ‹_› | exact l_e ‹_› ‹_› | exact l_f ‹_› ‹_› | exact b_2 ‹_› ‹_› | exact u_1 _ | exact u_2 _ | (apply Nat.lt_trans; assumption; assumption; done) | (apply Nat.lt_of_lt_of_le; assumption; assumption; done) | (apply Nat.lt_of_le_of_lt; assumption; assumption; done) | (apply Nat.le_trans; assumption; assumption; done) | ((fail_if_success (fail_if_success omega (config := {}))); (first | with_reducible assumption | decide | lia | omega (config := {}))))
      subst e
      have : ¬ before act (h.getD (2 * sp + 2) 0) (h.getD (2 * sp + 1) 0) = true := fun q => h2 ⟨k2, q⟩
      rw [before_rank] at this
      simpa using this
    · have : k = 2 * sp + 1 := by (first | exact u_lt ‹_› | exact u_n ‹_› | exact p_lt ‹_› | exact p_ne ‹_› | exact p_nf ‹_› | exact p_l ‹_› | exact b_1 ‹_› | exact Nat.ne_of_gt ‹_› | exact Nat.ne_of_lt ‹_› | exact u_ne ‹_› ‹_› | exact u_nf ‹_› ‹_› | exact u_ab ‹_› ‹_› | exact p_n ‹_› ‹_› | exact p_k ‹_› ‹_› | exact l_e ‹_› ‹_› | exact l_f ‹_› ‹_› | exact b_2 ‹_› ‹_› | exact u_1 _ | exact u_2 _ | (apply Nat.lt_trans; assumption; assumption; done) | (apply Nat.lt_of_lt_of_le; assumption; assumption; done) | (apply Nat.lt_of_le_of_lt; assumption; assumption; done) | (apply Nat.le_trans; assumption; assumption; done) | ((fail_if_success (fail_if_success omega (config := {}))); (first | with_reducible assumption | decide | lia | omega (config := {}))))
      subst this
      exact refl _
/-- what the sink ends with -/
noncomputable def SinkOut (act : List Int) (v : Int) (P : List Int → List Int → Nat → Prop) (h pl : List Int) (r : List Int × List Int) : Prop :=
  ∃ h' pl' sp', P h' pl' sp' ∧ r = (h'.set sp' v, pl'.set v.toNat sp') ∧ sp' < h'.length ∧ h'.length = h.length ∧ pl'.length = pl.length ∧ (∀ k, 1 ≤ k → k < h'.length → (k - 1) / 2 = sp' → rankLt act (h'.getD k 0) v = false)
theorem SinkOut.len {act : List Int} {v : Int} {P : List Int → List Int → Nat → Prop} {h pl g ql : List Int} {r : List Int × List Int} (e1 : g.length = h.length) (e2 : ql.length = pl.length) : SinkOut act v P g ql r → SinkOut act v P h pl r
  | ⟨h', pl', sp', q1, q2, q3, q4, q5, q6⟩ => ⟨h', pl', sp', q1, q2, q3, q4.trans e1, q5.trans e2, q6⟩
theorem sinkL_ind (act : List Int) (v : Int) (P : List Int → List Int → Nat → Prop)
    (step : ∀ h pl sp c, sp < h.length → c < h.length → 1 ≤ c → (c - 1) / 2 = sp → (∀ k, 1 ≤ k → k < h.length → (k - 1) / 2 = sp → rankLt act (h.getD k 0) (h.getD c 0) = false) → rankLt act (h.getD c 0) v = true → P h pl sp → P (h.set sp (h.getD c 0)) (pl.set (h.getD c 0).toNat sp) c)
    (f : Nat) : ∀ sp h pl, h.length ≤ sp + f → sp < h.length → P h pl sp → SinkOut act v P h pl (sinkL act v h pl sp) := by
  induction f with
  | zero => intro sp h pl hf hl p; exact absurd hl (Nat.not_lt.mpr hf)
  | succ f ih =>
    intro sp h pl hf hl p
    rw [sinkL_eq]
    rcases Nat.lt_or_ge (2 * sp + 1) h.length with hc | hc
    · obtain ⟨c, e, c1, c2, c3, c4⟩ := betterC_some (act := act) hc
      rw [e]
      by_cases hb : before act (h.getD c 0) v = true
      · rw [if_pos ⟨Int.natCast_nonneg _, hb⟩]
        rw [before_rank] at hb
        exact (ih c (h.set sp (h.getD c 0)) (pl.set (h.getD c 0).toNat sp) (by rw [List.length_set]; (first | exact u_lt ‹_› | exact u_n ‹_› | exact p_lt ‹_› | exact p_ne ‹_› | exact p_nf ‹_› | exact p_l ‹_› | exact b_1 ‹_› | exact Nat.ne_of_gt ‹_› | exact Nat.ne_of_lt ‹_› | exact u_ne ‹_› ‹_› | exact u_nf ‹_› ‹_› | exact u_ab ‹_› ‹_› | exact p_n ‹_› ‹_› | exact p_k ‹_› ‹_› | exact l_e ‹_› ‹_› | exact l_f ‹_› ‹_› | exact b_2 ‹_› ‹_› | exact u_1 _ | exact u_2 _ | (apply Nat.lt_trans; assumption; assumption; done) | (apply Nat.lt_of_lt_of_le; assumption; assumption; done) | (apply Nat.lt_of_le_of_lt; assumption; assumption; done) | (apply Nat.le_trans; assumption; assumption; done) | ((fail_if_success (fail_if_success omega (config := {}))); (first | with_reducible assumption | decide | lia | omega (config := {}))))) (by rw [List.length_set]; exact c1) (step h pl sp c hl c1 c2 c3 c4 hb p)).len List.length_set List.length_set
      · rw [if_neg (fun q => hb q.2)]
        rw [before_rank] at hb
        have hb' : rankLt act (h.getD c 0) v = false := by simpa using hb
        exact ⟨h, pl, sp, p, rfl, hl, rfl, rfl, fun k k1 k2 k3 => rank_trans hb' (c4 k k1 k2 k3)⟩
    · rw [betterC_none hc, if_neg (fun q => absurd q.1 (by decide))]
      exact ⟨h, pl, sp, p, rfl, hl, rfl, rfl, fun k k1 k2 k3 => absurd (Nat.lt_of_lt_of_le k2 hc) (by (first | exact u_lt ‹_› | exact u_n ‹_› | exact p_lt ‹_› | exact p_ne ‹_› | exact p_nf ‹_› | exact p_l ‹_› | exact b_1 ‹_› | exact Nat.ne_of_gt ‹_› | exact Nat.ne_of_lt ‹_› | exact u_ne ‹_› ‹_› | exact u_nf ‹_› ‹_› | exact u_ab ‹_› ‹_› | exact p_n ‹_› ‹_› | exact p_k ‹_› ‹_› | exact l_e ‹_› ‹_› | exact l_f ‹_› ‹_› | exact b_2 ‹_› ‹_› | exact u_1 _ | exact u_2 _ | (apply Nat.lt_trans; assumption; assumption; done) | (apply Nat.lt_of_lt_of_le; assumption; assumption; done) | (apply Nat.lt_of_le_of_lt; assumption; assumption; done) | (apply Nat.le_trans; assumption; assumption; done) | ((fail_if_success (fail_if_success omega (config := {}))); (first | with_reducible assumption | decide | lia | omega (config := {})))))⟩
/-- all in order but the edges below sp -/
noncomputable def NearlyD (act H : List Int) (sp : Nat) : Prop :=
  (∀ k, 1 ≤ k → k < H.length → (k - 1) / 2 ≠ sp → rankLt act (H.getD k 0) (H.getD ((k - 1) / 2) 0) = false) ∧
  (0 < sp → ∀ c, 1 ≤ c → c < H.length → (c - 1) / 2 = sp → rankLt act (H.getD c 0) (H.getD ((sp - 1) / 2) 0) = false)
theorem NearlyD.swap {act h : List Int} {sp c : Nat} {v : Int} (hs : sp < h.length) (hc : c < h.length) (hc1 : 1 ≤ c) (hc2 : (c - 1) / 2 = sp) (hbest : ∀ k, 1 ≤ k → k < h.length → (k - 1) / 2 = sp → rankLt act (h.getD k 0) (h.getD c 0) = false)
    (hb : rankLt act (h.getD c 0) v = true) (I : NearlyD act (h.set sp v) sp) : NearlyD act ((h.set sp (h.getD c 0)).set c v) c := by
  generalize hu : h.getD c 0 = u at *
  have hne : c ≠ sp := by (first | exact u_lt ‹_› | exact u_n ‹_› | exact p_lt ‹_› | exact p_ne ‹_› | exact p_nf ‹_› | exact p_l ‹_› | exact b_1 ‹_› | exact Nat.ne_of_gt ‹_› | exact Nat.ne_of_lt ‹_› | exact u_ne ‹_› ‹_› | exact u_nf ‹_› ‹_› | exact u_ab ‹_› ‹_› | exact p_n ‹_› ‹_› | exact p_k ‹_› ‹_› | exact l_e ‹_› ‹_› | exact l_f ‹_› ‹_› | exact b_2 ‹_› ‹_› | exact u_1 _ | exact u_2 _ | (apply Nat.lt_trans; assumption; assumption; done) | (apply Nat.lt_of_lt_of_le; assumption; assumption; done) | (apply Nat.lt_of_le_of_lt; assumption; assumption; done) | (apply Nat.le_trans; assumption; assumption; done) | ((fail_if_success (fail_if_success omega (config := {}))); (first | with_reducible assumption | decide | lia | omega (config := {}))))
  have f1 : ((h.set sp u).set c v).getD c 0 = v := gset_eq (by rw [List.length_set]; exact hc)
  have f2 : ((h.set sp u).set c v).getD sp 0 = u := by rw [gset_ne hne, gset_eq hs]
  have f3 : ∀ j, j ≠ c → j ≠ sp → ((h.set sp u).set c v).getD j 0 = h.getD j 0 := fun j c1 c2 => by rw [gset_ne (fun c => c1 c.symm), gset_ne (fun c => c2 c.symm)]
  have f4 : ∀ j, j ≠ sp → (h.set sp v).getD j 0 = h.getD j 0 := fun j c2 => gset_ne (fun c => c2 c.symm)
  have huv := rank_asym hb
  obtain ⟨I1, I2⟩ := I
  simp only [List.length_set] at I1 I2
  refine ⟨fun k k1 k2 k3 => ?_, fun hp d d1 d2 d3 => ?_⟩
  · simp only [List.length_set] at k2
    rcases Nat.decEq ((k - 1) / 2) sp with p1 | p1
    · have i1 := I1 k k1 k2 p1
      rw [f3 _ k3 p1]
      rw [f4 _ p1] at i1
      rcases Nat.decEq k sp with p2 | p2
      · rw [f4 _ p2] at i1
        rw [f3 _ (fun q => p1 (by rw [q, hc2])) p2]
        exact i1
      · subst p2
        have i2 := I2 (by (first | exact u_lt ‹_› | exact u_n ‹_› | exact p_lt ‹_› | exact p_ne ‹_› | exact p_nf ‹_› | exact p_l ‹_› | exact b_1 ‹_› | exact Nat.ne_of_gt ‹_› | exact Nat.ne_of_lt ‹_› | exact u_ne ‹_› ‹_› | exact u_nf ‹_› ‹_› | exact u_ab ‹_› ‹_› | exact p_n ‹_› ‹_› | exact p_k ‹_› ‹_› | exact l_e ‹_› ‹_› | exact l_f ‹_› ‹_› | exact b_2 ‹_› ‹_› | exact u_1 _ | exact u_2 _ | (apply Nat.lt_trans; assumption; assumption; done) | (apply Nat.lt_of_lt_of_le; assumption; assumption; done) | (apply Nat.lt_of_le_of_lt; assumption; assumption; done) | (apply Nat.le_trans; assumption; assumption; done) | ((fail_if_success (fail_if_success omega (config := {}))); (first | with_reducible assumption | decide | lia | omega (config := {}))))) c hc1 hc hc2
        rw [f4 _ hne, f4 _ p1, hu] at i2
        rw [f2]
        exact i2
    · rw [p1, f2]
      rcases Nat.decEq k c with p2 | p2
      · rw [f3 _ p2 (by (first | exact u_lt ‹_› | exact u_n ‹_› | exact p_lt ‹_› | exact p_ne ‹_› | exact p_nf ‹_› | exact p_l ‹_› | exact b_1 ‹_› | exact Nat.ne_of_gt ‹_› | exact Nat.ne_of_lt ‹_› | exact u_ne ‹_› ‹_› | exact u_nf ‹_› ‹_› | exact u_ab ‹_› ‹_› | exact p_n ‹_› ‹_› | exact p_k ‹_› ‹_› | exact l_e ‹_› ‹_› | exact l_f ‹_› ‹_› | exact b_2 ‹_› ‹_› | exact u_1 _ | exact u_2 _ | (apply Nat.lt_trans; assumption; assumption; done) | (apply Nat.lt_of_lt_of_le; assumption; assumption; done) | (apply Nat.lt_of_le_of_lt; assumption; assumption; done) | (apply Nat.le_trans; assumption; assumption; done) | ((fail_if_success (fail_if_success omega (config := {}))); (first | with_reducible assumption | decide | lia | omega (config := {})))))]
        exact hbest k k1 k2 p1
      · rw [p2, f1]
        exact huv
  · simp only [List.length_set] at d2
    rw [hc2, f2]
    have i1 := I1 d d1 d2 (by (first | exact u_lt ‹_› | exact u_n ‹_› | exact p_lt ‹_› | exact p_ne ‹_› | exact p_nf ‹_› | exact p_l ‹_› | exact b_1 ‹_› | exact Nat.ne_of_gt ‹_› | exact Nat.ne_of_lt ‹_› | exact u_ne ‹_› ‹_› | exact u_nf ‹_› ‹_› | exact u_ab ‹_› ‹_› | exact p_n ‹_› ‹_› | exact p_k ‹_› ‹_› | exact l_e ‹_› ‹_› | exact l_f ‹_› ‹_› | exact b_2 ‹_› ‹_› | exact u_1 _ | exact u_2 _ | (apply Nat.lt_trans; assumption; assumption; done) | (apply Nat.lt_of_lt_of_le; assumption; assumption; done) | (apply Nat.lt_of_le_of_lt; assumption; assumption; done) | (apply Nat.le_trans; assumption; assumption; done) | ((fail_if_success (fail_if_success omega (config := {}))); (first | with_reducible assumption | decide | lia | omega (config := {})))))
    rw [d3, f4 _ hne, hu, f4 _ (by (first | exact u_lt ‹_› | exact u_n ‹_› | exact p_lt ‹_› | exact p_ne ‹_› | exact p_nf ‹_› | exact p_l ‹_› | exact b_1 ‹_› | exact Nat.ne_of_gt ‹_› | exact Nat.ne_of_lt ‹_› | exact u_ne ‹_› ‹_› | exact u_nf ‹_› ‹_› | exact u_ab ‹_› ‹_› | exact p_n ‹_› ‹_› | exact p_k ‹_› ‹_› | exact l_e ‹_› ‹_› | exact l_f ‹_› ‹_› | exact b_2 ‹_› ‹_› | exact u_1 _ | exact u_2 _ | (apply Nat.lt_trans; assumption; assumption; done) | (apply Nat.lt_of_lt_of_le; assumption; assumption; done) | (apply Nat.lt_of_le_of_lt; assumption; assumption; done) | (apply Nat.le_trans; assumption; assumption; done) | ((fail_if_success (fail_if_success omega (config := {}))); (first | with_reducible assumption | decide | lia | omega (config := {})))))] at i1
    rw [f3 _ (by (first | exact u_lt ‹_› | exact u_n ‹_› | exact p_lt ‹_› | exact p_ne ‹_› | exact p_nf ‹_› | exact p_l ‹_› | exact b_1 ‹_› | exact Nat.ne_of_gt ‹_› | exact Nat.ne_of_lt ‹_› | exact u_ne ‹_› ‹_› | exact u_nf ‹_› ‹_› | exact u_ab ‹_› ‹_› | exact p_n ‹_› ‹_› | exact p_k ‹_› ‹_› | exact l_e ‹_› ‹_› | exact l_f ‹_› ‹_› | exact b_2 ‹_› ‹_› | exact u_1 _ | exact u_2 _ | (apply Nat.lt_trans; assumption; assumption; done) | (apply Nat.lt_of_lt_of_le; assumption; assumption; done) | (apply Nat.lt_of_le_of_lt; assumption; assumption; done) | (apply Nat.le_trans; assumption; assumption; done) | ((fail_if_success (fail_if_success omega (config := {}))); (first | with_reducible assumption | decide | lia | omega (config := {}))))) (by (first | exact u_lt ‹_› | exact u_n ‹_› | exact p_lt ‹_› | exact p_ne ‹_› | exact p_nf ‹_› | exact p_l ‹_› | exact b_1 ‹_› | exact Nat.ne_of_gt ‹_› | exact Nat.ne_of_lt ‹_› | exact u_ne ‹_› ‹_› | exact u_nf ‹_› ‹_› | exact u_ab ‹_› ‹_› | exact p_n ‹_› ‹_› | exact p_k ‹_› ‹_› | exact l_e ‹_› ‹_› | exact l_f ‹_› ‹_› | exact b_2 ‹_› ‹_› | exact u_1 _ | exact u_2 _ | (apply Nat.lt_trans; assumption; assumption; done) | (apply Nat.lt_of_lt_of_le; assumption; assumption; done) | (apply Nat.lt_of_le_of_lt; assumption; assumption; done) | (apply Nat.le_trans; assumption; assumption; done) | ((fail_if_success (fail_if_success omega (config := {}))); (first | with_reducible assumption | decide | lia | omega (config := {})))))]
    exact i1
theorem root_best {act H : List Int} (ho : Ord act H H.length) : ∀ k, k < H.length → rankLt act (H.getD k 0) (H.getD 0 0) = false := by
  intro k
  induction k using Nat.strongRecOn with
  | ind k ih =>
    intro hk
    rcases Nat.eq_zero_or_pos k with rfl | h0
    · rw [rank_false]; (first | exact u_lt ‹_› | exact u_n ‹_› | exact p_lt ‹_› | exact p_ne ‹_› | exact p_nf ‹_› | exact p_l ‹_› | exact b_1 ‹_› | exact Nat.ne_of_gt ‹_› | exact Nat.ne_of_lt ‹_› | exact u_ne ‹_› ‹_› | exact u_nf ‹_› ‹_› | exact u_ab ‹_› ‹_› | exact p_n ‹_› ‹_› | exact p_k ‹_› ‹_› | exact l_e ‹_› ‹_› | exact l_f ‹_› ‹_› | exact b_2 ‹_› ‹_› | exact u_1 _ | exact u_2 _ | (apply Nat.lt_trans; assumption; assumption; done) | (apply Nat.lt_of_lt_of_le; assumption; assumption; done) | (apply Nat.lt_of_le_of_lt; assumption; assumption; done) | (apply Nat.le_trans; assumption; assumption; done) | ((fail_if_success (fail_if_success omega (config := {}))); (first | with_reducible assumption | decide | lia | omega (config := {}))))
    · exact rank_trans (ih ((k - 1) / 2) (by (first | exact u_lt ‹_› | exact u_n ‹_› | exact p_lt ‹_› | exact p_ne ‹_› | exact p_nf ‹_› | exact p_l ‹_› | exact b_1 ‹_› | exact Nat.ne_of_gt ‹_› | exact Nat.ne_of_lt ‹_› | exact u_ne ‹_› ‹_› | exact u_nf ‹_› ‹_› | exact u_ab ‹_› ‹_› | exact p_n ‹_› ‹_› | exact p_k ‹_› ‹_› | exact l_e ‹_› ‹_› | exact l_f ‹_› ‹_› | exact b_2 ‹_› ‹_› | exact u_1 _ | exact u_2 _ | (apply Nat.lt_trans; assumption; assumption; done) | (apply Nat.lt_of_lt_of_le; assumption; assumption; done) | (apply Nat.lt_of_le_of_lt; assumption; assumption; done) | (apply Nat.le_trans; assumption; assumption; done) | ((fail_if_success (fail_if_success omega (config := {}))); (first | with_reducible assumption | decide | lia | omega (config := {}))))) (by (first | exact u_lt ‹_› | exact u_n ‹_› | exact p_lt ‹_› | exact p_ne ‹_› | exact p_nf ‹_› | exact p_l ‹_› | exact b_1 ‹_› | exact Nat.ne_of_gt ‹_› | exact Nat.ne_of_lt ‹_› | exact u_ne ‹_› ‹_› | exact u_nf ‹_› ‹_› | exact u_ab ‹_› ‹_› | exact p_n ‹_› ‹_› | exact p_k ‹_› ‹_› | exact l_e ‹_› ‹_› | exact l_f ‹_› ‹_› | exact b_2 ‹_› ‹_› | exact u_1 _ | exact u_2 _ | (apply Nat.lt_trans; assumption; assumption; done) | (apply Nat.lt_of_lt_of_le; assumption; assumption; done) | (apply Nat.lt_of_le_of_lt; assumption; assumption; done) | (apply Nat.le_trans; assumption; assumption; done) | ((fail_if_success (fail_if_success omega (config := {}))); (first | with_reducible assumption | decide | lia | omega (config := {})))))) (ho k h0 hk)
theorem sink_ok {act : List Int} {n : Nat} {H pl : List Int} (hs : 0 < H.length) (G : Good n H pl) (I : NearlyD act H 0) :
    Good n (sinkL act (H.getD 0 0) H pl 0).1 (sinkL act (H.getD 0 0) H pl 0).2 ∧ Ord act (sinkL act (H.getD 0 0) H pl 0).1 (sinkL act (H.getD 0 0) H pl 0).1.length ∧ (sinkL act (H.getD 0 0) H pl 0).1.Perm H := by
  have e1 : H.set 0 (H.getD 0 0) = H := set_self _ _ _ rfl
  have e2 : pl.set (H.getD 0 0).toNat ((0 : Nat) : Int) = pl := set_self _ _ _ (G.at_ 0 hs).2.2
  obtain ⟨h', pl', sp', ⟨G', I', P'⟩, q2, q3, q4, q5, q6⟩ := sinkL_ind act (H.getD 0 0) (fun h pl sp' => Good n (h.set sp' (H.getD 0 0)) (pl.set (H.getD 0 0).toNat sp') ∧ NearlyD act (h.set sp' (H.getD 0 0)) sp' ∧ (h.set sp' (H.getD 0 0)).Perm H) (fun h pl sp' c hl hc hc1 hc2 hbest hb p => by
    obtain ⟨g, i, p⟩ := p
    refine ⟨g.swap hl hc (by (first | exact u_lt ‹_› | exact u_n ‹_› | exact p_lt ‹_› | exact p_ne ‹_› | exact p_nf ‹_› | exact p_l ‹_› | exact b_1 ‹_› | exact Nat.ne_of_gt ‹_› | exact Nat.ne_of_lt ‹_› | exact u_ne ‹_› ‹_› | exact u_nf ‹_› ‹_› | exact u_ab ‹_› ‹_› | exact p_n ‹_› ‹_› | exact p_k ‹_› ‹_› | exact l_e ‹_› ‹_› | exact l_f ‹_› ‹_› | exact b_2 ‹_› ‹_› | exact u_1 _ | exact u_2 _ | (apply Nat.lt_trans; assumption; assumption; done) | (apply Nat.lt_of_lt_of_le; assumption; assumption; done) | (apply Nat.lt_of_le_of_lt; assumption; assumption; done) | (apply Nat.le_trans; assumption; assumption; done) | ((fail_if_success (fail_if_success omega (config := {}))); (first | with_reducible assumption | decide | lia | omega (config := {}))))), i.swap hl hc hc1 hc2 hbest hb, ?_⟩
    refine .trans ?_ p
    have l1 : sp' < (h.set sp' (H.getD 0 0)).length := by rw [List.length_set]; exact hl
    have l2 : c < (h.set sp' (H.getD 0 0)).length := by rw [List.length_set]; exact hc
    have t := List.set_set_perm l1 l2
    have ea : (h.set sp' (H.getD 0 0))[c] = h.getD c 0 := (List.getElem_set_ne (by (first | exact u_lt ‹_› | exact u_n ‹_› | exact p_lt ‹_› | exact p_ne ‹_› | exact p_nf ‹_› | exact p_l ‹_› | exact b_1 ‹_› | exact Nat.ne_of_gt ‹_› | exact Nat.ne_of_lt ‹_› | exact u_ne ‹_› ‹_› | exact u_nf ‹_› ‹_› | exact u_ab ‹_› ‹_› | exact p_n ‹_› ‹_› | exact p_k ‹_› ‹_› | exact l_e ‹_› ‹_› | exact l_f ‹_› ‹_› | exact b_2 ‹_› ‹_› | exact u_1 _ | exact u_2 _ | (apply Nat.lt_trans; assumption; assumption; done) | (apply Nat.lt_of_lt_of_le; assumption; assumption; done) | (apply Nat.lt_of_le_of_lt; assumption; assumption; done) | (apply Nat.le_trans; assumption; assumption; done) | ((fail_if_success (fail_if_success omega (config := {}))); (first | with_reducible assumption | decide | lia | omega (config := {}))))) _).trans (getElem_getD hc)
    have eb : (h.set sp' (H.getD 0 0))[sp'] = H.getD 0 0 := List.getElem_set_self _
    rw [ea, eb, List.set_set] at t
    exact t) H.length 0 H pl (by (first | exact u_lt ‹_› | exact u_n ‹_› | exact p_lt ‹_› | exact p_ne ‹_› | exact p_nf ‹_› | exact p_l ‹_› | exact b_1 ‹_› | exact Nat.ne_of_gt ‹_› | exact Nat.ne_of_lt ‹_› | exact u_ne ‹_› ‹_› | exact u_nf ‹_› ‹_› | exact u_ab ‹_› ‹_› | exact p_n ‹_› ‹_› | exact p_k ‹_› ‹_› | exact l_e ‹_› ‹_› | exact l_f ‹_› ‹_› | exact b_2 ‹_› ‹_› | exact u_1 _ | exact u_2 _ | (apply Nat.lt_trans; assumption; assumption; done) | (apply Nat.lt_of_lt_of_le; assumption; assumption; done) | (apply Nat.lt_of_le_of_lt; assumption; assumption; done) | (apply Nat.le_trans; assumption; assumption; done) | ((fail_if_success (fail_if_success omega (config := {}))); (first | with_reducible assumption | decide | lia | omega (config := {}))))) hs ⟨by rw [e1, e2]; exact G, by rw [e1]; exact I, by rw [e1]⟩
  rw [q2]
  refine ⟨G', fun k k1 k2 => ?_, P'⟩
  rw [List.length_set] at k2
  rcases Nat.decEq ((k - 1) / 2) sp' with d | d
  · exact I'.1 k k1 (by rw [List.length_set]; exact k2) d
  · have := q6 k k1 k2 d
    rw [d, gset_eq q3, gset_ne (by (first | exact u_lt ‹_› | exact u_n ‹_› | exact p_lt ‹_› | exact p_ne ‹_› | exact p_nf ‹_› | exact p_l ‹_› | exact b_1 ‹_› | exact Nat.ne_of_gt ‹_› | exact Nat.ne_of_lt ‹_› | exact u_ne ‹_› ‹_› | exact u_nf ‹_› ‹_› | exact u_ab ‹_› ‹_› | exact p_n ‹_› ‹_› | exact p_k ‹_› ‹_› | exact l_e ‹_› ‹_› | exact l_f ‹_› ‹_› | exact b_2 ‹_› ‹_› | exact u_1 _ | exact u_2 _ | (apply Nat.lt_trans; assumption; assumption; done) | (apply Nat.lt_of_lt_of_le; assumption; assumption; done) | (apply Nat.lt_of_le_of_lt; assumption; assumption; done) | (apply Nat.le_trans; assumption; assumption; done) | ((fail_if_success (fail_if_success omega (config := {}))); (first | with_reducible assumption | decide | lia | omega (config := {})))))]
    exact this
theorem dropLast_getD {l : List Int} {j : Nat} (h : j < l.length - 1) : l.dropLast.getD j 0 = l.getD j 0 := by
  rw [List.getD_eq_getElem?_getD, List.getD_eq_getElem?_getD, List.getElem?_eq_getElem (by rw [List.length_dropLast]; exact h), List.getElem?_eq_getElem (by (first | exact u_lt ‹_› | exact u_n ‹_› | exact p_lt ‹_› | exact p_ne ‹_› | exact p_nf ‹_› | exact p_l ‹_› | exact b_1 ‹_› | exact Nat.ne_of_gt ‹_› | exact Nat.ne_of_lt ‹_› | exact u_ne ‹_› ‹_› | exact u_nf ‹_› ‹_› | exact u_ab ‹_› ‹_› | exact p_n ‹_› ‹_› | exact p_k ‹_› ‹_› | exact l_e ‹_› ‹_› | exact l_f ‹_› ‹_› | exact b_2 ‹_› ‹_› | exact u_1 _ | exact u_2 _ | (apply Nat.lt_trans; assumption; assumption; done) | (apply Nat.lt_of_lt_of_le; assumption; assumption; done) | (apply Nat.lt_of_le_of_lt; assumption; assumption; done) | (apply Nat.le_trans; assumption; assumption; done) | ((fail_if_success (fail_if_success omega (config := {}))); (first | with_reducible assumption | decide | lia | omega (config := {}))))), List.getElem_dropLast]
theorem lastD_getD {l : List Int} (h : 0 < l.length) : l.getLastD 0 = l.getD (l.length - 1) 0 := by
  cases l with
  | nil => simp at h
  | cons a r =>
    rw [List.getLastD_cons, List.getD_eq_getElem?_getD, List.getElem?_eq_getElem (by simp)]
    simp [List.getLastD_eq_getLast?, List.getLast?_eq_getElem?]
    cases r <;> simp
theorem pop_ok {act : List Int} {n : Nat} {H pl : List Int} (h0 : 0 < H.length) (G : Good n H pl) (ho : Ord act H H.length) :
    (popL act H pl).1 = H.getD 0 0 ∧ Good n (popL act H pl).2.1 (popL act H pl).2.2 ∧ Ord act (popL act H pl).2.1 (popL act H pl).2.1.length ∧ (H.getD 0 0 :: (popL act H pl).2.1).Perm H := by
  have g0 := G.at_ 0 h0
  have hn := G.len
  unfold popL
  rw [if_neg (by (first | exact u_lt ‹_› | exact u_n ‹_› | exact p_lt ‹_› | exact p_ne ‹_› | exact p_nf ‹_› | exact p_l ‹_› | exact b_1 ‹_› | exact Nat.ne_of_gt ‹_› | exact Nat.ne_of_lt ‹_› | exact u_ne ‹_› ‹_› | exact u_nf ‹_› ‹_› | exact u_ab ‹_› ‹_› | exact p_n ‹_› ‹_› | exact p_k ‹_› ‹_› | exact l_e ‹_› ‹_› | exact l_f ‹_› ‹_› | exact b_2 ‹_› ‹_› | exact u_1 _ | exact u_2 _ | (apply Nat.lt_trans; assumption; assumption; done) | (apply Nat.lt_of_lt_of_le; assumption; assumption; done) | (apply Nat.lt_of_le_of_lt; assumption; assumption; done) | (apply Nat.le_trans; assumption; assumption; done) | ((fail_if_success (fail_if_success omega (config := {}))); (first | with_reducible assumption | decide | lia | omega (config := {})))))]
  by_cases h1 : H.length = 1
  · rw [if_pos h1]
    obtain ⟨a, rfl⟩ := List.length_eq_one_iff.mp h1
    refine ⟨rfl, ⟨by simpa using hn, fun j hj => by simp at hj, fun u u1 u2 => .inl ?_⟩, fun k k1 k2 => by simp at k2, by simp⟩
    show (pl.set a.toNat (-1)).getD u 0 = -1
    rw [gset]
    split
    · rfl
    · rename_i hne
      rcases G.off u u1 u2 with h | ⟨j, hj, e⟩
      · exact h
      · have : j = 0 := by simpa using hj
        subst this
        have e' : a = (u : Int) := e
        exact absurd ⟨by (first | exact u_lt ‹_› | exact u_n ‹_› | exact p_lt ‹_› | exact p_ne ‹_› | exact p_nf ‹_› | exact p_l ‹_› | exact b_1 ‹_› | exact Nat.ne_of_gt ‹_› | exact Nat.ne_of_lt ‹_› | exact u_ne ‹_› ‹_› | exact u_nf ‹_› ‹_› | exact u_ab ‹_› ‹_› | exact p_n ‹_› ‹_› | exact p_k ‹_› ‹_› | exact l_e ‹_› ‹_› | exact l_f ‹_› ‹_› | exact b_2 ‹_› ‹_› | exact u_1 _ | exact u_2 _ | (apply Nat.lt_trans; assumption; assumption; done) | (apply Nat.lt_of_lt_of_le; assumption; assumption; done) | (apply Nat.lt_of_le_of_lt; assumption; assumption; done) | (apply Nat.le_trans; assumption; assumption; done) | ((fail_if_success (fail_if_success omega (config := {}))); (first | with_reducible assumption | decide | lia | omega (config := {})))), by (first | exact u_lt ‹_› | exact u_n ‹_› | exact p_lt ‹_› | exact p_ne ‹_› | exact p_nf ‹_› | exact p_l ‹_› | exact b_1 ‹_› | exact Nat.ne_of_gt ‹_› | exact Nat.ne_of_lt ‹_› | exact u_ne ‹_› ‹_› | exact u_nf ‹_› ‹_› | exact u_ab ‹_› ‹_› | exact p_n ‹_› ‹_› | exact p_k ‹_› ‹_› | exact l_e ‹_› ‹_› | exact l_f ‹_› ‹_› | exact b_2 ‹_› ‹_› | exact u_1 _ | exact u_2 _ | (apply Nat.lt_trans; assumption; assumption; done) | (apply Nat.lt_of_lt_of_le; assumption; assumption; done) | (apply Nat.lt_of_le_of_lt; assumption; assumption; done) | (apply Nat.le_trans; assumption; assumption; done) | ((fail_if_success (fail_if_success omega (config := {}))); (first | with_reducible assumption | decide | lia | omega (config := {}))))⟩ hne
  · rw [if_neg h1]
    have hl := G.at_ (H.length - 1) (by (first | exact u_lt ‹_› | exact u_n ‹_› | exact p_lt ‹_› | exact p_ne ‹_› | exact p_nf ‹_› | exact p_l ‹_› | exact b_1 ‹_› | exact Nat.ne_of_gt ‹_› | exact Nat.ne_of_lt ‹_› | exact u_ne ‹_› ‹_› | exact u_nf ‹_› ‹_› | exact u_ab ‹_› ‹_› | exact p_n ‹_› ‹_› | exact p_k ‹_› ‹_› | exact l_e ‹_› ‹_› | exact l_f ‹_› ‹_› | exact b_2 ‹_› ‹_› | exact u_1 _ | exact u_2 _ | (apply Nat.lt_trans; assumption; assumption; done) | (apply Nat.lt_of_lt_of_le; assumption; assumption; done) | (apply Nat.lt_of_le_of_lt; assumption; assumption; done) | (apply Nat.le_trans; assumption; assumption; done) | ((fail_if_success (fail_if_success omega (config := {}))); (first | with_reducible assumption | decide | lia | omega (config := {})))))
    rw [lastD_getD h0]
    generalize hw : H.getD (H.length - 1) 0 = w at *
    generalize hb : H.getD 0 0 = b at *
    have hbw : b.toNat ≠ w.toNat := fun e => by
      have x1 := g0.2.2
      rw [e, hl.2.2] at x1
      (first | exact u_lt ‹_› | exact u_n ‹_› | exact p_lt ‹_› | exact p_ne ‹_› | exact p_nf ‹_› | exact p_l ‹_› | exact b_1 ‹_› | exact Nat.ne_of_gt ‹_› | exact Nat.ne_of_lt ‹_› | exact u_ne ‹_› ‹_› | exact u_nf ‹_› ‹_› | exact u_ab ‹_› ‹_› | exact p_n ‹_› ‹_› | exact p_k ‹_› ‹_› | exact l_e ‹_› ‹_› | exact l_f ‹_› ‹_› | exact b_2 ‹_› ‹_› | exact u_1 _ | exact u_2 _ | (apply Nat.lt_trans; assumption; assumption; done) | (apply Nat.lt_of_lt_of_le; assumption; assumption; done) | (apply Nat.lt_of_le_of_lt; assumption; assumption; done) | (apply Nat.le_trans; assumption; assumption; done) | ((fail_if_success (fail_if_success omega (config := {}))); (first | with_reducible assumption | decide | lia | omega (config := {}))))
    have hlen : (H.dropLast.set 0 w).length = H.length - 1 := by rw [List.length_set, List.length_dropLast]
    have k0 : (H.dropLast.set 0 w).getD 0 0 = w := gset_eq (by rw [List.length_dropLast]; (first | exact u_lt ‹_› | exact u_n ‹_› | exact p_lt ‹_› | exact p_ne ‹_› | exact p_nf ‹_› | exact p_l ‹_› | exact b_1 ‹_› | exact Nat.ne_of_gt ‹_› | exact Nat.ne_of_lt ‹_› | exact u_ne ‹_› ‹_› | exact u_nf ‹_› ‹_› | exact u_ab ‹_› ‹_› | exact p_n ‹_› ‹_› | exact p_k ‹_› ‹_› | exact l_e ‹_› ‹_› | exact l_f ‹_› ‹_› | exact b_2 ‹_› ‹_› | exact u_1 _ | exact u_2 _ | (apply Nat.lt_trans; assumption; assumption; done) | (apply Nat.lt_of_lt_of_le; assumption; assumption; done) | (apply Nat.lt_of_le_of_lt; assumption; assumption; done) | (apply Nat.le_trans; assumption; assumption; done) | ((fail_if_success (fail_if_success omega (config := {}))); (first | with_reducible assumption | decide | lia | omega (config := {})))))
    have kj : ∀ j, 0 < j → j < H.length - 1 → (H.dropLast.set 0 w).getD j 0 = H.getD j 0 := fun j j1 j2 => by rw [gset_ne (by (first | exact u_lt ‹_› | exact u_n ‹_› | exact p_lt ‹_› | exact p_ne ‹_› | exact p_nf ‹_› | exact p_l ‹_› | exact b_1 ‹_› | exact Nat.ne_of_gt ‹_› | exact Nat.ne_of_lt ‹_› | exact u_ne ‹_› ‹_› | exact u_nf ‹_› ‹_› | exact u_ab ‹_› ‹_› | exact p_n ‹_› ‹_› | exact p_k ‹_› ‹_› | exact l_e ‹_› ‹_› | exact l_f ‹_› ‹_› | exact b_2 ‹_› ‹_› | exact u_1 _ | exact u_2 _ | (apply Nat.lt_trans; assumption; assumption; done) | (apply Nat.lt_of_lt_of_le; assumption; assumption; done) | (apply Nat.lt_of_le_of_lt; assumption; assumption; done) | (apply Nat.le_trans; assumption; assumption; done) | ((fail_if_success (fail_if_success omega (config := {}))); (first | with_reducible assumption | decide | lia | omega (config := {}))))), dropLast_getD j2]
    have G1 : Good n (H.dropLast.set 0 w) ((pl.set b.toNat (-1)).set w.toNat 0) := by
      refine ⟨by simpa using hn, fun j hj => ?_, fun u u1 u2 => ?_⟩
      · rw [hlen] at hj
        rcases Nat.eq_zero_or_pos j with rfl | j0
        · rw [k0]
          refine ⟨hl.1, hl.2.1, ?_⟩
          rw [gset_eq (by rw [List.length_set]; (first | exact u_lt ‹_› | exact u_n ‹_› | exact p_lt ‹_› | exact p_ne ‹_› | exact p_nf ‹_› | exact p_l ‹_› | exact b_1 ‹_› | exact Nat.ne_of_gt ‹_› | exact Nat.ne_of_lt ‹_› | exact u_ne ‹_› ‹_› | exact u_nf ‹_› ‹_› | exact u_ab ‹_› ‹_› | exact p_n ‹_› ‹_› | exact p_k ‹_› ‹_› | exact l_e ‹_› ‹_› | exact l_f ‹_› ‹_› | exact b_2 ‹_› ‹_› | exact u_1 _ | exact u_2 _ | (apply Nat.lt_trans; assumption; assumption; done) | (apply Nat.lt_of_lt_of_le; assumption; assumption; done) | (apply Nat.lt_of_le_of_lt; assumption; assumption; done) | (apply Nat.le_trans; assumption; assumption; done) | ((fail_if_success (fail_if_success omega (config := {}))); (first | with_reducible assumption | decide | lia | omega (config := {})))))]
          rfl
        · rw [kj j j0 hj]
          have gj := G.at_ j (by (first | exact u_lt ‹_› | exact u_n ‹_› | exact p_lt ‹_› | exact p_ne ‹_› | exact p_nf ‹_› | exact p_l ‹_› | exact b_1 ‹_› | exact Nat.ne_of_gt ‹_› | exact Nat.ne_of_lt ‹_› | exact u_ne ‹_› ‹_› | exact u_nf ‹_› ‹_› | exact u_ab ‹_› ‹_› | exact p_n ‹_› ‹_› | exact p_k ‹_› ‹_› | exact l_e ‹_› ‹_› | exact l_f ‹_› ‹_› | exact b_2 ‹_› ‹_› | exact u_1 _ | exact u_2 _ | (apply Nat.lt_trans; assumption; assumption; done) | (apply Nat.lt_of_lt_of_le; assumption; assumption; done) | (apply Nat.lt_of_le_of_lt; assumption; assumption; done) | (apply Nat.le_trans; assumption; assumption; done) | ((fail_if_success (fail_if_success omega (config := {}))); (first | with_reducible assumption | decide | lia | omega (config := {})))))
          refine ⟨gj.1, gj.2.1, ?_⟩
          have n1 : w.toNat ≠ (H.getD j 0).toNat := fun e => by
            have := gj.2.2
            rw [← e, hl.2.2] at this
            (first | exact u_lt ‹_› | exact u_n ‹_› | exact p_lt ‹_› | exact p_ne ‹_› | exact p_nf ‹_› | exact p_l ‹_› | exact b_1 ‹_› | exact Nat.ne_of_gt ‹_› | exact Nat.ne_of_lt ‹_› | exact u_ne ‹_› ‹_› | exact u_nf ‹_› ‹_› | exact u_ab ‹_› ‹_› | exact p_n ‹_› ‹_› | exact p_k ‹_› ‹_› | exact l_e ‹_› ‹_› | exact l_f ‹_› ‹_› | exact b_2 ‹_› ‹_› | exact u_1 _ | exact u_2 _ | (apply Nat.lt_trans; assumption; assumption; done) | (apply Nat.lt_of_lt_of_le; assumption; assumption; done) | (apply Nat.lt_of_le_of_lt; assumption; assumption; done) | (apply Nat.le_trans; assumption; assumption; done) | ((fail_if_success (fail_if_success omega (config := {}))); (first | with_reducible assumption | decide | lia | omega (config := {}))))
          have n2 : b.toNat ≠ (H.getD j 0).toNat := fun e => by
            have := gj.2.2
            rw [← e, g0.2.2] at this
            (first | exact u_lt ‹_› | exact u_n ‹_› | exact p_lt ‹_› | exact p_ne ‹_› | exact p_nf ‹_› | exact p_l ‹_› | exact b_1 ‹_› | exact Nat.ne_of_gt ‹_› | exact Nat.ne_of_lt ‹_› | exact u_ne ‹_› ‹_› | exact u_nf ‹_› ‹_› | exact u_ab ‹_› ‹_› | exact p_n ‹_› ‹_› | exact p_k ‹_› ‹_› | exact l_e ‹_› ‹_› | exact l_f ‹_› ‹_› | exact b_2 ‹_› ‹_› | exact u_1 _ | exact u_2 _ | (apply Nat.lt_trans; assumption; assumption; done) | (apply Nat.lt_of_lt_of_le; assumption; assumption; done) | (apply Nat.lt_of_le_of_lt; assumption; assumption; done) | (apply Nat.le_trans; assumption; assumption; done) | ((fail_if_success (fail_if_success omega (config := {}))); (first | with_reducible assumption | decide | lia | omega (config := {}))))
          rw [gset_ne n1, gset_ne n2]
          exact gj.2.2
      · rcases Nat.decEq w.toNat u with c1 | c1
        · rw [gset_ne c1]
          rcases Nat.decEq b.toNat u with c2 | c2
          · rw [gset_ne c2]
            rcases G.off u u1 u2 with t | ⟨j, hj, e⟩
            · exact .inl t
            · have n1 : j ≠ 0 := fun q => by subst q; rw [hb] at e; (first | exact u_lt ‹_› | exact u_n ‹_› | exact p_lt ‹_› | exact p_ne ‹_› | exact p_nf ‹_› | exact p_l ‹_› | exact b_1 ‹_› | exact Nat.ne_of_gt ‹_› | exact Nat.ne_of_lt ‹_› | exact u_ne ‹_› ‹_› | exact u_nf ‹_› ‹_› | exact u_ab ‹_› ‹_› | exact p_n ‹_› ‹_› | exact p_k ‹_› ‹_› | exact l_e ‹_› ‹_› | exact l_f ‹_› ‹_› | exact b_2 ‹_› ‹_› | exact u_1 _ | exact u_2 _ | (apply Nat.lt_trans; assumption; assumption; done) | (apply Nat.lt_of_lt_of_le; assumption; assumption; done) | (apply Nat.lt_of_le_of_lt; assumption; assumption; done) | (apply Nat.le_trans; assumption; assumption; done) | ((fail_if_success (fail_if_success omega (config := {}))); (first | with_reducible assumption | decide | lia | omega (config := {}))))
              have n2 : j ≠ H.length - 1 := fun q => by subst q; rw [hw] at e; (first | exact u_lt ‹_› | exact u_n ‹_› | exact p_lt ‹_› | exact p_ne ‹_› | exact p_nf ‹_› | exact p_l ‹_› | exact b_1 ‹_› | exact Nat.ne_of_gt ‹_› | exact Nat.ne_of_lt ‹_› | exact u_ne ‹_› ‹_› | exact u_nf ‹_› ‹_› | exact u_ab ‹_› ‹_› | exact p_n ‹_› ‹_› | exact p_k ‹_› ‹_› | exact l_e ‹_› ‹_› | exact l_f ‹_› ‹_› | exact b_2 ‹_› ‹_› | exact u_1 _ | exact u_2 _ | (apply Nat.lt_trans; assumption; assumption; done) | (apply Nat.lt_of_lt_of_le; assumption; assumption; done) | (apply Nat.lt_of_le_of_lt; assumption; assumption; done) | (apply Nat.le_trans; assumption; assumption; done) | ((fail_if_success (fail_if_success omega (config := {}))); (first | with_reducible assumption | decide | lia | omega (config := {}))))
              exact .inr ⟨j, by rw [hlen]; (first | exact u_lt ‹_› | exact u_n ‹_› | exact p_lt ‹_› | exact p_ne ‹_› | exact p_nf ‹_› | exact p_l ‹_› | exact b_1 ‹_› | exact Nat.ne_of_gt ‹_› | exact Nat.ne_of_lt ‹_› | exact u_ne ‹_› ‹_› | exact u_nf ‹_› ‹_› | exact u_ab ‹_› ‹_› | exact p_n ‹_› ‹_› | exact p_k ‹_› ‹_› | exact l_e ‹_› ‹_› | exact l_f ‹_› ‹_› | exact b_2 ‹_› ‹_› | exact u_1 _ | exact u_2 _ | (apply Nat.lt_trans; assumption; assumption; done) | (apply Nat.lt_of_lt_of_le; assumption; assumption; done) | (apply Nat.lt_of_le_of_lt; assumption; assumption; done) | (apply Nat.le_trans; assumption; assumption; done) | ((fail_if_success (fail_if_success omega (config := {}))); (first | with_reducible assumption | decide | lia | omega (config := {})))), by rw [kj j (by (first | exact u_lt ‹_› | exact u_n ‹_› | exact p_lt ‹_› | exact p_ne ‹_› | exact p_nf ‹_› | exact p_l ‹_› | exact b_1 ‹_› | exact Nat.ne_of_gt ‹_› | exact Nat.ne_of_lt ‹_› | exact u_ne ‹_› ‹_› | exact u_nf ‹_› ‹_› | exact u_ab ‹_› ‹_› | exact p_n ‹_› ‹_› | exact p_k ‹_› ‹_› | exact l_e ‹_› ‹_› | exact l_f ‹_› ‹_› | exact b_2 ‹_› ‹_› | exact u_1 _ | exact u_2 _ | (apply Nat.lt_trans; assumption; assumption; done) | (apply Nat.lt_of_lt_of_le; assumption; assumption; done) | (apply Nat.lt_of_le_of_lt; assumption; assumption; done) | (apply Nat.le_trans; assumption; assumption; done) | ((fail_if_success (fail_if_success omega (config := {}))); (first | with_reducible assumption | decide | lia | omega (config := {}))))) (by (first | exact u_lt ‹_› | exact u_n ‹_› | exact p_lt ‹_› | exact p_ne ‹_› | exact p_nf ‹_› | exact p_l ‹_› | exact b_1 ‹_› | exact Nat.ne_of_gt ‹_› | exact Nat.ne_of_lt ‹_› | exact u_ne ‹_› ‹_› | exact u_nf ‹_› ‹_› | exact u_ab ‹_› ‹_› | exact p_n ‹_› ‹_› | exact p_k ‹_› ‹_› | exact l_e ‹_› ‹_› | exact l_f ‹_› ‹_› | exact b_2 ‹_› ‹_› | exact u_1 _ | exact u_2 _ | (apply Nat.lt_trans; assumption; assumption; done) | (apply Nat.lt_of_lt_of_le; assumption; assumption; done) | (apply Nat.lt_of_le_of_lt; assumption; assumption; done) | (apply Nat.le_trans; assumption; assumption; done) | ((fail_if_success (fail_if_success omega (config := {}))); (first | with_reducible assumption | decide | lia | omega (config := {})))))]; exact e⟩
          · refine .inl ?_
            rw [← c2, gset_eq (by (first | exact u_lt ‹_› | exact u_n ‹_› | exact p_lt ‹_› | exact p_ne ‹_› | exact p_nf ‹_› | exact p_l ‹_› | exact b_1 ‹_› | exact Nat.ne_of_gt ‹_› | exact Nat.ne_of_lt ‹_› | exact u_ne ‹_› ‹_› | exact u_nf ‹_› ‹_› | exact u_ab ‹_› ‹_› | exact p_n ‹_› ‹_› | exact p_k ‹_› ‹_› | exact l_e ‹_› ‹_› | exact l_f ‹_› ‹_› | exact b_2 ‹_› ‹_› | exact u_1 _ | exact u_2 _ | (apply Nat.lt_trans; assumption; assumption; done) | (apply Nat.lt_of_lt_of_le; assumption; assumption; done) | (apply Nat.lt_of_le_of_lt; assumption; assumption; done) | (apply Nat.le_trans; assumption; assumption; done) | ((fail_if_success (fail_if_success omega (config := {}))); (first | with_reducible assumption | decide | lia | omega (config := {})))))]
        · refine .inr ⟨0, by rw [hlen]; (first | exact u_lt ‹_› | exact u_n ‹_› | exact p_lt ‹_› | exact p_ne ‹_› | exact p_nf ‹_› | exact p_l ‹_› | exact b_1 ‹_› | exact Nat.ne_of_gt ‹_› | exact Nat.ne_of_lt ‹_› | exact u_ne ‹_› ‹_› | exact u_nf ‹_› ‹_› | exact u_ab ‹_› ‹_› | exact p_n ‹_› ‹_› | exact p_k ‹_› ‹_› | exact l_e ‹_› ‹_› | exact l_f ‹_› ‹_› | exact b_2 ‹_› ‹_› | exact u_1 _ | exact u_2 _ | (apply Nat.lt_trans; assumption; assumption; done) | (apply Nat.lt_of_lt_of_le; assumption; assumption; done) | (apply Nat.lt_of_le_of_lt; assumption; assumption; done) | (apply Nat.le_trans; assumption; assumption; done) | ((fail_if_success (fail_if_success omega (config := {}))); (first | with_reducible assumption | decide | lia | omega (config := {})))), ?_⟩
          rw [k0]; (first | exact u_lt ‹_› | exact u_n ‹_› | exact p_lt ‹_› | exact p_ne ‹_› | exact p_nf ‹_› | exact p_l ‹_› | exact b_1 ‹_› | exact Nat.ne_of_gt ‹_› | exact Nat.ne_of_lt ‹_› | exact u_ne ‹_› ‹_› | exact u_nf ‹_› ‹_› | exact u_ab ‹_› ‹_› | exact p_n ‹_› ‹_› | exact p_k ‹_› ‹_› | exact l_e ‹_› ‹_› | exact l_f ‹_› ‹_› | exact b_2 ‹_› ‹_› | exact u_1 _ | exact u_2 _ | (apply Nat.lt_trans; assumption; assumption; done) | (apply Nat.lt_of_lt_of_le; assumption; assumption; done) | (apply Nat.lt_of_le_of_lt; assumption; assumption; done) | (apply Nat.le_trans; assumption; assumption; done) | ((fail_if_success (fail_if_success omega (config := {}))); (first | with_reducible assumption | decide | lia | omega (config := {}))))
    have I1 : NearlyD act (H.dropLast.set 0 w) 0 := by
      refine ⟨fun k k1 k2 k3 => ?_, fun h => absurd h (by (first | exact u_lt ‹_› | exact u_n ‹_› | exact p_lt ‹_› | exact p_ne ‹_› | exact p_nf ‹_› | exact p_l ‹_› | exact b_1 ‹_› | exact Nat.ne_of_gt ‹_› | exact Nat.ne_of_lt ‹_› | exact u_ne ‹_› ‹_› | exact u_nf ‹_› ‹_› | exact u_ab ‹_› ‹_› | exact p_n ‹_› ‹_› | exact p_k ‹_› ‹_› | exact l_e ‹_› ‹_› | exact l_f ‹_› ‹_› | exact b_2 ‹_› ‹_› | exact u_1 _ | exact u_2 _ | (apply Nat.lt_trans; assumption; assumption; done) | (apply Nat.lt_of_lt_of_le; assumption; assumption; done) | (apply Nat.lt_of_le_of_lt; assumption; assumption; done) | (apply Nat.le_trans; assumption; assumption; done) | ((fail_if_success (fail_if_success omega (config := {}))); (first | with_reducible assumption | decide | lia | omega (config := {})))))⟩
      rw [hlen] at k2
      rw [kj k k1 k2, kj ((k - 1) / 2) (by (first | exact u_lt ‹_› | exact u_n ‹_› | exact p_lt ‹_› | exact p_ne ‹_› | exact p_nf ‹_› | exact p_l ‹_› | exact b_1 ‹_› | exact Nat.ne_of_gt ‹_› | exact Nat.ne_of_lt ‹_› | exact u_ne ‹_› ‹_› | exact u_nf ‹_› ‹_› | exact u_ab ‹_› ‹_› | exact p_n ‹_› ‹_› | exact p_k ‹_› ‹_› | exact l_e ‹_› ‹_› | exact l_f ‹_› ‹_› | exact b_2 ‹_› ‹_› | exact u_1 _ | exact u_2 _ | (apply Nat.lt_trans; assumption; assumption; done) | (apply Nat.lt_of_lt_of_le; assumption; assumption; done) | (apply Nat.lt_of_le_of_lt; assumption; assumption; done) | (apply Nat.le_trans; assumption; assumption; done) | ((fail_if_success (fail_if_success omega (config := {}))); (first | with_reducible assumption | decide | lia | omega (config := {}))))) (by (first | exact u_lt ‹_› | exact u_n ‹_› | exact p_lt ‹_› | exact p_ne ‹_› | exact p_nf ‹_› | exact p_l ‹_› | exact b_1 ‹_› | exact Nat.ne_of_gt ‹_› | exact Nat.ne_of_lt ‹_› | exact u_ne ‹_› ‹_› | exact u_nf ‹_› ‹_› | exact u_ab ‹_› ‹_› | exact p_n ‹_› ‹_› | exact p_k ‹_› ‹_› | exact l_e ‹_› ‹_› | exact l_f ‹_› ‹_› | exact b_2 ‹_› ‹_› | exact u_1 _ | exact u_2 _ | (apply Nat.lt_trans; assumption; assumption; done) | (apply Nat.lt_of_lt_of_le; assumption; assumption; done) | (apply Nat.lt_of_le_of_lt; assumption; assumption; done) | (apply Nat.le_trans; assumption; assumption; done) | ((fail_if_success (fail_if_success omega (config := {}))); (first | with_reducible assumption | decide | lia | omega (config := {})))))]
      exact ho k k1 (by (first | exact u_lt ‹_› | exact u_n ‹_› | exact p_lt ‹_› | exact p_ne ‹_› | exact p_nf ‹_› | exact p_l ‹_› | exact b_1 ‹_› | exact Nat.ne_of_gt ‹_› | exact Nat.ne_of_lt ‹_› | exact u_ne ‹_› ‹_› | exact u_nf ‹_› ‹_› | exact u_ab ‹_› ‹_› | exact p_n ‹_› ‹_› | exact p_k ‹_› ‹_› | exact l_e ‹_› ‹_› | exact l_f ‹_› ‹_› | exact b_2 ‹_› ‹_› | exact u_1 _ | exact u_2 _ | (apply Nat.lt_trans; assumption; assumption; done) | (apply Nat.lt_of_lt_of_le; assumption; assumption; done) | (apply Nat.lt_of_le_of_lt; assumption; assumption; done) | (apply Nat.le_trans; assumption; assumption; done) | ((fail_if_success (fail_if_success omega (config := {}))); (first | with_reducible assumption | decide | lia | omega (config := {})))))
    have P1 : (b :: H.dropLast.set 0 w).Perm H := by
      obtain ⟨b', r, rfl⟩ : ∃ b' r, H = b' :: r := by
        cases H with
        | nil => simp at h0
        | cons b' r => exact ⟨b', r, rfl⟩
      have hb' : b' = b := hb
      subst hb'
      have hr : r ≠ [] := fun q => by subst q; simp at h1
      have hd : (b' :: r).dropLast = b' :: r.dropLast := by
        cases r with
        | nil => exact absurd rfl hr
        | cons c q => rfl
      rw [hd]
      have hw' : w = r.getLast hr := by
        rw [← hw, List.getD_eq_getElem?_getD, ← List.getLast?_eq_getElem?, List.getLast?_cons, List.getLast?_eq_some_getLast hr]
        rfl
      show (b' :: w :: r.dropLast).Perm (b' :: r)
      refine .cons _ ?_
      have := List.dropLast_concat_getLast hr
      rw [← hw'] at this
      conv => rhs; rw [← this]
      exact (List.perm_append_comm (l₁ := [w]) (l₂ := r.dropLast))
    obtain ⟨s1, s2, s3⟩ := sink_ok (act := act) (H := H.dropLast.set 0 w) (by rw [hlen]; (first | exact u_lt ‹_› | exact u_n ‹_› | exact p_lt ‹_› | exact p_ne ‹_› | exact p_nf ‹_› | exact p_l ‹_› | exact b_1 ‹_› | exact Nat.ne_of_gt ‹_› | exact Nat.ne_of_lt ‹_› | exact u_ne ‹_› ‹_› | exact u_nf ‹_› ‹_› | exact u_ab ‹_› ‹_› | exact p_n ‹_› ‹_› | exact p_k ‹_› ‹_› | exact l_e ‹_› ‹_› | exact l_f ‹_› ‹_› | exact b_2 ‹_› ‹_› | exact u_1 _ | exact u_2 _ | (apply Nat.lt_trans; assumption; assumption; done) | (apply Nat.lt_of_lt_of_le; assumption; assumption; done) | (apply Nat.lt_of_le_of_lt; assumption; assumption; done) | (apply Nat.le_trans; assumption; assumption; done) | ((fail_if_success (fail_if_success omega (config := {}))); (first | with_reducible assumption | decide | lia | omega (config := {}))))) G1 I1
    rw [k0] at s1 s2 s3
    exact ⟨rfl, s1, s2, (s3.cons b).trans P1⟩
/-- what popping gives, one by one -/
noncomputable def pops (act : List Int) : Nat → List Int → List Int → List Int
  | 0, _, _ => []
  | k + 1, h, p => (popL act h p).1 :: pops act k (popL act h p).2.1 (popL act h p).2.2
noncomputable def popSt (act : List Int) : Nat → List Int → List Int → List Int × List Int
  | 0, h, p => (h, p)
  | k + 1, h, p => popSt act k (popL act h p).2.1 (popL act h p).2.2
theorem popSt_succ (act : List Int) : ∀ k h p, popSt act (k + 1) h p = (popL act (popSt act k h p).1 (popSt act k h p).2).2
  | 0, _, _ => rfl
  | k + 1, h, p => popSt_succ act k _ _
theorem pops_succ (act : List Int) : ∀ k h p, pops act (k + 1) h p = pops act k h p ++ [(popL act (popSt act k h p).1 (popSt act k h p).2).1]
  | 0, _, _ => rfl
  | k + 1, h, p => by
    show (popL act h p).1 :: pops act (k + 1) _ _ = _
    rw [pops_succ act k]
    rfl
theorem popL_nil (act pl : List Int) : popL act [] pl = (0, [], pl) := rfl
theorem popSt_good {act : List Int} {n : Nat} : ∀ k {H pl : List Int}, Good n H pl → Ord act H H.length → Good n (popSt act k H pl).1 (popSt act k H pl).2 ∧ (popSt act k H pl).1.length ≤ H.length
  | 0, _, _, G, _ => ⟨G, Nat.le_refl _⟩
  | k + 1, H, pl, G, ho => by
    rcases Nat.eq_zero_or_pos H.length with h | h
    · have : H = [] := List.eq_nil_of_length_eq_zero h
      subst this
      exact popSt_good k G ho
    · obtain ⟨p1, p2, p3, p4⟩ := pop_ok h G ho
      obtain ⟨q1, q2⟩ := popSt_good k p2 p3
      have := p4.length_eq
      rw [List.length_cons] at this
      exact ⟨q1, Nat.le_trans q2 (by (first | exact u_lt ‹_› | exact u_n ‹_› | exact p_lt ‹_› | exact p_ne ‹_› | exact p_nf ‹_› | exact p_l ‹_› | exact b_1 ‹_› | exact Nat.ne_of_gt ‹_› | exact Nat.ne_of_lt ‹_› | exact u_ne ‹_› ‹_› | exact u_nf ‹_› ‹_› | exact u_ab ‹_› ‹_› | exact p_n ‹_› ‹_› | exact p_k ‹_› ‹_› | exact l_e ‹_› ‹_› | exact l_f ‹_› ‹_› | exact b_2 ‹_› ‹_› | exact u_1 _ | exact u_2 _ | (apply Nat.lt_trans; assumption; assumption; done) | (apply Nat.lt_of_lt_of_le; assumption; assumption; done) | (apply Nat.lt_of_le_of_lt; assumption; assumption; done) | (apply Nat.le_trans; assumption; assumption; done) | ((fail_if_success (fail_if_success omega (config := {}))); (first | with_reducible assumption | decide | lia | omega (config := {})))))⟩
theorem pops_sorted {act : List Int} {n : Nat} : ∀ (vs H pl : List Int), Good n H pl → Ord act H H.length → vs.Perm H → (vs.Pairwise fun a b => rankLt act a b = true) → pops act (vs.length + 1) H pl = vs ++ [0]
  | [], H, pl, _, _, hp, _ => by
    have : H = [] := List.eq_nil_of_length_eq_zero hp.length_eq.symm
    subst this
    rfl
  | v :: vs, H, pl, G, ho, hp, hs => by
    have hl := hp.length_eq
    rw [List.length_cons] at hl
    obtain ⟨p1, p2, p3, p4⟩ := pop_ok (by (first | exact u_lt ‹_› | exact u_n ‹_› | exact p_lt ‹_› | exact p_ne ‹_› | exact p_nf ‹_› | exact p_l ‹_› | exact b_1 ‹_› | exact Nat.ne_of_gt ‹_› | exact Nat.ne_of_lt ‹_› | exact u_ne ‹_› ‹_› | exact u_nf ‹_› ‹_› | exact u_ab ‹_› ‹_› | exact p_n ‹_› ‹_› | exact p_k ‹_› ‹_› | exact l_e ‹_› ‹_› | exact l_f ‹_› ‹_› | exact b_2 ‹_› ‹_› | exact u_1 _ | exact u_2 _ | (apply Nat.lt_trans; assumption; assumption; done) | (apply Nat.lt_of_lt_of_le; assumption; assumption; done) | (apply Nat.lt_of_le_of_lt; assumption; assumption; done) | (apply Nat.le_trans; assumption; assumption; done) | ((fail_if_success (fail_if_success omega (config := {}))); (first | with_reducible assumption | decide | lia | omega (config := {}))))) G ho
    have ev : H.getD 0 0 = v := by
      have hm : H.getD 0 0 ∈ v :: vs := hp.mem_iff.mpr (mem_at.mpr ⟨0, by (first | exact u_lt ‹_› | exact u_n ‹_› | exact p_lt ‹_› | exact p_ne ‹_› | exact p_nf ‹_› | exact p_l ‹_› | exact b_1 ‹_› | exact Nat.ne_of_gt ‹_› | exact Nat.ne_of_lt ‹_› | exact u_ne ‹_› ‹_› | exact u_nf ‹_› ‹_› | exact u_ab ‹_› ‹_› | exact p_n ‹_› ‹_› | exact p_k ‹_› ‹_› | exact l_e ‹_› ‹_› | exact l_f ‹_› ‹_› | exact b_2 ‹_› ‹_› | exact u_1 _ | exact u_2 _ | (apply Nat.lt_trans; assumption; assumption; done) | (apply Nat.lt_of_lt_of_le; assumption; assumption; done) | (apply Nat.lt_of_le_of_lt; assumption; assumption; done) | (apply Nat.le_trans; assumption; assumption; done) | ((fail_if_success (fail_if_success omega (config := {}))); (first | with_reducible assumption | decide | lia | omega (config := {})))), rfl⟩)
      rcases List.mem_cons.mp hm with e | hm
      · exact e
      · have h1 := (List.pairwise_cons.mp hs).1 _ hm
        obtain ⟨j, hj, e⟩ := mem_at.mp (hp.mem_iff.mp (.head _))
        have h2 := root_best ho j hj
        rw [e, h1] at h2
        cases h2
    show (popL act H pl).1 :: pops act (vs.length + 1) _ _ = _
    rw [p1, ev]
    have hp' : vs.Perm (popL act H pl).2.1 := by
      rw [ev] at p4
      exact (hp.trans p4.symm).cons_inv
    rw [pops_sorted vs _ _ p2 p3 hp' (List.pairwise_cons.mp hs).2]
    rfl
-- RgQ5

theorem erase_perm {row left U : List Int} {k : Nat} (h : k < left.length) (hp : (row ++ left).Perm U) : ((row ++ [left.getD k 0]) ++ left.eraseIdx k).Perm U := by
  refine List.Perm.trans ?_ hp
  rw [List.append_assoc]
  refine List.Perm.append_left row ?_
  rw [List.getD_eq_getElem?_getD, List.getElem?_eq_getElem h]
  rw [List.eraseIdx_eq_take_drop_succ]
  refine List.Perm.trans (List.perm_middle (l₁ := left.take k) (l₂ := left.drop (k + 1))).symm ?_
  show (left.take k ++ left[k] :: left.drop (k + 1)).Perm left
  rw [← List.drop_eq_getElem_cons h, List.take_append_drop]
theorem upto_nodup (n : Nat) : (upto n).Nodup := by
  unfold upto
  rw [List.nodup_iff_pairwise_ne, List.pairwise_map]
  exact List.Pairwise.imp (fun h e => h (by (first | exact u_lt ‹_› | exact u_n ‹_› | exact p_lt ‹_› | exact p_ne ‹_› | exact p_nf ‹_› | exact p_l ‹_› | exact b_1 ‹_› | exact Nat.ne_of_gt ‹_› | exact Nat.ne_of_lt ‹_› | exact u_ne ‹_› ‹_› | exact u_nf ‹_› ‹_› | exact u_ab ‹_› ‹_› | exact p_n ‹_› ‹_› | exact p_k ‹_› ‹_› | exact l_e ‹_› ‹_› | exact l_f ‹_› ‹_› | exact b_2 ‹_› ‹_› | exact u_1 _ | exact u_2 _ | (apply Nat.lt_trans; assumption; assumption; done) | (apply Nat.lt_of_lt_of_le; assumption; assumption; done) | (apply Nat.lt_of_le_of_lt; assumption; assumption; done) | (apply Nat.le_trans; assumption; assumption; done) | ((fail_if_success (fail_if_success omega (config := {}))); (first | with_reducible assumption | decide | lia | omega (config := {})))))) List.nodup_range
theorem upto_mem {n : Nat} {v : Int} : v ∈ upto n ↔ 1 ≤ v ∧ v ≤ (n : Int) := by
  unfold upto
  rw [List.mem_map]
  constructor
  · rintro ⟨i, hi, rfl⟩
    have := List.mem_range.mp hi
    (first | exact u_lt ‹_› | exact u_n ‹_› | exact p_lt ‹_› | exact p_ne ‹_› | exact p_nf ‹_› | exact p_l ‹_› | exact b_1 ‹_› | exact Nat.ne_of_gt ‹_› | exact Nat.ne_of_lt ‹_› | exact u_ne ‹_› ‹_› | exact u_nf ‹_› ‹_› | exact u_ab ‹_› ‹_› | exact p_n ‹_› ‹_› | exact p_k ‹_› ‹_› | exact l_e ‹_› ‹_› | exact l_f ‹_› ‹_› | exact b_2 ‹_› ‹_› | exact u_1 _ | exact u_2 _ | (apply Nat.lt_trans; assumption; assumption; done) | (apply Nat.lt_of_lt_of_le; assumption; assumption; done) | (apply Nat.lt_of_le_of_lt; assumption; assumption; done) | (apply Nat.le_trans; assumption; assumption; done) | ((fail_if_success (fail_if_success omega (config := {}))); (first | with_reducible assumption | decide | lia | omega (config := {}))))
  · rintro ⟨h1, h2⟩
    exact ⟨(v - 1).toNat, List.mem_range.mpr (by (first | exact u_lt ‹_› | exact u_n ‹_› | exact p_lt ‹_› | exact p_ne ‹_› | exact p_nf ‹_› | exact p_l ‹_› | exact b_1 ‹_› | exact Nat.ne_of_gt ‹_› | exact Nat.ne_of_lt ‹_› | exact u_ne ‹_› ‹_› | exact u_nf ‹_› ‹_› | exact u_ab ‹_› ‹_› | exact p_n ‹_› ‹_› | exact p_k ‹_› ‹_› | exact l_e ‹_› ‹_› | exact l_f ‹_› ‹_› | exact b_2 ‹_› ‹_› | exact u_1 _ | exact u_2 _ | (apply Nat.lt_trans; assumption; assumption; done) | (apply Nat.lt_of_lt_of_le; assumption; assumption; done) | (apply Nat.lt_of_le_of_lt; assumption; assumption; done) | (apply Nat.le_trans; assumption; assumption; done) | ((fail_if_success (fail_if_success omega (config := {}))); (first | with_reducible assumption | decide | lia | omega (config := {}))))), by (first | exact u_lt ‹_› | exact u_n ‹_› | exact p_lt ‹_› | exact p_ne ‹_› | exact p_nf ‹_› | exact p_l ‹_› | exact b_1 ‹_› | exact Nat.ne_of_gt ‹_› | exact Nat.ne_of_lt ‹_› | exact u_ne ‹_› ‹_› | exact u_nf ‹_› ‹_› | exact u_ab ‹_› ‹_› | exact p_n ‹_› ‹_› | exact p_k ‹_› ‹_› | exact l_e ‹_› ‹_› | exact l_f ‹_› ‹_› | exact b_2 ‹_› ‹_› | exact u_1 _ | exact u_2 _ | (apply Nat.lt_trans; assumption; assumption; done) | (apply Nat.lt_of_lt_of_le; assumption; assumption; done) | (apply Nat.lt_of_le_of_lt; assumption; assumption; done) | (apply Nat.le_trans; assumption; assumption; done) | ((fail_if_success (fail_if_success omega (config := {}))); (first | with_reducible assumption | decide | lia | omega (config := {}))))⟩
theorem take_facts {row R : List Int} {q n : Nat} (hp : row.Perm (upto n)) (hl : row.length = n) (hq : q ≤ n) (he : row.take q = R) : R.length = q ∧ R.Nodup ∧ ∀ v ∈ R, 1 ≤ v ∧ v ≤ (n : Int) := by
  subst he
  refine ⟨by rw [List.length_take]; (first | exact u_lt ‹_› | exact u_n ‹_› | exact p_lt ‹_› | exact p_ne ‹_› | exact p_nf ‹_› | exact p_l ‹_› | exact b_1 ‹_› | exact Nat.ne_of_gt ‹_› | exact Nat.ne_of_lt ‹_› | exact u_ne ‹_› ‹_› | exact u_nf ‹_› ‹_› | exact u_ab ‹_› ‹_› | exact p_n ‹_› ‹_› | exact p_k ‹_› ‹_› | exact l_e ‹_› ‹_› | exact l_f ‹_› ‹_› | exact b_2 ‹_› ‹_› | exact u_1 _ | exact u_2 _ | (apply Nat.lt_trans; assumption; assumption; done) | (apply Nat.lt_of_lt_of_le; assumption; assumption; done) | (apply Nat.lt_of_le_of_lt; assumption; assumption; done) | (apply Nat.le_trans; assumption; assumption; done) | ((fail_if_success (fail_if_success omega (config := {}))); (first | with_reducible assumption | decide | lia | omega (config := {})))), (hp.nodup_iff.mpr (upto_nodup n)).sublist (List.take_sublist q row), fun v hv => upto_mem.mp (hp.mem_iff.mp (List.mem_of_mem_take hv))⟩
noncomputable def spotsOf (R : List Int) (i : Nat) : List Int := (List.range i).map fun (k : Nat) => if (1 + (k : Int)) ∈ R then (R.idxOf (1 + (k : Int)) : Int) else -1
theorem spotsOf_succ (R : List Int) (i : Nat) : spotsOf R (i + 1) = spotsOf R i ++ [if (1 + (i : Int)) ∈ R then (R.idxOf (1 + (i : Int)) : Int) else -1] := by
  simp [spotsOf, List.range_succ]
theorem spots_at (R : List Int) {n u : Nat} (h1 : 1 ≤ u) (h2 : u ≤ n) : ((-1) :: spotsOf R n).getD u 0 = if (u : Int) ∈ R then (R.idxOf (u : Int) : Int) else -1 := by
  obtain ⟨k, rfl⟩ : ∃ k, u = k + 1 := ⟨u - 1, by (first | exact u_lt ‹_› | exact u_n ‹_› | exact p_lt ‹_› | exact p_ne ‹_› | exact p_nf ‹_› | exact p_l ‹_› | exact b_1 ‹_› | exact Nat.ne_of_gt ‹_› | exact Nat.ne_of_lt ‹_› | exact u_ne ‹_› ‹_› | exact u_nf ‹_› ‹_› | exact u_ab ‹_› ‹_› | exact p_n ‹_› ‹_› | exact p_k ‹_› ‹_› | exact l_e ‹_› ‹_› | exact l_f ‹_› ‹_› | exact b_2 ‹_› ‹_› | exact u_1 _ | exact u_2 _ | (apply Nat.lt_trans; assumption; assumption; done) | (apply Nat.lt_of_lt_of_le; assumption; assumption; done) | (apply Nat.lt_of_le_of_lt; assumption; assumption; done) | (apply Nat.le_trans; assumption; assumption; done) | ((fail_if_success (fail_if_success omega (config := {}))); (first | with_reducible assumption | decide | lia | omega (config := {}))))⟩
  have e : (1 + (k : Int)) = ((k + 1 : Nat) : Int) := by (first | exact u_lt ‹_› | exact u_n ‹_› | exact p_lt ‹_› | exact p_ne ‹_› | exact p_nf ‹_› | exact p_l ‹_› | exact b_1 ‹_› | exact Nat.ne_of_gt ‹_› | exact Nat.ne_of_lt ‹_› | exact u_ne ‹_› ‹_› | exact u_nf ‹_› ‹_› | exact u_ab ‹_› ‹_› | exact p_n ‹_› ‹_› | exact p_k ‹_› ‹_› | exact l_e ‹_› ‹_› | exact l_f ‹_› ‹_› | exact b_2 ‹_› ‹_› | exact u_1 _ | exact u_2 _ | (apply Nat.lt_trans; assumption; assumption; done) | (apply Nat.lt_of_lt_of_le; assumption; assumption; done) | (apply Nat.lt_of_le_of_lt; assumption; assumption; done) | (apply Nat.le_trans; assumption; assumption; done) | ((fail_if_success (fail_if_success omega (config := {}))); (first | with_reducible assumption | decide | lia | omega (config := {}))))
  rw [List.getD_cons_succ, List.getD_eq_getElem?_getD]
  unfold spotsOf
  rw [List.getElem?_map, List.getElem?_range (by (first | exact u_lt ‹_› | exact u_n ‹_› | exact p_lt ‹_› | exact p_ne ‹_› | exact p_nf ‹_› | exact p_l ‹_› | exact b_1 ‹_› | exact Nat.ne_of_gt ‹_› | exact Nat.ne_of_lt ‹_› | exact u_ne ‹_› ‹_› | exact u_nf ‹_› ‹_› | exact u_ab ‹_› ‹_› | exact p_n ‹_› ‹_› | exact p_k ‹_› ‹_› | exact l_e ‹_› ‹_› | exact l_f ‹_› ‹_› | exact b_2 ‹_› ‹_› | exact u_1 _ | exact u_2 _ | (apply Nat.lt_trans; assumption; assumption; done) | (apply Nat.lt_of_lt_of_le; assumption; assumption; done) | (apply Nat.lt_of_le_of_lt; assumption; assumption; done) | (apply Nat.le_trans; assumption; assumption; done) | ((fail_if_success (fail_if_success omega (config := {}))); (first | with_reducible assumption | decide | lia | omega (config := {}))))), ← e]
  rfl
theorem good0 {R : List Int} {n : Nat} (hn : R.Nodup) (hm : ∀ v ∈ R, 1 ≤ v ∧ v ≤ (n : Int)) : Good (n + 1) R ((-1) :: spotsOf R n) := by
  refine ⟨by simp [spotsOf], fun j hj => ?_, fun u h1 h2 => ?_⟩
  · have e : R.getD j 0 = R[j] := by rw [List.getD_eq_getElem?_getD, List.getElem?_eq_getElem hj]; rfl
    have hmem : R[j] ∈ R := List.getElem_mem hj
    obtain ⟨g1, g2⟩ := hm _ hmem
    rw [e]
    refine ⟨g1, by (first | exact u_lt ‹_› | exact u_n ‹_› | exact p_lt ‹_› | exact p_ne ‹_› | exact p_nf ‹_› | exact p_l ‹_› | exact b_1 ‹_› | exact Nat.ne_of_gt ‹_› | exact Nat.ne_of_lt ‹_› | exact u_ne ‹_› ‹_› | exact u_nf ‹_› ‹_› | exact u_ab ‹_› ‹_› | exact p_n ‹_› ‹_› | exact p_k ‹_› ‹_› | exact l_e ‹_› ‹_› | exact l_f ‹_› ‹_› | exact b_2 ‹_› ‹_› | exact u_1 _ | exact u_2 _ | (apply Nat.lt_trans; assumption; assumption; done) | (apply Nat.lt_of_lt_of_le; assumption; assumption; done) | (apply Nat.lt_of_le_of_lt; assumption; assumption; done) | (apply Nat.le_trans; assumption; assumption; done) | ((fail_if_success (fail_if_success omega (config := {}))); (first | with_reducible assumption | decide | lia | omega (config := {})))), ?_⟩
    rw [spots_at R (u := R[j].toNat) (by (first | exact u_lt ‹_› | exact u_n ‹_› | exact p_lt ‹_› | exact p_ne ‹_› | exact p_nf ‹_› | exact p_l ‹_› | exact b_1 ‹_› | exact Nat.ne_of_gt ‹_› | exact Nat.ne_of_lt ‹_› | exact u_ne ‹_› ‹_› | exact u_nf ‹_› ‹_› | exact u_ab ‹_› ‹_› | exact p_n ‹_› ‹_› | exact p_k ‹_› ‹_› | exact l_e ‹_› ‹_› | exact l_f ‹_› ‹_› | exact b_2 ‹_› ‹_› | exact u_1 _ | exact u_2 _ | (apply Nat.lt_trans; assumption; assumption; done) | (apply Nat.lt_of_lt_of_le; assumption; assumption; done) | (apply Nat.lt_of_le_of_lt; assumption; assumption; done) | (apply Nat.le_trans; assumption; assumption; done) | ((fail_if_success (fail_if_success omega (config := {}))); (first | with_reducible assumption | decide | lia | omega (config := {}))))) (by (first | exact u_lt ‹_› | exact u_n ‹_› | exact p_lt ‹_› | exact p_ne ‹_› | exact p_nf ‹_› | exact p_l ‹_› | exact b_1 ‹_› | exact Nat.ne_of_gt ‹_› | exact Nat.ne_of_lt ‹_› | exact u_ne ‹_› ‹_› | exact u_nf ‹_› ‹_› | exact u_ab ‹_› ‹_› | exact p_n ‹_› ‹_› | exact p_k ‹_› ‹_› | exact l_e ‹_› ‹_› | exact l_f ‹_› ‹_› | exact b_2 ‹_› ‹_› | exact u_1 _ | exact u_2 _ | (apply Nat.lt_trans; assumption; assumption; done) | (apply Nat.lt_of_lt_of_le; assumption; assumption; done) | (apply Nat.lt_of_le_of_lt; assumption; assumption; done) | (apply Nat.le_trans; assumption; assumption; done) | ((fail_if_success (fail_if_success omega (config := {}))); (first | with_reducible assumption | decide | lia | omega (config := {}))))), Int.toNat_of_nonneg (by (first | exact u_lt ‹_› | exact u_n ‹_› | exact p_lt ‹_› | exact p_ne ‹_› | exact p_nf ‹_› | exact p_l ‹_› | exact b_1 ‹_› | exact Nat.ne_of_gt ‹_› | exact Nat.ne_of_lt ‹_› | exact u_ne ‹_› ‹_› | exact u_nf ‹_› ‹_› | exact u_ab ‹_› ‹_› | exact p_n ‹_› ‹_› | exact p_k ‹_› ‹_› | exact l_e ‹_› ‹_› | exact l_f ‹_› ‹_› | exact b_2 ‹_› ‹_› | exact u_1 _ | exact u_2 _ | (apply Nat.lt_trans; assumption; assumption; done) | (apply Nat.lt_of_lt_of_le; assumption; assumption; done) | (apply Nat.lt_of_le_of_lt; assumption; assumption; done) | (apply Nat.le_trans; assumption; assumption; done) | ((fail_if_success (fail_if_success omega (config := {}))); (first | with_reducible assumption | decide | lia | omega (config := {}))))), if_pos hmem, hn.idxOf_getElem j hj]
  · rw [spots_at R h1 (by (first | exact u_lt ‹_› | exact u_n ‹_› | exact p_lt ‹_› | exact p_ne ‹_› | exact p_nf ‹_› | exact p_l ‹_› | exact b_1 ‹_› | exact Nat.ne_of_gt ‹_› | exact Nat.ne_of_lt ‹_› | exact u_ne ‹_› ‹_› | exact u_nf ‹_› ‹_› | exact u_ab ‹_› ‹_› | exact p_n ‹_› ‹_› | exact p_k ‹_› ‹_› | exact l_e ‹_› ‹_› | exact l_f ‹_› ‹_› | exact b_2 ‹_› ‹_› | exact u_1 _ | exact u_2 _ | (apply Nat.lt_trans; assumption; assumption; done) | (apply Nat.lt_of_lt_of_le; assumption; assumption; done) | (apply Nat.lt_of_le_of_lt; assumption; assumption; done) | (apply Nat.le_trans; assumption; assumption; done) | ((fail_if_success (fail_if_success omega (config := {}))); (first | with_reducible assumption | decide | lia | omega (config := {})))))]
    by_cases h : (u : Int) ∈ R
    · exact .inr (mem_at.mp h)
    · rw [if_neg h]; exact .inl rfl
theorem nearly_of_ord {act H : List Int} {i : Nat} (ho : Ord act H i) : Nearly act H (i + 1) i :=
  ⟨fun k h1 h2 h3 => ho k h1 (by (first | exact u_lt ‹_› | exact u_n ‹_› | exact p_lt ‹_› | exact p_ne ‹_› | exact p_nf ‹_› | exact p_l ‹_› | exact b_1 ‹_› | exact Nat.ne_of_gt ‹_› | exact Nat.ne_of_lt ‹_› | exact u_ne ‹_› ‹_› | exact u_nf ‹_› ‹_› | exact u_ab ‹_› ‹_› | exact p_n ‹_› ‹_› | exact p_k ‹_› ‹_› | exact l_e ‹_› ‹_› | exact l_f ‹_› ‹_› | exact b_2 ‹_› ‹_› | exact u_1 _ | exact u_2 _ | (apply Nat.lt_trans; assumption; assumption; done) | (apply Nat.lt_of_lt_of_le; assumption; assumption; done) | (apply Nat.lt_of_le_of_lt; assumption; assumption; done) | (apply Nat.le_trans; assumption; assumption; done) | ((fail_if_success (fail_if_success omega (config := {}))); (first | with_reducible assumption | decide | lia | omega (config := {}))))), fun h0 c h1 h2 h3 => by (first | exact u_lt ‹_› | exact u_n ‹_› | exact p_lt ‹_› | exact p_ne ‹_› | exact p_nf ‹_› | exact p_l ‹_› | exact b_1 ‹_› | exact Nat.ne_of_gt ‹_› | exact Nat.ne_of_lt ‹_› | exact u_ne ‹_› ‹_› | exact u_nf ‹_› ‹_› | exact u_ab ‹_› ‹_› | exact p_n ‹_› ‹_› | exact p_k ‹_› ‹_› | exact l_e ‹_› ‹_› | exact l_f ‹_› ‹_› | exact b_2 ‹_› ‹_› | exact u_1 _ | exact u_2 _ | (apply Nat.lt_trans; assumption; assumption; done) | (apply Nat.lt_of_lt_of_le; assumption; assumption; done) | (apply Nat.lt_of_le_of_lt; assumption; assumption; done) | (apply Nat.le_trans; assumption; assumption; done) | ((fail_if_success (fail_if_success omega (config := {}))); (first | with_reducible assumption | decide | lia | omega (config := {}))))⟩
theorem bump_at {act : List Int} {i j : Nat} {d : Int} (hi : i < act.length) : (act.set i (act.getD i 0 + d)).getD j 0 = if i = j then act.getD j 0 + d else act.getD j 0 := by
  rw [gset]
  by_cases h : i = j
  · subst h; rw [if_pos ⟨rfl, hi⟩, if_pos rfl]
  · rw [if_neg (fun c => h c.1), if_neg h]
theorem nearly_bump {act H P : List Int} {n sp : Nat} {d : Int} (G : Good n H P) (ha : act.length = n) (ho : Ord act H H.length) (hs : sp < H.length) (hd : 0 ≤ d) :
    Nearly (act.set (H.getD sp 0).toNat (act.getD (H.getD sp 0).toNat 0 + d)) H H.length sp := by
  have gs := G.at_ sp hs
  have key : ∀ k, k < H.length → (act.set (H.getD sp 0).toNat (act.getD (H.getD sp 0).toNat 0 + d)).getD (H.getD k 0).toNat 0 = if k = sp then act.getD (H.getD k 0).toNat 0 + d else act.getD (H.getD k 0).toNat 0 := fun k hk => by
    have gk := G.at_ k hk
    rw [bump_at (by (first | exact u_lt ‹_› | exact u_n ‹_› | exact p_lt ‹_› | exact p_ne ‹_› | exact p_nf ‹_› | exact p_l ‹_› | exact b_1 ‹_› | exact Nat.ne_of_gt ‹_› | exact Nat.ne_of_lt ‹_› | exact u_ne ‹_› ‹_› | exact u_nf ‹_› ‹_› | exact u_ab ‹_› ‹_› | exact p_n ‹_› ‹_› | exact p_k ‹_› ‹_› | exact l_e ‹_› ‹_› | exact l_f ‹_› ‹_› | exact b_2 ‹_› ‹_› | exact u_1 _ | exact u_2 _ | (apply Nat.lt_trans; assumption; assumption; done) | (apply Nat.lt_of_lt_of_le; assumption; assumption; done) | (apply Nat.lt_of_le_of_lt; assumption; assumption; done) | (apply Nat.le_trans; assumption; assumption; done) | ((fail_if_success (fail_if_success omega (config := {}))); (first | with_reducible assumption | decide | lia | omega (config := {})))))]
    by_cases h : k = sp
    · subst h; rw [if_pos rfl, if_pos rfl]
    · rw [if_neg (fun c => h (G.inj hk hs (by (first | exact u_lt ‹_› | exact u_n ‹_› | exact p_lt ‹_› | exact p_ne ‹_› | exact p_nf ‹_› | exact p_l ‹_› | exact b_1 ‹_› | exact Nat.ne_of_gt ‹_› | exact Nat.ne_of_lt ‹_› | exact u_ne ‹_› ‹_› | exact u_nf ‹_› ‹_› | exact u_ab ‹_› ‹_› | exact p_n ‹_› ‹_› | exact p_k ‹_› ‹_› | exact l_e ‹_› ‹_› | exact l_f ‹_› ‹_› | exact b_2 ‹_› ‹_› | exact u_1 _ | exact u_2 _ | (apply Nat.lt_trans; assumption; assumption; done) | (apply Nat.lt_of_lt_of_le; assumption; assumption; done) | (apply Nat.lt_of_le_of_lt; assumption; assumption; done) | (apply Nat.le_trans; assumption; assumption; done) | ((fail_if_success (fail_if_success omega (config := {}))); (first | with_reducible assumption | decide | lia | omega (config := {}))))))), if_neg h]
  refine ⟨fun k h1 h2 h3 => ?_, fun h0 c h1 h2 h3 => ?_⟩
  · have := ho k h1 h2
    rw [rank_false] at this ⊢
    rw [key k h2, key ((k - 1) / 2) (by (first | exact u_lt ‹_› | exact u_n ‹_› | exact p_lt ‹_› | exact p_ne ‹_› | exact p_nf ‹_› | exact p_l ‹_› | exact b_1 ‹_› | exact Nat.ne_of_gt ‹_› | exact Nat.ne_of_lt ‹_› | exact u_ne ‹_› ‹_› | exact u_nf ‹_› ‹_› | exact u_ab ‹_› ‹_› | exact p_n ‹_› ‹_› | exact p_k ‹_› ‹_› | exact l_e ‹_› ‹_› | exact l_f ‹_› ‹_› | exact b_2 ‹_› ‹_› | exact u_1 _ | exact u_2 _ | (apply Nat.lt_trans; assumption; assumption; done) | (apply Nat.lt_of_lt_of_le; assumption; assumption; done) | (apply Nat.lt_of_le_of_lt; assumption; assumption; done) | (apply Nat.le_trans; assumption; assumption; done) | ((fail_if_success (fail_if_success omega (config := {}))); (first | with_reducible assumption | decide | lia | omega (config := {}))))), if_neg h3]
    split <;> (first | exact u_lt ‹_› | exact u_n ‹_› | exact p_lt ‹_› | exact p_ne ‹_› | exact p_nf ‹_› | exact p_l ‹_› | exact b_1 ‹_› | exact Nat.ne_of_gt ‹_› | exact Nat.ne_of_lt ‹_› | exact u_ne ‹_› ‹_› | exact u_nf ‹_› ‹_› | exact u_ab ‹_› ‹_› | exact p_n ‹_› ‹_› | exact p_k ‹_› ‹_› | exact l_e ‹_› ‹_› | exact l_f ‹_› ‹_› | exact b_2 ‹_› ‹_› | exact u_1 _ | exact u_2 _ | (apply Nat.lt_trans; assumption; assumption; done) | (apply Nat.lt_of_lt_of_le; assumption; assumption; done) | (apply Nat.lt_of_le_of_lt; assumption; assumption; done) | (apply Nat.le_trans; assumption; assumption; done) | ((fail_if_success (fail_if_success omega (config := {}))); (first | with_reducible assumption | decide | lia | omega (config := {}))))
  · have e1 := ho c h1 h2
    have e2 := ho sp h0 hs
    rw [h3] at e1
    have e3 := rank_trans e2 e1
    rw [rank_false] at e3 ⊢
    rw [key c h2, key ((sp - 1) / 2) (by (first | exact u_lt ‹_› | exact u_n ‹_› | exact p_lt ‹_› | exact p_ne ‹_› | exact p_nf ‹_› | exact p_l ‹_› | exact b_1 ‹_› | exact Nat.ne_of_gt ‹_› | exact Nat.ne_of_lt ‹_› | exact u_ne ‹_› ‹_› | exact u_nf ‹_› ‹_› | exact u_ab ‹_› ‹_› | exact p_n ‹_› ‹_› | exact p_k ‹_› ‹_› | exact l_e ‹_› ‹_› | exact l_f ‹_› ‹_› | exact b_2 ‹_› ‹_› | exact u_1 _ | exact u_2 _ | (apply Nat.lt_trans; assumption; assumption; done) | (apply Nat.lt_of_lt_of_le; assumption; assumption; done) | (apply Nat.lt_of_le_of_lt; assumption; assumption; done) | (apply Nat.le_trans; assumption; assumption; done) | ((fail_if_success (fail_if_success omega (config := {}))); (first | with_reducible assumption | decide | lia | omega (config := {}))))), if_neg (by (first | exact u_lt ‹_› | exact u_n ‹_› | exact p_lt ‹_› | exact p_ne ‹_› | exact p_nf ‹_› | exact p_l ‹_› | exact b_1 ‹_› | exact Nat.ne_of_gt ‹_› | exact Nat.ne_of_lt ‹_› | exact u_ne ‹_› ‹_› | exact u_nf ‹_› ‹_› | exact u_ab ‹_› ‹_› | exact p_n ‹_› ‹_› | exact p_k ‹_› ‹_› | exact l_e ‹_› ‹_› | exact l_f ‹_› ‹_› | exact b_2 ‹_› ‹_› | exact u_1 _ | exact u_2 _ | (apply Nat.lt_trans; assumption; assumption; done) | (apply Nat.lt_of_lt_of_le; assumption; assumption; done) | (apply Nat.lt_of_le_of_lt; assumption; assumption; done) | (apply Nat.le_trans; assumption; assumption; done) | ((fail_if_success (fail_if_success omega (config := {}))); (first | with_reducible assumption | decide | lia | omega (config := {}))))), if_neg (by (first | exact u_lt ‹_› | exact u_n ‹_› | exact p_lt ‹_› | exact p_ne ‹_› | exact p_nf ‹_› | exact p_l ‹_› | exact b_1 ‹_› | exact Nat.ne_of_gt ‹_› | exact Nat.ne_of_lt ‹_› | exact u_ne ‹_› ‹_› | exact u_nf ‹_› ‹_› | exact u_ab ‹_› ‹_› | exact p_n ‹_› ‹_› | exact p_k ‹_› ‹_› | exact l_e ‹_› ‹_› | exact l_f ‹_› ‹_› | exact b_2 ‹_› ‹_› | exact u_1 _ | exact u_2 _ | (apply Nat.lt_trans; assumption; assumption; done) | (apply Nat.lt_of_lt_of_le; assumption; assumption; done) | (apply Nat.lt_of_le_of_lt; assumption; assumption; done) | (apply Nat.le_trans; assumption; assumption; done) | ((fail_if_success (fail_if_success omega (config := {}))); (first | with_reducible assumption | decide | lia | omega (config := {})))))]
    exact e3
noncomputable def rankP (act : List Int) (v : Int) : Int × Int := (0 - act.getD v.toNat 0, v)
theorem rank_pair (act : List Int) (a b : Int) : pairLt (rankP act a) (rankP act b) = rankLt act a b := rfl
theorem sorted_vars {act R : List Int} {ps : List (Int × Int)} (hp : ps.Perm (R.map (rankP act))) (hs : ps.Pairwise fun a b => pairLt a b = true) :
    (ps.map Prod.snd).Perm R ∧ (ps.map Prod.snd).Pairwise fun a b => rankLt act a b = true := by
  have h1 := hp.map Prod.snd
  rw [List.map_map] at h1
  have h2 : (Prod.snd ∘ rankP act) = id := rfl
  rw [h2, List.map_id] at h1
  refine ⟨h1, ?_⟩
  rw [List.pairwise_map]
  refine List.Pairwise.imp_of_mem (fun {a b} ha hb h => ?_) hs
  obtain ⟨u, _, rfl⟩ := List.mem_map.mp (hp.mem_iff.mp ha)
  obtain ⟨v, _, rfl⟩ := List.mem_map.mp (hp.mem_iff.mp hb)
  exact h
theorem ranks_differ {act R : List Int} (hn : R.Nodup) : ∀ i j, i < (R.map (rankP act)).length → j < (R.map (rankP act)).length → i ≠ j → (R.map (rankP act)).getD i (0, 0) ≠ (R.map (rankP act)).getD j (0, 0) := by
  intro i j hi hj hne e
  rw [List.length_map] at hi hj
  rw [List.getD_eq_getElem?_getD, List.getD_eq_getElem?_getD, List.getElem?_map, List.getElem?_map, List.getElem?_eq_getElem hi, List.getElem?_eq_getElem hj] at e
  have e2 : R[i] = R[j] := congrArg Prod.snd e
  exact hne ((List.getElem_inj hn).mp e2)
end
section
local macro_rules | `(tactic| walk_at "exec For Name Call cons nil") => `(tactic| apply stop_of)
local macro_rules | `(tactic| walk_at "pyIter ref") => `(tactic| apply stop_of)
local macro_rules | `(tactic| walk_at "UnrEndW") => `(tactic| apply stop_of)
local macro_rules | `(tactic| walk_at "ItemsRest") => `(tactic| apply stop_of)
-- RgD5
theorem ints_unc {vs : List Value} {a : Int} {ns : List Int} (h : IntsAre vs (a :: ns)) {C : List Value → Prop} (k : ∀ t ws, IntsAre ws ns → C (.int a t :: ws)) : C vs := by
  cases h with | cons _ t h => exact k t _ h
theorem ints6 {vs : List Value} {a b c d e f : Int} (h : IntsAre vs [a, b, c, d, e, f]) : ∃ t0 t1 t2 t3 t4 t5, vs = [.int a t0, .int b t1, .int c t2, .int d t3, .int e t4, .int f t5] :=
  ints_unc (C := fun vs => ∃ t0 t1 t2 t3 t4 t5, vs = [.int a t0, .int b t1, .int c t2, .int d t3, .int e t4, .int f t5]) h fun t0 ws h =>
  have h1 := ints_unc (C := fun ws => ∃ t1 t2 t3 t4 t5, ws = [.int b t1, .int c t2, .int d t3, .int e t4, .int f t5]) h fun t1 ws h =>
    have h2 := ints_unc (C := fun ws => ∃ t2 t3 t4 t5, ws = [.int c t2, .int d t3, .int e t4, .int f t5]) h fun t2 ws h =>
      have h3 := ints_unc (C := fun ws => ∃ t3 t4 t5, ws = [.int d t3, .int e t4, .int f t5]) h fun t3 ws h =>
        have h4 := ints_unc (C := fun ws => ∃ t4 t5, ws = [.int e t4, .int f t5]) h fun t4 ws h =>
          have h5 := ints_unc (C := fun ws => ∃ t5, ws = [.int f t5]) h fun t5 ws h => ⟨t5, by cases h; rfl⟩
          h5.elim fun t5 e => ⟨t4, t5, congrArg _ e⟩
        h4.elim fun t4 h => h.elim fun t5 e => ⟨t3, t4, t5, congrArg _ e⟩
      h3.elim fun t3 h => h.elim fun t4 h => h.elim fun t5 e => ⟨t2, t3, t4, t5, congrArg _ e⟩
    h2.elim fun t2 h => h.elim fun t3 h => h.elim fun t4 h => h.elim fun t5 e => ⟨t1, t2, t3, t4, t5, congrArg _ e⟩
  h1.elim fun t1 h => h.elim fun t2 h => h.elim fun t3 h => h.elim fun t4 h => h.elim fun t5 e => ⟨t0, t1, t2, t3, t4, t5, congrArg _ e⟩
theorem sp6 {w s : Nat} (h : s < 6) : [(sp w 0 : Int), (sp w 1 : Int), (sp w 2 : Int), (sp w 3 : Int), (sp w 4 : Int), (sp w 5 : Int)].getD ((5 : Int) - (s : Int)).toNat 0 = (sp w (5 - s) : Int) := by
  match s with
  | 0 => rfl
  | 1 => rfl
  | 2 => rfl
  | 3 => rfl
  | 4 => rfl
  | 5 => rfl
  | n + 6 => (first | (apply ap_x; assumption; (repeat constructor); done) | (refine Nat.ne_of_gt ?_; simp only [*]; done) | (refine Nat.ne_of_lt ?_; simp only [*]; done) | ((fail_if_success (fail_if_success omega (config := {}))); (first | with_reducible assumption | decide | lia | omega (config := {}))))
theorem enum6 {w i : Nat} {u0 u1 u2 u3 u4 u5 : Tok} {a : Itm} (h : [Itm.pair (fun t => Value.int 0 t) (Value.int (sp w 0 : Int) u0), Itm.pair (fun t => Value.int 1 t) (Value.int (sp w 1 : Int) u1), Itm.pair (fun t => Value.int 2 t) (Value.int (sp w 2 : Int) u2), Itm.pair (fun t => Value.int 3 t) (Value.int (sp w 3 : Int) u3), Itm.pair (fun t => Value.int 4 t) (Value.int (sp w 4 : Int) u4), Itm.pair (fun t => Value.int 5 t) (Value.int (sp w 5 : Int) u5)][i]? = some a) :
    i < 6 ∧ ∃ u, a = Itm.pair (fun t => Value.int (i : Int) t) (Value.int (sp w i : Int) u) := by
  match i with
  | 0 => simp at h; exact ⟨by decide, _, h.symm⟩
  | 1 => simp at h; exact ⟨by decide, _, h.symm⟩
  | 2 => simp at h; exact ⟨by decide, _, h.symm⟩
  | 3 => simp at h; exact ⟨by decide, _, h.symm⟩
  | 4 => simp at h; exact ⟨by decide, _, h.symm⟩
  | 5 => simp at h; exact ⟨by decide, _, h.symm⟩
  | n + 6 => simp at h
theorem foot_spec {w : World} {env : Env} {outer : List Env} {L : Addr} {h₀ : Heap} {m : Str → Option Value} {dp un : Nat} {gd : Option (List Code)} {s : Shared} {Q E : Value → Shared → Prop}
    {way steps : Int} {t1 t2 : Tok}
    (C : Cx w env outer L h₀) (F : Fr h₀ L s.heap m) (N : News h₀ L s.heap [])
    (hdp : dp + 400 < recursionLimit) (hun : un + 2000 < cLine)
    (h1 : 0 ≤ way) (h1' : way < 32) (h2 : 0 ≤ steps) (h2' : steps < 6)
    (k : ∀ h' tk', Fr h₀ L h' m → KeptAll s.heap h' → Q (.bool true) { s with heap := h', toks := tk' }) :
    wpAny (model PySem.Challenge.rw_rg0205_01.row.prog w) ⟨none, dp, some (env :: outer), gd, un⟩ (call (.ref 186) [.int way t1, .int steps t2]) Q E s := by
  refine cx_elim C fun A₀ base mean mg mb B X T hf hke => ?_
  revert X
  k_fill
  intro X
  refine wpAny_call ?_
  refine' enterR (binds := [(Str.ofString "way", .int way t1), (Str.ofString "steps", .int steps t2)]) B F X N T rfl hf hke ?k6 ?k7 ?k8 ?k9 ?kB ?_ ?c2 ?c3 ?c4 ?c5
  case k6 => k_is
  case k7 => k_is
  case k8 => exact Nat.lt_of_le_of_lt (Nat.le_add_right _ _) hdp
  case k9 => exact BindsTo.of_eq rfl
  case kB => exact locs rfl
  case c2 => exact rfl
  case c3 => exact rfl
  case c4 => exact rfl
  case c5 => decide
  intro g' L' h' FG' F' N' B' X' T' l1 hL C'
  dsimp only
  k_fold
  k_lt l1
  obtain ⟨wn, rfl⟩ := Int.eq_ofNat_of_zero_le h1
  obtain ⟨sn, rfl⟩ := Int.eq_ofNat_of_zero_le h2
  (repeat' (first | (k_unfold; (try dsimp only)) | (k_end; wrow_close) | ((with_reducible show wpAny _ _ (newTuple _) _ _ _); k_here; k_dflt (refine' newTuple_R ?F ?N ?_ ?z; (case F => k_asm); (case N => k_asm); (case z => kmk_size)); intro _ _ _ _ zl zm; (try k_lt zl); (revert zl zm; intro _ _); (try k_sweep)) | ((with_reducible show wpAny _ _ (exec (Stmt.Assign [Expr.Tuple _ _ _] _ _) _) _ _ _); refine Assign_Tuple_swapped (names := [Str.ofString "some", Str.ofString "spots"]) ?_ (by rfl) (by rfl)) | walk1 | (dsimp only; walk1) | (leave1; walk_say "STEP leave1"; try dsimp only) | fail "no step"))
  refine stop_go (new_spec C' ‹Fr g' L' _ _› ‹News g' L' _ _› (by show dp + 1 + 40 < recursionLimit; exact room2 hdp rfl) (by show un + 3 + 200 < cLine; exact room2 hun rfl) ?_)
  intro x dx al hl pl D h3 tk3 avs na hvs nh pvs np o1 o2 o3 o4 _ ha hh hp F3 N3
  have ap := ap5 o1 o2 o3 o4
  simp only [List.append_nil] at N3
  (repeat' (first | (k_unfold; (try dsimp only)) | (k_end; wrow_close) | ((with_reducible show wpAny _ _ (newTuple _) _ _ _); k_here; k_dflt (refine' newTuple_R ?F ?N ?_ ?z; (case F => k_asm); (case N => k_asm); (case z => kmk_size)); intro _ _ _ _ zl zm; (try k_lt zl); (revert zl zm; intro _ _); (try k_sweep)) | ((with_reducible show wpAny _ _ (exec (Stmt.Assign [Expr.Tuple _ _ _] _ _) _) _ _ _); refine Assign_Tuple_swapped (names := [Str.ofString "some", Str.ofString "spots"]) ?_ (by rfl) (by rfl)) | walk1 | (dsimp only; walk1) | (leave1; walk_say "STEP leave1"; try dsimp only) | fail "no step"))
  have N4 := ‹News g' L' _ _›
  have F4 := ‹Fr g' L' _ _›
  try dsimp only at F4 N4 ⊢
  refine stop_go (grow_spec C' F4 (cb_drop N4 (by (first | ((repeat (first | exact sub_nil | refine sub_cons 0 rfl ?_ | refine sub_cons 1 rfl ?_ | refine sub_cons 2 rfl ?_ | refine sub_cons 3 rfl ?_ | refine sub_cons 4 rfl ?_ | refine sub_cons 5 rfl ?_ | refine sub_cons 6 rfl ?_ | refine sub_cons 7 rfl ?_ | refine sub_cons 8 rfl ?_ | refine sub_cons 9 rfl ?_ | refine sub_cons 10 rfl ?_ | refine sub_cons 11 rfl ?_ | refine sub_cons 12 rfl ?_ | refine sub_cons 13 rfl ?_)); done) | kcf_all))) (by show dp + 1 + 180 < recursionLimit; exact room2 hdp rfl) (by show un + 3 + 900 < cLine; exact room2 hun rfl) o1 o2 o3 o4 ha hh hp (by (first | (apply ap_x; assumption; (repeat constructor); done) | (refine Nat.ne_of_gt ?_; simp only [*]; done) | (refine Nat.ne_of_lt ?_; simp only [*]; done) | ((fail_if_success (fail_if_success omega (config := {}))); (first | with_reducible assumption | decide | lia | omega (config := {}))))) (by (first | (apply ap_x; assumption; (repeat constructor); done) | (refine Nat.ne_of_gt ?_; simp only [*]; done) | (refine Nat.ne_of_lt ?_; simp only [*]; done) | ((fail_if_success (fail_if_success omega (config := {}))); (first | with_reducible assumption | decide | lia | omega (config := {}))))) ?_)
  intro h5 tk5 avs5 na5 hvs5 nh5 pvs5 np5 ha5 hh5 hp5 F5 N5 K5
  have N6 := news_re N4 (by repeat (first | exact Rest.nil | (apply Rest.keep; focus ((repeat (first | exact off_nil | (refine off_cons ?_ ?_; focus (first | (apply ap_x; assumption; (repeat constructor); done) | (refine Nat.ne_of_gt ?_; simp only [*]; done) | (refine Nat.ne_of_lt ?_; simp only [*]; done) | ((fail_if_success (fail_if_success omega (config := {}))); (first | with_reducible assumption | decide | lia | omega (config := {}))))))); done)) | apply Rest.skip)) K5 N5
  dsimp only [List.cons_append, List.nil_append] at N6
  clear F4 N4 N5 K5
  (repeat' (first | (k_unfold; (try dsimp only)) | (k_end; wrow_close) | ((with_reducible show wpAny _ _ (newTuple _) _ _ _); k_here; k_dflt (refine' newTuple_R ?F ?N ?_ ?z; (case F => k_asm); (case N => k_asm); (case z => kmk_size)); intro _ _ _ _ zl zm; (try k_lt zl); (revert zl zm; intro _ _); (try k_sweep)) | ((with_reducible show wpAny _ _ (exec (Stmt.Assign [Expr.Tuple _ _ _] _ _) _) _ _ _); refine Assign_Tuple_swapped (names := [Str.ofString "some", Str.ofString "spots"]) ?_ (by rfl) (by rfl)) | walk1 | (dsimp only; walk1) | (leave1; walk_say "STEP leave1"; try dsimp only) | fail "no step"))
  rename_i sl e1 e2 e3 e4 e5 e6 e7 e8 e9 e10 e11
  have lsl := ‹@LT.lt Nat _ x sl ∧ _›
  have ap := ap_cons ap (by repeat (first | exact True.intro | (refine And.intro (by (first | exact lsl.1 | exact lsl.2.1 | exact lsl.2.2.1 | exact lsl.2.2.2.1 | exact lsl.2.2.2.2.1 | exact lsl.2.2.2.2.2.1 | exact lsl.2.2.2.2.2.2.1 | exact lsl.2.2.2.2.2.2.2.1 | exact lsl.2.2.2.2.2.2.2.2.1 | exact lsl.2.2.2.2.2.2.2.2.2.1 | exact lsl.2.2.2.2.2.2.2.2.2.2.1 | exact lsl.2.2.2.2.2.2.2.2.2.2.2.1 | exact lsl.2.2.2.2.2.2.2.2.2.2.2.2.1 | exact lsl.2.2.2.2.2.2.2.2.2.2.2.2.2.1 | exact lsl | exact lsl.2 | exact lsl.2.2 | exact lsl.2.2.2 | exact lsl.2.2.2.2 | exact lsl.2.2.2.2.2 | exact lsl.2.2.2.2.2.2 | exact lsl.2.2.2.2.2.2.2 | exact lsl.2.2.2.2.2.2.2.2 | exact lsl.2.2.2.2.2.2.2.2.2 | exact lsl.2.2.2.2.2.2.2.2.2.2 | exact lsl.2.2.2.2.2.2.2.2.2.2.2 | exact lsl.2.2.2.2.2.2.2.2.2.2.2.2 | exact lsl.2.2.2.2.2.2.2.2.2.2.2.2.2)) ?_)))
  replace ha5 : IntsAre avs5 (List.replicate 64 0) := ha5
  replace hh5 : IntsAre hvs5 (upto 63) := hh5
  replace hp5 : IntsAre pvs5 (places 63) := hp5
  obtain ⟨m9, F9⟩ := fr_canon (ps := [(Str.ofString "some", .ref x), (Str.ofString "spots", .ref sl), (Str.ofString "way", .int wn t1), (Str.ofString "steps", .int sn t2)]) F5 (by kst_all)
  have N9 : News g' L' _ [(sl, oList [.int 0 tk3] 0), (x, instObj 144 dx), (dx, oDict D al hl pl), (al, oList avs5 na5), (hl, oList hvs5 nh5), (pl, oList pvs5 np5)] := news_sub N6 (by (first | ((repeat (first | exact sub_nil | refine sub_cons 0 rfl ?_ | refine sub_cons 1 rfl ?_ | refine sub_cons 2 rfl ?_ | refine sub_cons 3 rfl ?_ | refine sub_cons 4 rfl ?_ | refine sub_cons 5 rfl ?_ | refine sub_cons 6 rfl ?_ | refine sub_cons 7 rfl ?_ | refine sub_cons 8 rfl ?_ | refine sub_cons 9 rfl ?_ | refine sub_cons 10 rfl ?_ | refine sub_cons 11 rfl ?_ | refine sub_cons 12 rfl ?_ | refine sub_cons 13 rfl ?_)); done) | kcf_all))
  clear F5 N6 e10 e11
  refine stop_go (For_turns F9 ?_)
  (repeat' (first | (k_unfold; (try dsimp only)) | (k_end; wrow_close) | ((with_reducible show wpAny _ _ (newTuple _) _ _ _); k_here; k_dflt (refine' newTuple_R ?F ?N ?_ ?z; (case F => k_asm); (case N => k_asm); (case z => kmk_size)); intro _ _ _ _ zl zm; (try k_lt zl); (revert zl zm; intro _ _); (try k_sweep)) | ((with_reducible show wpAny _ _ (exec (Stmt.Assign [Expr.Tuple _ _ _] _ _) _) _ _ _); refine Assign_Tuple_swapped (names := [Str.ofString "some", Str.ofString "spots"]) ?_ (by rfl) (by rfl)) | walk1 | (dsimp only; walk1) | (leave1; walk_say "STEP leave1"; try dsimp only) | fail "no step"))
  rename_i hR hF hN hK
  refine stop_go (iter_rangeR (n := 5) (by rfl) hF hN hR (by decide) (by rfl) fun I lI => ?_)
  have lI' := allLt_of lI
  dsimp only [AllLt] at lI'
  have ap := ap_cons ap (by repeat (first | exact True.intro | (refine And.intro (by (first | exact lI'.1 | exact lI'.2.1 | exact lI'.2.2.1 | exact lI'.2.2.2.1 | exact lI'.2.2.2.2.1 | exact lI'.2.2.2.2.2.1 | exact lI'.2.2.2.2.2.2.1 | exact lI'.2.2.2.2.2.2.2.1 | exact lI'.2.2.2.2.2.2.2.2.1 | exact lI'.2.2.2.2.2.2.2.2.2.1 | exact lI'.2.2.2.2.2.2.2.2.2.2.1 | exact lI'.2.2.2.2.2.2.2.2.2.2.2.1 | exact lI'.2.2.2.2.2.2.2.2.2.2.2.2.1 | exact lI'.2.2.2.2.2.2.2.2.2.2.2.2.2.1 | exact lI' | exact lI'.2 | exact lI'.2.2 | exact lI'.2.2.2 | exact lI'.2.2.2.2 | exact lI'.2.2.2.2.2 | exact lI'.2.2.2.2.2.2 | exact lI'.2.2.2.2.2.2.2 | exact lI'.2.2.2.2.2.2.2.2 | exact lI'.2.2.2.2.2.2.2.2.2 | exact lI'.2.2.2.2.2.2.2.2.2.2 | exact lI'.2.2.2.2.2.2.2.2.2.2.2 | exact lI'.2.2.2.2.2.2.2.2.2.2.2.2 | exact lI'.2.2.2.2.2.2.2.2.2.2.2.2.2)) ?_)))
  obtain ⟨Inv1, hInv1⟩ : ∃ I : Nat → (Str → Option Value) → List (Addr × Obj) → Prop, Hide ((∀ (i : Nat) (m₁ : Str → Option Value) (nw : List (Addr × Obj)), (∃ m', m₁ = kstB m' [(Str.ofString "some", .ref x), (Str.ofString "spots", .ref sl), (Str.ofString "way", .int wn t1), (Str.ofString "steps", .int sn t2)]) → ∀ svs sn', nw = [(sl, oList svs sn'), (x, instObj 144 dx), (dx, oDict D al hl pl), (al, oList avs5 na5), (hl, oList hvs5 nh5), (pl, oList pvs5 np5)] → (IntsAre svs (((List.range i).map fun (j : Nat) => (sp wn j : Int)) ++ [(sp wn i : Int)])) → I i m₁ nw) ∧ (∀ (i : Nat) (C : (Str → Option Value) → List (Addr × Obj) → Prop), (∀ m' svs sn', (IntsAre svs (((List.range i).map fun (j : Nat) => (sp wn j : Int)) ++ [(sp wn i : Int)])) → C (kstB m' [(Str.ofString "some", .ref x), (Str.ofString "spots", .ref sl), (Str.ofString "way", .int wn t1), (Str.ofString "steps", .int sn t2)]) [(sl, oList svs sn'), (x, instObj 144 dx), (dx, oDict D al hl pl), (al, oList avs5 na5), (hl, oList hvs5 nh5), (pl, oList pvs5 np5)]) → ∀ m₁ nw, I i m₁ nw → C m₁ nw)) := ⟨fun i m₁ nw => (∃ m', m₁ = kstB m' [(Str.ofString "some", .ref x), (Str.ofString "spots", .ref sl), (Str.ofString "way", .int wn t1), (Str.ofString "steps", .int sn t2)]) ∧ ∃ svs sn', nw = [(sl, oList svs sn'), (x, instObj 144 dx), (dx, oDict D al hl pl), (al, oList avs5 na5), (hl, oList hvs5 nh5), (pl, oList pvs5 np5)] ∧ IntsAre svs (((List.range i).map fun (j : Nat) => (sp wn j : Int)) ++ [(sp wn i : Int)]), fun i m₁ nw h0 svs sn' h1 g0 => ⟨h0, svs, sn', h1, g0⟩, by rintro i C k m₁ nw ⟨⟨m', rfl⟩, svs, sn', rfl, g0⟩; exact k m' svs sn' g0⟩
  refine items_inv Inv1 (hInv1.out.1 _ _ _ ⟨m9, rfl⟩ ([.int 0 tk3]) 0 rfl (.cons 0 tk3 .nil)) ?_ ?_
  · rintro i a m₁ nw v1 hh1 tk1 hxa hinv hav
    revert m₁ nw hinv
    refine hInv1.out.2 _ _ ?_
    intro m' svs sn' hs F1
    revert a v1 hxa hav
    refine rng_elim ?_
    intro hi tt
    refine AllObj.cons fun oI hcI => AllObj.nil fun N1 => ?_
    dsimp only [List.cons_append, List.nil_append] at N1
    have lvs := IntsAre.length hs
    rw [List.length_append, List.length_map, List.length_range, List.length_singleton] at lvs
    try k_fold
    (repeat' (first | (k_unfold; (try dsimp only)) | (k_end; wrow_close) | ((with_reducible show wpAny _ _ (newTuple _) _ _ _); k_here; k_dflt (refine' newTuple_R ?F ?N ?_ ?z; (case F => k_asm); (case N => k_asm); (case z => kmk_size)); intro _ _ _ _ zl zm; (try k_lt zl); (revert zl zm; intro _ _); (try k_sweep)) | ((with_reducible show wpAny _ _ (exec (Stmt.Assign [Expr.Tuple _ _ _] _ _) _) _ _ _); refine Assign_Tuple_swapped (names := [Str.ofString "some", Str.ofString "spots"]) ?_ (by rfl) (by rfl)) | walk1 | (dsimp only; walk1) | (leave1; walk_say "STEP leave1"; try dsimp only) | fail "no step"))
    have N8 := ‹News g' L' _ _›
    have F8 := ‹Fr g' L' _ _›
    try dsimp only at F8 N8
    simp only [List.push_toArray, sp_next] at N8
    refine stop_go (UnrEndW.intro F8 N8 [(sl, oList _ _), (x, instObj 144 dx), (dx, oDict D al hl pl), (al, oList avs5 na5), (hl, oList hvs5 nh5), (pl, oList pvs5 np5)] (by k_subL) (by k_subL) (by ktu_offL) ⟨by k_subL, hInv1.out.1 _ _ _ (canon (by kst_all)) _ _ rfl ?_⟩)
    rw [List.range_succ, List.map_append]
    exact IntsAre.append hs (.cons _ _ .nil)
  · rintro m₁ nw hh1 tk1 hinv
    revert m₁ nw hinv
    refine hInv1.out.2 _ _ ?_
    intro m' svs sn' hs F1 N1
    have hs' : IntsAre svs [(sp wn 0 : Int), (sp wn 1 : Int), (sp wn 2 : Int), (sp wn 3 : Int), (sp wn 4 : Int), (sp wn 5 : Int)] := hs
    obtain ⟨u0, u1, u2, u3, u4, u5, rfl⟩ := ints6 hs'
    clear hs
    have w1 := upto_length 63
    have lv2 := IntsAre.length hh5
    have lv3 := IntsAre.length hp5
    dsimp only
    (repeat' (first | (k_unfold; (try dsimp only)) | (k_end; wrow_close) | ((with_reducible show wpAny _ _ (newTuple _) _ _ _); k_here; k_dflt (refine' newTuple_R ?F ?N ?_ ?z; (case F => k_asm); (case N => k_asm); (case z => kmk_size)); intro _ _ _ _ zl zm; (try k_lt zl); (revert zl zm; intro _ _); (try k_sweep)) | ((with_reducible show wpAny _ _ (exec (Stmt.Assign [Expr.Tuple _ _ _] _ _) _) _ _ _); refine Assign_Tuple_swapped (names := [Str.ofString "some", Str.ofString "spots"]) ?_ (by rfl) (by rfl)) | walk1 | (dsimp only; walk1) | (leave1; walk_say "STEP leave1"; try dsimp only) | fail "no step"))
    obtain ⟨Inv2, hInv2⟩ : ∃ I : Nat → (Str → Option Value) → List (Addr × Obj) → Prop, Hide ((∀ (i : Nat) (m₁ : Str → Option Value) (nw : List (Addr × Obj)), (∃ m', m₁ = kstB m' [(Str.ofString "some", .ref x), (Str.ofString "spots", .ref sl), (Str.ofString "way", .int wn t1), (Str.ofString "steps", .int sn t2)]) → ∀ avs an, nw = [(sl, oList [.int (sp wn 0 : Int) u0, .int (sp wn 1 : Int) u1, .int (sp wn 2 : Int) u2, .int (sp wn 3 : Int) u3, .int (sp wn 4 : Int) u4, .int (sp wn 5 : Int) u5] sn'), (x, instObj 144 dx), (dx, oDict D al hl pl), (al, oList avs an), (hl, oList hvs5 nh5), (pl, oList pvs5 np5)] → (IntsAre avs (actF wn i)) → I i m₁ nw) ∧ (∀ (i : Nat) (C : (Str → Option Value) → List (Addr × Obj) → Prop), (∀ m' avs an, (IntsAre avs (actF wn i)) → C (kstB m' [(Str.ofString "some", .ref x), (Str.ofString "spots", .ref sl), (Str.ofString "way", .int wn t1), (Str.ofString "steps", .int sn t2)]) [(sl, oList [.int (sp wn 0 : Int) u0, .int (sp wn 1 : Int) u1, .int (sp wn 2 : Int) u2, .int (sp wn 3 : Int) u3, .int (sp wn 4 : Int) u4, .int (sp wn 5 : Int) u5] sn'), (x, instObj 144 dx), (dx, oDict D al hl pl), (al, oList avs an), (hl, oList hvs5 nh5), (pl, oList pvs5 np5)]) → ∀ m₁ nw, I i m₁ nw → C m₁ nw)) := ⟨fun i m₁ nw => (∃ m', m₁ = kstB m' [(Str.ofString "some", .ref x), (Str.ofString "spots", .ref sl), (Str.ofString "way", .int wn t1), (Str.ofString "steps", .int sn t2)]) ∧ ∃ avs an, nw = [(sl, oList [.int (sp wn 0 : Int) u0, .int (sp wn 1 : Int) u1, .int (sp wn 2 : Int) u2, .int (sp wn 3 : Int) u3, .int (sp wn 4 : Int) u4, .int (sp wn 5 : Int) u5] sn'), (x, instObj 144 dx), (dx, oDict D al hl pl), (al, oList avs an), (hl, oList hvs5 nh5), (pl, oList pvs5 np5)] ∧ IntsAre avs (actF wn i), fun i m₁ nw h0 avs an h1 g0 => ⟨h0, avs, an, h1, g0⟩, by rintro i C k m₁ nw ⟨⟨m', rfl⟩, avs, an, rfl, g0⟩; exact k m' avs an g0⟩
    refine items_inv Inv2 (hInv2.out.1 _ _ _ ⟨m', rfl⟩ _ _ rfl ha5) ?_ ?_
    · rintro i a m₁ nw v1 hh1 tk1 hxa hinv hav
      revert m₁ nw hinv
      refine hInv2.out.2 _ _ ?_
      intro m2 avs an hact F1
      obtain ⟨hi6, uu, rfl⟩ := enum6 hxa
      obtain ⟨T, tt, rfl, hT⟩ := hav
      have lva := IntsAre.length hact
      rw [actF_len] at lva
      have gb := sp_lt63 wn hi6
      have g1 := spot_bound wn i gb
      have e9 : (((upto 63).getD ((sp wn i : Int)).toNat 0)).toNat = sp wn i + 1 := by rw [upto_at gb]; (first | (apply ap_x; assumption; (repeat constructor); done) | (refine Nat.ne_of_gt ?_; simp only [*]; done) | (refine Nat.ne_of_lt ?_; simp only [*]; done) | ((fail_if_success (fail_if_success omega (config := {}))); (first | with_reducible assumption | decide | lia | omega (config := {}))))
      refine AllObj.cons fun z1 y1 => AllObj.cons fun z2 y2 => AllObj.nil fun N1 => ?_
      dsimp only [List.cons_append, List.nil_append] at N1
      dsimp only at hT y1 y2 N1
      try k_fold
      (repeat' (first | (k_unfold; (try dsimp only)) | (k_end; wrow_close) | ((with_reducible show wpAny _ _ (newTuple _) _ _ _); k_here; k_dflt (refine' newTuple_R ?F ?N ?_ ?z; (case F => k_asm); (case N => k_asm); (case z => kmk_size)); intro _ _ _ _ zl zm; (try k_lt zl); (revert zl zm; intro _ _); (try k_sweep)) | ((with_reducible show wpAny _ _ (exec (Stmt.Assign [Expr.Tuple _ _ _] _ _) _) _ _ _); refine Assign_Tuple_swapped (names := [Str.ofString "some", Str.ofString "spots"]) ?_ (by rfl) (by rfl)) | walk1 | (dsimp only; walk1) | (leave1; walk_say "STEP leave1"; try dsimp only) | fail "no step"))
      have N8 := ‹News g' L' _ _›
      have F8 := ‹Fr g' L' _ _›
      try dsimp only at F8 N8
      have hi8 := ‹IntsAre (avs.set _ _) _›
      rw [e9] at hi8 N8
      refine stop_go (UnrEndW.intro F8 N8 [(sl, oList _ sn'), (x, instObj 144 dx), (dx, oDict D al hl pl), (al, oList _ _), (hl, oList hvs5 nh5), (pl, oList pvs5 np5)] (by k_subL) (by k_subL) (by ktu_offL) ⟨by k_subL, hInv2.out.1 _ _ _ (canon (by kst_all)) _ _ rfl hi8⟩)
    · rintro m₁ nw hh2 tk2 hinv
      revert m₁ nw hinv
      refine hInv2.out.2 _ _ ?_
      intro m2 avs an hact F1 N1
      have hact : IntsAre avs (actF wn 6) := hact
      have lva := IntsAre.length hact
      rw [actF_len] at lva
      have gb := sp_lt63 wn (i := 5) (by decide)
      have g1 := spot_bound wn 5 gb
      have e9 : (((upto 63).getD ((sp wn 5 : Int)).toNat 0)).toNat = sp wn 5 + 1 := by rw [upto_at gb]; (first | (apply ap_x; assumption; (repeat constructor); done) | (refine Nat.ne_of_gt ?_; simp only [*]; done) | (refine Nat.ne_of_lt ?_; simp only [*]; done) | ((fail_if_success (fail_if_success omega (config := {}))); (first | with_reducible assumption | decide | lia | omega (config := {}))))
      have e5 : [(sp wn 0 : Int), (sp wn 1 : Int), (sp wn 2 : Int), (sp wn 3 : Int), (sp wn 4 : Int), (sp wn 5 : Int)].getD (Int.toNat 5) 0 = (sp wn 5 : Int) := rfl
      dsimp only
      (repeat' (first | (k_unfold; (try dsimp only)) | (k_end; wrow_close) | ((with_reducible show wpAny _ _ (newTuple _) _ _ _); k_here; k_dflt (refine' newTuple_R ?F ?N ?_ ?z; (case F => k_asm); (case N => k_asm); (case z => kmk_size)); intro _ _ _ _ zl zm; (try k_lt zl); (revert zl zm; intro _ _); (try k_sweep)) | ((with_reducible show wpAny _ _ (exec (Stmt.Assign [Expr.Tuple _ _ _] _ _) _) _ _ _); refine Assign_Tuple_swapped (names := [Str.ofString "some", Str.ofString "spots"]) ?_ (by rfl) (by rfl)) | walk1 | (dsimp only; walk1) | (leave1; walk_say "STEP leave1"; try dsimp only) | fail "no step"))
      rw [e5]
      (repeat' (first | (k_unfold; (try dsimp only)) | (k_end; wrow_close) | ((with_reducible show wpAny _ _ (newTuple _) _ _ _); k_here; k_dflt (refine' newTuple_R ?F ?N ?_ ?z; (case F => k_asm); (case N => k_asm); (case z => kmk_size)); intro _ _ _ _ zl zm; (try k_lt zl); (revert zl zm; intro _ _); (try k_sweep)) | ((with_reducible show wpAny _ _ (exec (Stmt.Assign [Expr.Tuple _ _ _] _ _) _) _ _ _); refine Assign_Tuple_swapped (names := [Str.ofString "some", Str.ofString "spots"]) ?_ (by rfl) (by rfl)) | walk1 | (dsimp only; walk1) | (leave1; walk_say "STEP leave1"; try dsimp only) | fail "no step"))
      rw [e5]
      (repeat' (first | (k_unfold; (try dsimp only)) | (k_end; wrow_close) | ((with_reducible show wpAny _ _ (newTuple _) _ _ _); k_here; k_dflt (refine' newTuple_R ?F ?N ?_ ?z; (case F => k_asm); (case N => k_asm); (case z => kmk_size)); intro _ _ _ _ zl zm; (try k_lt zl); (revert zl zm; intro _ _); (try k_sweep)) | ((with_reducible show wpAny _ _ (exec (Stmt.Assign [Expr.Tuple _ _ _] _ _) _) _ _ _); refine Assign_Tuple_swapped (names := [Str.ofString "some", Str.ofString "spots"]) ?_ (by rfl) (by rfl)) | walk1 | (dsimp only; walk1) | (leave1; walk_say "STEP leave1"; try dsimp only) | fail "no step"))
      have N8 := ‹News g' L' _ _›
      have F8 := ‹Fr g' L' _ _›
      try dsimp only at F8 N8 ⊢
      have hi8 := ‹IntsAre (avs.set _ _) _›
      rw [e9] at hi8 N8
      have hi9 : IntsAre _ (actM wn sn) := hi8
      have lm := actM_len wn sn
      obtain ⟨b1, b2, b3, b4, b5⟩ := foot_ok (w := wn) (s := sn) (by (first | (apply ap_x; assumption; (repeat constructor); done) | (refine Nat.ne_of_gt ?_; simp only [*]; done) | (refine Nat.ne_of_lt ?_; simp only [*]; done) | ((fail_if_success (fail_if_success omega (config := {}))); (first | with_reducible assumption | decide | lia | omega (config := {}))))) (by (first | (apply ap_x; assumption; (repeat constructor); done) | (refine Nat.ne_of_gt ?_; simp only [*]; done) | (refine Nat.ne_of_lt ?_; simp only [*]; done) | ((fail_if_success (fail_if_success omega (config := {}))); (first | with_reducible assumption | decide | lia | omega (config := {})))))
      have b2l := b2.len
      have b2p := b2.placeOK
      have b2r := b2.range
      refine stop_go (risen_spec (spot := (sp wn 5 : Int)) C' F8 (cb_drop N8 (by (first | ((repeat (first | exact sub_nil | refine sub_cons 0 rfl ?_ | refine sub_cons 1 rfl ?_ | refine sub_cons 2 rfl ?_ | refine sub_cons 3 rfl ?_ | refine sub_cons 4 rfl ?_ | refine sub_cons 5 rfl ?_ | refine sub_cons 6 rfl ?_ | refine sub_cons 7 rfl ?_ | refine sub_cons 8 rfl ?_ | refine sub_cons 9 rfl ?_ | refine sub_cons 10 rfl ?_ | refine sub_cons 11 rfl ?_ | refine sub_cons 12 rfl ?_ | refine sub_cons 13 rfl ?_)); done) | kcf_all))) (by show dp + 1 + 100 < recursionLimit; exact room2 hdp rfl) (by show un + 3 + 500 < cLine; exact room2 hun rfl) o1 o2 o3 o4 hi9 hh5 hp5 (by (first | (apply ap_x; assumption; (repeat constructor); done) | (refine Nat.ne_of_gt ?_; simp only [*]; done) | (refine Nat.ne_of_lt ?_; simp only [*]; done) | ((fail_if_success (fail_if_success omega (config := {}))); (first | with_reducible assumption | decide | lia | omega (config := {}))))) (by (first | (apply ap_x; assumption; (repeat constructor); done) | (refine Nat.ne_of_gt ?_; simp only [*]; done) | (refine Nat.ne_of_lt ?_; simp only [*]; done) | ((fail_if_success (fail_if_success omega (config := {}))); (first | with_reducible assumption | decide | lia | omega (config := {}))))) (by (first | (apply ap_x; assumption; (repeat constructor); done) | (refine Nat.ne_of_gt ?_; simp only [*]; done) | (refine Nat.ne_of_lt ?_; simp only [*]; done) | ((fail_if_success (fail_if_success omega (config := {}))); (first | with_reducible assumption | decide | lia | omega (config := {}))))) (by rw [lm]; exact places_length 63) (by (first | (apply ap_x; assumption; (repeat constructor); done) | (refine Nat.ne_of_gt ?_; simp only [*]; done) | (refine Nat.ne_of_lt ?_; simp only [*]; done) | ((fail_if_success (fail_if_success omega (config := {}))); (first | with_reducible assumption | decide | lia | omega (config := {}))))) (by (first | (apply ap_x; assumption; (repeat constructor); done) | (refine Nat.ne_of_gt ?_; simp only [*]; done) | (refine Nat.ne_of_lt ?_; simp only [*]; done) | ((fail_if_success (fail_if_success omega (config := {}))); (first | with_reducible assumption | decide | lia | omega (config := {}))))) (upto_range 63 (by rw [lm]; decide)) b1 (by rw [lm]; exact b2l) (by rw [lm]; exact b2p) ?_)
      intro h10 tk10 hvs10 nh10 pvs10 np10 hh10 hp10 F10 N10 K10
      have N11 := news_re N8 (by repeat (first | exact Rest.nil | (apply Rest.keep; focus ((repeat (first | exact off_nil | (refine off_cons ?_ ?_; focus (first | (apply ap_x; assumption; (repeat constructor); done) | (refine Nat.ne_of_gt ?_; simp only [*]; done) | (refine Nat.ne_of_lt ?_; simp only [*]; done) | ((fail_if_success (fail_if_success omega (config := {}))); (first | with_reducible assumption | decide | lia | omega (config := {}))))))); done)) | apply Rest.skip)) K10 N10
      dsimp only [List.cons_append, List.nil_append] at N11
      clear F8 N8 N10 K10
      replace hh10 : IntsAre hvs10 (dueL (actM wn sn) (upto 63) (sp wn 5)) := hh10
      have lv10 := IntsAre.length hh10
      have e6 := sp6 (w := wn) (s := sn) (by (first | (apply ap_x; assumption; (repeat constructor); done) | (refine Nat.ne_of_gt ?_; simp only [*]; done) | (refine Nat.ne_of_lt ?_; simp only [*]; done) | ((fail_if_success (fail_if_success omega (config := {}))); (first | with_reducible assumption | decide | lia | omega (config := {})))))
      have g6 := sp_lt63 wn (i := 5 - sn) (by (first | (apply ap_x; assumption; (repeat constructor); done) | (refine Nat.ne_of_gt ?_; simp only [*]; done) | (refine Nat.ne_of_lt ?_; simp only [*]; done) | ((fail_if_success (fail_if_success omega (config := {}))); (first | with_reducible assumption | decide | lia | omega (config := {})))))
      have b6 : (dueL (actM wn sn) (upto 63) (sp wn 5)).getD ([(sp wn 0 : Int), (sp wn 1 : Int), (sp wn 2 : Int), (sp wn 3 : Int), (sp wn 4 : Int), (sp wn 5 : Int)].getD ((5 : Int) - (sn : Int)).toNat 0).toNat 0 = (upto 63).getD ([(sp wn 0 : Int), (sp wn 1 : Int), (sp wn 2 : Int), (sp wn 3 : Int), (sp wn 4 : Int), (sp wn 5 : Int)].getD (Int.toNat 5) 0).toNat 0 := by
        rw [e6, Int.toNat_natCast, b5, e5, upto_at gb]
        rfl
      (repeat' (first | (k_unfold; (try dsimp only)) | (k_end; wrow_close) | ((with_reducible show wpAny _ _ (newTuple _) _ _ _); k_here; k_dflt (refine' newTuple_R ?F ?N ?_ ?z; (case F => k_asm); (case N => k_asm); (case z => kmk_size)); intro _ _ _ _ zl zm; (try k_lt zl); (revert zl zm; intro _ _); (try k_sweep)) | ((with_reducible show wpAny _ _ (exec (Stmt.Assign [Expr.Tuple _ _ _] _ _) _) _ _ _); refine Assign_Tuple_swapped (names := [Str.ofString "some", Str.ofString "spots"]) ?_ (by rfl) (by rfl)) | walk1 | (dsimp only; walk1) | (leave1; walk_say "STEP leave1"; try dsimp only) | fail "no step"))
      · have N12 := ‹News g' L' _ _›
        have F12 := ‹Fr g' L' _ _›
        try dsimp only at F12 N12 ⊢
        refine stop_go (ordered_spec C' F12 (cb_drop N12 (by (first | ((repeat (first | exact sub_nil | refine sub_cons 0 rfl ?_ | refine sub_cons 1 rfl ?_ | refine sub_cons 2 rfl ?_ | refine sub_cons 3 rfl ?_ | refine sub_cons 4 rfl ?_ | refine sub_cons 5 rfl ?_ | refine sub_cons 6 rfl ?_ | refine sub_cons 7 rfl ?_ | refine sub_cons 8 rfl ?_ | refine sub_cons 9 rfl ?_ | refine sub_cons 10 rfl ?_ | refine sub_cons 11 rfl ?_ | refine sub_cons 12 rfl ?_ | refine sub_cons 13 rfl ?_)); done) | kcf_all))) (by show dp + 1 + 60 < recursionLimit; exact room2 hdp rfl) (by show un + 3 + 300 < cLine; exact room2 hun rfl) o1 o2 o3 o4 hi9 hh10 (by (first | (apply ap_x; assumption; (repeat constructor); done) | (refine Nat.ne_of_gt ?_; simp only [*]; done) | (refine Nat.ne_of_lt ?_; simp only [*]; done) | ((fail_if_success (fail_if_success omega (config := {}))); (first | with_reducible assumption | decide | lia | omega (config := {}))))) (by (first | (apply ap_x; assumption; (repeat constructor); done) | (refine Nat.ne_of_gt ?_; simp only [*]; done) | (refine Nat.ne_of_lt ?_; simp only [*]; done) | ((fail_if_success (fail_if_success omega (config := {}))); (first | with_reducible assumption | decide | lia | omega (config := {}))))) (by decide) (by (first | (apply ap_x; assumption; (repeat constructor); done) | (refine Nat.ne_of_gt ?_; simp only [*]; done) | (refine Nat.ne_of_lt ?_; simp only [*]; done) | ((fail_if_success (fail_if_success omega (config := {}))); (first | with_reducible assumption | decide | lia | omega (config := {}))))) (by rw [lm]; exact b2r) b3 ?_)
        intro h13 tk13 F13 K13
        have N14 := news_all N12 K13
        clear F12 N12 K13
        (repeat' (first | (k_unfold; (try dsimp only)) | (k_end; wrow_close) | ((with_reducible show wpAny _ _ (newTuple _) _ _ _); k_here; k_dflt (refine' newTuple_R ?F ?N ?_ ?z; (case F => k_asm); (case N => k_asm); (case z => kmk_size)); intro _ _ _ _ zl zm; (try k_lt zl); (revert zl zm; intro _ _); (try k_sweep)) | ((with_reducible show wpAny _ _ (exec (Stmt.Assign [Expr.Tuple _ _ _] _ _) _) _ _ _); refine Assign_Tuple_swapped (names := [Str.ofString "some", Str.ofString "spots"]) ?_ (by rfl) (by rfl)) | walk1 | (dsimp only; walk1) | (leave1; walk_say "STEP leave1"; try dsimp only) | fail "no step"))
        have kN9 := ‹News h₀ L _ _›
        have kP9 := ‹Kept s.heap _ _›
        exact k _ _ (by assumption) (fun b o e => kP9 b o e (by simp))
      · exact absurd b6 (by assumption)
end
section
local macro_rules | `(tactic| walk_at "exec For Name Call cons nil") => `(tactic| apply stop_of)
local macro_rules | `(tactic| walk_at "exec For Tuple Call cons nil") => `(tactic| apply stop_of)
local macro_rules | `(tactic| walk_at "pyIter ref") => `(tactic| apply stop_of)
local macro_rules | `(tactic| walk_at "UnrEndW") => `(tactic| apply stop_of)
local macro_rules | `(tactic| walk_at "ItemsRest") => `(tactic| apply stop_of)
local macro_rules | `(tactic| walk_at "CompSrcT") => `(tactic| apply stop_of)
local macro_rules | `(tactic| walk_at "CompSrc") => `(tactic| apply stop_of)
local macro_rules | `(tactic| walk_at "CompEnd") => `(tactic| apply stop_of)
local macro_rules | `(tactic| walk_at "SrcLP") => `(tactic| apply stop_of)
local macro_rules | `(tactic| walk_at "exec Assign cons ListComp") => `(tactic| apply stop_of)
local macro_rules | `(tactic| walk_at "call builtin:sorted") => `(tactic| apply stop_of)
-- RgE4

/-- the law's own body and its scope: read off the row -/
noncomputable def tail0 : { p : List Stmt × Scope // ∃ a b d r tp ts bd ps, PySem.Challenge.rw_rg0205_01.row.prog.main.body.getLast? = some (.FunctionDef a b p.1 d r tp p.2 ts bd ps) } := ⟨(_, _), ⟨_, _, _, _, _, _, _, _, rfl⟩⟩
noncomputable def tail12 : List Stmt × Scope := (tail0.1.1.drop 12, tail0.1.2)

theorem due_law {w : World} {outer : List Env} {fa L : Addr} {wc : Value} {h₀ : Heap} {m' : Str → Option Value} {dp un : Nat} {gd : Option (List Code)} {s : Shared} {Q : Flow → Shared → Prop} {E : Value → Shared → Prop}
    {sa dS x dx al hn2 pn D9 rl2 : Addr} {D : DP} {rn q : Nat} {tk8 tkS ta : Tok} {sc cn : Int} {avs hvs pvs ys rvs2 : List Value} {an hnn pnn : Nat} {od oR2 oC : Obj} {act H P R cells : List Int}
    (C' : Cx w (envOfC (Str.ofString "law") tail12.2 L fa wc) outer L h₀) (F1 : Fr h₀ L s.heap (kstB m' [(Str.ofString "script", .ref sa), (Str.ofString "salt", .ref dS), (Str.ofString "many", .int (1 + (rn : Int)) tk8), (Str.ofString "scale", .int sc tkS)])) (N1 : News h₀ L s.heap [(x, instObj 144 dx), (dx, oDict D al hn2 pn), (al, oList avs an), (hn2, oList hvs hnn), (pn, oList pvs pnn), (D9, oList ys ys.length), (dS, od), (rl2, oList rvs2 0), (L + 1 + 1, oR2), (L + 1, oC)])
    (dR : oR2.data = Data.cell (some (.ref rl2))) (dC : oC.data = Data.cell (some (.ref x)))
    (hdp : dp + 500 < recursionLimit) (hun : un + 2500 < cLine)
    (hact : IntsAre avs act) (hH : IntsAre hvs H) (hP : IntsAre pvs P) (hal : act.length = rn + 2) (hrn : rn < 12) (hG : Good (rn + 2) H P) (hHR : H.Perm R) (hO : Ord act H H.length)
    (hod : od.IsDictOf (strKind PySem.Challenge.rw_rg0205_01.row.prog w) [(Str.ofString "cells", .ref D9), (Str.ofString "at", .int cn ta)]) (hcn0 : 0 ≤ cn) (hcn3 : cn ≤ 46) (hys' : IntsAre ys cells) (hcl : cells.length ≤ 1000)
    (hI2 : IntsAre rvs2 R) (hRl : R.length = q) (hRn : R.Nodup) (hRm : ∀ v ∈ R, 1 ≤ v ∧ v ≤ ((rn + 1 : Nat) : Int)) (hq1 : 1 ≤ q) (hq2 : q ≤ rn + 1)
    (ap : Apart [pn, hn2, rl2, al, x, dx, D9, dS, L + 1 + 1, L + 1]) (o1 : Hide (@LT.lt Nat _ dx x)) (o2 : Hide (@LT.lt Nat _ x al)) (o3 : Hide (@LT.lt Nat _ al hn2)) (o5 : Hide (@LT.lt Nat _ hn2 pn))
    (k : ∀ h' tk' m', Fr h₀ L h' m' → Q (.ret (.bool true)) { s with heap := h', toks := tk' }) :
    wpAny (model PySem.Challenge.rw_rg0205_01.row.prog w) ⟨none, dp, some ((envOfC (Str.ofString "law") tail12.2 L fa wc) :: outer), gd, un⟩ (execs tail12.1 (envOfC (Str.ofString "law") tail12.2 L fa wc)) Q E s := by
  refine cx_elim C' fun A₀ base mean mg mb B X T hf hke => ?_
  revert X
  k_fill
  intro X
  replace hdp := hide_of hdp
  replace hun := hide_of hun
  unfold tail12 tail0 at *
  dsimp only [List.drop] at *
  have lvR := IntsAre.length hI2
  have hlH := hHR.length_eq
  have lvA := IntsAre.length hact
  have lvH := IntsAre.length hH
  have lvP := IntsAre.length hP
  (repeat' (first | (k_unfold; (try dsimp only)) | (k_end; wrow_close) | ((with_reducible show wpAny _ _ (eval (Expr.ListComp _ [⟨Expr.Name _ _, _, _, _⟩] _ _) _) _ _ _); k_here; k_dflt (refine LCg.ListComp_U (F₀ := by k_asm) (by with_unfolding_all rfl) (by decide) (by rfl) (by decide) (by rfl) ?_)) | ((with_reducible show wpAny _ _ (eval (Expr.ListComp _ [⟨Expr.Tuple _ _ _, _, _, _⟩] _ _) _) _ _ _); k_here; k_dflt (refine LCp.ListComp_P (F₀ := by k_asm) (by with_unfolding_all rfl) (by decide) (by rfl) (by decide) (by rfl) (by rfl) (by decide) ?_)) | walk1 | (dsimp only; walk1) | (leave1; walk_say "STEP leave1"; try dsimp only) | fail "no step"))
  refine stop_go ?_
  k_dflt (refine LCp.Assign_ListComp_P (F₀ := by k_asm) (by rfl) (by with_unfolding_all rfl) (by with_unfolding_all rfl) (by decide) (by rfl) (by decide) (by rfl) (by rfl) (by decide) (by rfl) (by rfl) ?_)
  (repeat' (first | (k_unfold; (try dsimp only)) | (k_end; wrow_close) | ((with_reducible show wpAny _ _ (eval (Expr.ListComp _ [⟨Expr.Name _ _, _, _, _⟩] _ _) _) _ _ _); k_here; k_dflt (refine LCg.ListComp_U (F₀ := by k_asm) (by with_unfolding_all rfl) (by decide) (by rfl) (by decide) (by rfl) ?_)) | ((with_reducible show wpAny _ _ (eval (Expr.ListComp _ [⟨Expr.Tuple _ _ _, _, _, _⟩] _ _) _) _ _ _); k_here; k_dflt (refine LCp.ListComp_P (F₀ := by k_asm) (by with_unfolding_all rfl) (by decide) (by rfl) (by decide) (by rfl) (by rfl) (by decide) ?_)) | walk1 | (dsimp only; walk1) | (leave1; walk_say "STEP leave1"; try dsimp only) | fail "no step"))
  refine stop_go (LCg.CompSrc.ledger (by rfl) F1 N1 (by k_mem) (by rw [List.size_toArray, sizeLine_eq]; (first | (apply ap_x; assumption; (repeat constructor); done) | (refine Nat.ne_of_gt ?_; simp only [*]; done) | (refine Nat.ne_of_lt ?_; simp only [*]; done) | ((fail_if_success (fail_if_success omega (config := {}))); (first | with_reducible assumption | decide | lia | omega (config := {}))))) fun g29 => ?_)
  obtain ⟨J1, hJ1⟩ : ∃ J : Nat → List Value → List (Addr × Obj) → Prop, Hide ((∀ (i : Nat) (zs : List Value) tups, TupsIn tups zs ((R.take i).map (rankP act)) → J i zs ([(x, instObj 144 dx), (dx, oDict D al hn2 pn), (al, oList avs an), (hn2, oList hvs hnn), (pn, oList pvs pnn), (D9, oList ys ys.length), (dS, od), (rl2, oList rvs2 0), (L + 1 + 1, oR2), (L + 1, oC)] ++ tups)) ∧ (∀ (i : Nat) (zs : List Value) (C : List (Addr × Obj) → Prop), (∀ tups, TupsIn tups zs ((R.take i).map (rankP act)) → C ([(x, instObj 144 dx), (dx, oDict D al hn2 pn), (al, oList avs an), (hn2, oList hvs hnn), (pn, oList pvs pnn), (D9, oList ys ys.length), (dS, od), (rl2, oList rvs2 0), (L + 1 + 1, oR2), (L + 1, oC)] ++ tups)) → ∀ nw, J i zs nw → C nw)) := ⟨fun i zs nw => ∃ tups, nw = [(x, instObj 144 dx), (dx, oDict D al hn2 pn), (al, oList avs an), (hn2, oList hvs hnn), (pn, oList pvs pnn), (D9, oList ys ys.length), (dS, od), (rl2, oList rvs2 0), (L + 1 + 1, oR2), (L + 1, oC)] ++ tups ∧ TupsIn tups zs ((R.take i).map (rankP act)), fun i zs tups h => ⟨tups, rfl, h⟩, by rintro i zs C k nw ⟨tups, rfl, h⟩; exact k tups h⟩
  refine comp_inv J1 (hJ1.out.1 0 [] [] (TupsIn.none _)) ?_ ?_
  · rintro i v I oI Cc oC' Dd m2 zs nw hh tkk E' hi hv hj
    revert nw hj
    refine hJ1.out.2 _ _ _ ?_
    intro tups hT hyl hC hx F2 N2 off ne
    replace ne := hide_of ne
    replace off := hide_of off
    have hv' : rvs2[i]? = some v := by simpa using hv
    clear hv
    revert hx
    revert hv'
    revert v
    refine ints_at hI2 ?_
    intro k t hk hx
    have hkm := hRm k (List.mem_of_getElem? hk)
    have N3 : News h₀ _ hh ((I, oI) :: (Cc, oC') :: (Dd, LCg.lst zs) :: [(x, instObj 144 dx), (dx, oDict D al hn2 pn), (al, oList avs an), (hn2, oList hvs hnn), (pn, oList pvs pnn), (D9, oList ys ys.length), (dS, od), (rl2, oList rvs2 0), (L + 1 + 1, oR2), (L + 1, oC)]) := news_pre (b := tups) N2
    replace N2 := hide_of N2
    (repeat' (first | (k_unfold; (try dsimp only)) | (k_end; wrow_close) | ((with_reducible show wpAny _ _ (eval (Expr.ListComp _ [⟨Expr.Name _ _, _, _, _⟩] _ _) _) _ _ _); k_here; k_dflt (refine LCg.ListComp_U (F₀ := by k_asm) (by with_unfolding_all rfl) (by decide) (by rfl) (by decide) (by rfl) ?_)) | ((with_reducible show wpAny _ _ (eval (Expr.ListComp _ [⟨Expr.Tuple _ _ _, _, _, _⟩] _ _) _) _ _ _); k_here; k_dflt (refine LCp.ListComp_P (F₀ := by k_asm) (by with_unfolding_all rfl) (by decide) (by rfl) (by decide) (by rfl) (by rfl) (by decide) ?_)) | walk1 | (dsimp only; walk1) | (leave1; walk_say "STEP leave1"; try dsimp only) | fail "no step"))
    have N4 := ‹News _ _ _ _›
    have F4 := ‹Fr _ _ _ _›
    try dsimp only at F4 N4 ⊢
    refine stop_go (rank_spec C' F4 (cb_drop N4 (by (first | ((repeat (first | exact sub_nil | refine sub_cons 0 rfl ?_ | refine sub_cons 1 rfl ?_ | refine sub_cons 2 rfl ?_ | refine sub_cons 3 rfl ?_ | refine sub_cons 4 rfl ?_ | refine sub_cons 5 rfl ?_ | refine sub_cons 6 rfl ?_ | refine sub_cons 7 rfl ?_ | refine sub_cons 8 rfl ?_ | refine sub_cons 9 rfl ?_ | refine sub_cons 10 rfl ?_ | refine sub_cons 11 rfl ?_ | refine sub_cons 12 rfl ?_ | refine sub_cons 13 rfl ?_)); done) | kcf_all))) (room hdp.out rfl) (room hun.out rfl) hact (by (first | (apply ap_x; assumption; (repeat constructor); done) | (refine Nat.ne_of_gt ?_; simp only [*]; done) | (refine Nat.ne_of_lt ?_; simp only [*]; done) | ((fail_if_success (fail_if_success omega (config := {}))); (first | with_reducible assumption | decide | lia | omega (config := {}))))) (by (first | (apply ap_x; assumption; (repeat constructor); done) | (refine Nat.ne_of_gt ?_; simp only [*]; done) | (refine Nat.ne_of_lt ?_; simp only [*]; done) | ((fail_if_success (fail_if_success omega (config := {}))); (first | with_reducible assumption | decide | lia | omega (config := {}))))) (by (first | (apply ap_x; assumption; (repeat constructor); done) | (refine Nat.ne_of_gt ?_; simp only [*]; done) | (refine Nat.ne_of_lt ?_; simp only [*]; done) | ((fail_if_success (fail_if_success omega (config := {}))); (first | with_reducible assumption | decide | lia | omega (config := {}))))) ?_)
    intro h9' tk9' r9 u9 u9' hr9 F9' N9' K9
    have N10 := news_all N2.out K9
    have q1 := hr9 _ _ (N2.out _ (.head _)).1
    have q2 := hr9 _ _ (N2.out _ (.tail _ (.head _))).1
    have q3 := hr9 _ _ (N2.out _ (.tail _ (.tail _ (.head _)))).1
    (repeat' (first | (k_unfold; (try dsimp only)) | (k_end; wrow_close) | ((with_reducible show wpAny _ _ (eval (Expr.ListComp _ [⟨Expr.Name _ _, _, _, _⟩] _ _) _) _ _ _); k_here; k_dflt (refine LCg.ListComp_U (F₀ := by k_asm) (by with_unfolding_all rfl) (by decide) (by rfl) (by decide) (by rfl) ?_)) | ((with_reducible show wpAny _ _ (eval (Expr.ListComp _ [⟨Expr.Tuple _ _ _, _, _, _⟩] _ _) _) _ _ _); k_here; k_dflt (refine LCp.ListComp_P (F₀ := by k_asm) (by with_unfolding_all rfl) (by decide) (by rfl) (by decide) (by rfl) (by rfl) (by decide) ?_)) | walk1 | (dsimp only; walk1) | (leave1; walk_say "STEP leave1"; try dsimp only) | fail "no step"))
    refine stop_go (LCg.CompEnd.intro F9' (news_join N9' N10) ([(x, instObj 144 dx), (dx, oDict D al hn2 pn), (al, oList avs an), (hn2, oList hvs hnn), (pn, oList pvs pnn), (D9, oList ys ys.length), (dS, od), (rl2, oList rvs2 0), (L + 1 + 1, oR2), (L + 1, oC)] ++ ((r9, oTup (0 - act.getD k.toNat 0) k u9 u9') :: tups)) comp_sub (off_push off.out q1 q2 q3) (.inr ⟨_, List.mem_append_left _ (by k_mem), rfl, _, rfl⟩) (hJ1.out.1 _ _ _ ?_))
    rw [take_ranks hk]
    exact TupsIn.push (p := rankP act k) hT
  · rintro zs nw hj
    revert nw hj
    refine hJ1.out.2 _ _ _ ?_
    intro tups hT hzl D30 h30 tk30 F30 N30 off30
    have hT2 : TupsIn ((D30, LCg.lst zs) :: ([(x, instObj 144 dx), (dx, oDict D al hn2 pn), (al, oList avs an), (hn2, oList hvs hnn), (pn, oList pvs pnn), (D9, oList ys ys.length), (dS, od), (rl2, oList rvs2 0), (L + 1 + 1, oR2), (L + 1, oC)] ++ tups)) zs (R.map (rankP act)) := by
      have e : R.take rvs2.toArray.size = R := by rw [List.size_toArray, lvR]; exact List.take_length
      rw [e] at hT
      exact hT.mono fun p hp => .tail _ (List.mem_append_right _ hp)
    have N31 : News h₀ _ h30 ((D30, LCg.lst zs) :: [(x, instObj 144 dx), (dx, oDict D al hn2 pn), (al, oList avs an), (hn2, oList hvs hnn), (pn, oList pvs pnn), (D9, oList ys ys.length), (dS, od), (rl2, oList rvs2 0), (L + 1 + 1, oR2), (L + 1, oC)]) := news_pre (b := tups) N30
    replace N30 := hide_of N30
    clear hT off30
    try clear F1
    try clear N1
    (repeat' (first | (k_unfold; (try dsimp only)) | (k_end; wrow_close) | ((with_reducible show wpAny _ _ (eval (Expr.ListComp _ [⟨Expr.Name _ _, _, _, _⟩] _ _) _) _ _ _); k_here; k_dflt (refine LCg.ListComp_U (F₀ := by k_asm) (by with_unfolding_all rfl) (by decide) (by rfl) (by decide) (by rfl) ?_)) | ((with_reducible show wpAny _ _ (eval (Expr.ListComp _ [⟨Expr.Tuple _ _ _, _, _, _⟩] _ _) _) _ _ _); k_here; k_dflt (refine LCp.ListComp_P (F₀ := by k_asm) (by with_unfolding_all rfl) (by decide) (by rfl) (by decide) (by rfl) (by rfl) (by decide) ?_)) | walk1 | (dsimp only; walk1) | (leave1; walk_say "STEP leave1"; try dsimp only) | fail "no step"))
    refine stop_go (sorted_tups (ps := R.map (rankP act)) F30 N30.out ⟨_, (N30.out _ (.head _)).1, rfl, _, rfl⟩ hT2 (ranks_differ hRn) (by rw [List.length_map]; (first | (apply ap_x; assumption; (repeat constructor); done) | (refine Nat.ne_of_gt ?_; simp only [*]; done) | (refine Nat.ne_of_lt ?_; simp only [*]; done) | ((fail_if_success (fail_if_success omega (config := {}))); (first | with_reducible assumption | decide | lia | omega (config := {}))))) (by rw [List.length_map]; (first | (apply ap_x; assumption; (repeat constructor); done) | (refine Nat.ne_of_gt ?_; simp only [*]; done) | (refine Nat.ne_of_lt ?_; simp only [*]; done) | ((fail_if_success (fail_if_success omega (config := {}))); (first | with_reducible assumption | decide | lia | omega (config := {}))))) fun D31 h31 vs31 ps31 c31 hT3 hpm31 hso31 F31 N32 lo31 => ?_)
    (repeat' (first | (k_unfold; (try dsimp only)) | (k_end; wrow_close) | ((with_reducible show wpAny _ _ (eval (Expr.ListComp _ [⟨Expr.Name _ _, _, _, _⟩] _ _) _) _ _ _); k_here; k_dflt (refine LCg.ListComp_U (F₀ := by k_asm) (by with_unfolding_all rfl) (by decide) (by rfl) (by decide) (by rfl) ?_)) | ((with_reducible show wpAny _ _ (eval (Expr.ListComp _ [⟨Expr.Tuple _ _ _, _, _, _⟩] _ _) _) _ _ _); k_here; k_dflt (refine LCp.ListComp_P (F₀ := by k_asm) (by with_unfolding_all rfl) (by decide) (by rfl) (by decide) (by rfl) (by rfl) (by decide) ?_)) | walk1 | (dsimp only; walk1) | (leave1; walk_say "STEP leave1"; try dsimp only) | fail "no step"))
    have l31s : vs31.length = R.length := by rw [hT3.len, hpm31.length_eq, List.length_map]
    have l31p : ps31.length = R.length := by rw [hpm31.length_eq, List.length_map]
    refine stop_go (LCp.SrcLP.ledger (by rfl) F31 N32 (List.mem_cons_self ..) (by rw [List.size_toArray, sizeLine_eq]; (first | (apply ap_x; assumption; (repeat constructor); done) | (refine Nat.ne_of_gt ?_; simp only [*]; done) | (refine Nat.ne_of_lt ?_; simp only [*]; done) | ((fail_if_success (fail_if_success omega (config := {}))); (first | with_reducible assumption | decide | lia | omega (config := {}))))) fun g33 => ?_)
    refine compP_inv (fun i zs2 nw => nw = ((D31, listOf vs31.toArray c31) :: (D30, LCg.lst zs) :: ([(x, instObj 144 dx), (dx, oDict D al hn2 pn), (al, oList avs an), (hn2, oList hvs hnn), (pn, oList pvs pnn), (D9, oList ys ys.length), (dS, od), (rl2, oList rvs2 0), (L + 1 + 1, oR2), (L + 1, oC)] ++ tups)) ∧ IntsAre zs2 ((ps31.map Prod.snd).take i)) ⟨rfl, .nil⟩ ?_ ?_
    · rintro i v ys2 nw hi hv ⟨rfl, hys2⟩ hyl2
      have hil : i < ps31.length := by rw [List.size_toArray] at hi; (first | (apply ap_x; assumption; (repeat constructor); done) | (refine Nat.ne_of_gt ?_; simp only [*]; done) | (refine Nat.ne_of_lt ?_; simp only [*]; done) | ((fail_if_success (fail_if_success omega (config := {}))); (first | with_reducible assumption | decide | lia | omega (config := {}))))
      obtain ⟨a, t1, t2, e1, hm⟩ := hT3.at_ i ps31[i] (List.getElem?_eq_getElem hil)
      have ev : v = .ref a := by
        have e2 : vs31[i]? = some v := by simpa using hv
        rw [e1] at e2
        exact (Option.some.inj e2).symm
      subst ev
      refine ⟨a, _, _, _, _, rfl, .tail _ hm, rfl, rfl, ?_⟩
      intro I oI Cc oC' Dd m2 h tk E' hC hx hx2 F2 N2 off ne
      replace ne := hide_of ne
      replace off := hide_of off
      have N3 : News h₀ _ h ((I, oI) :: (Cc, oC') :: (Dd, LCg.lst ys2) :: (D31, listOf vs31.toArray c31) :: (D30, LCg.lst zs) :: [(x, instObj 144 dx), (dx, oDict D al hn2 pn), (al, oList avs an), (hn2, oList hvs hnn), (pn, oList pvs pnn), (D9, oList ys ys.length), (dS, od), (rl2, oList rvs2 0), (L + 1 + 1, oR2), (L + 1, oC)]) := news_pre (b := tups) N2
      replace N2 := hide_of N2
      (repeat' (first | (k_unfold; (try dsimp only)) | (k_end; wrow_close) | ((with_reducible show wpAny _ _ (eval (Expr.ListComp _ [⟨Expr.Name _ _, _, _, _⟩] _ _) _) _ _ _); k_here; k_dflt (refine LCg.ListComp_U (F₀ := by k_asm) (by with_unfolding_all rfl) (by decide) (by rfl) (by decide) (by rfl) ?_)) | ((with_reducible show wpAny _ _ (eval (Expr.ListComp _ [⟨Expr.Tuple _ _ _, _, _, _⟩] _ _) _) _ _ _); k_here; k_dflt (refine LCp.ListComp_P (F₀ := by k_asm) (by with_unfolding_all rfl) (by decide) (by rfl) (by decide) (by rfl) (by rfl) (by decide) ?_)) | walk1 | (dsimp only; walk1) | (leave1; walk_say "STEP leave1"; try dsimp only) | fail "no step"))
      refine stop_go (LCg.CompEnd.intro F2 N2.out ((D31, listOf vs31.toArray c31) :: (D30, LCg.lst zs) :: ([(x, instObj 144 dx), (dx, oDict D al hn2 pn), (al, oList avs an), (hn2, oList hvs hnn), (pn, oList pvs pnn), (D9, oList ys ys.length), (dS, od), (rl2, oList rvs2 0), (L + 1 + 1, oR2), (L + 1, oC)] ++ tups)) (fun p hp => hp) off.out (.inr ⟨_, List.mem_cons_self .., rfl, _, rfl⟩) ⟨rfl, ?_⟩)
      exact take_ints hys2 (by rw [List.getElem?_map, List.getElem?_eq_getElem hil]; rfl)
    · rintro ys2 nw ⟨rfl, hys2⟩ hyl2
      intro D32 h32' tk32' F32 N33 off32
      have hvPS := sorted_vars hpm31 hso31
      have hvP := hvPS.1
      have hvS := hvPS.2
      clear hvPS
      have hys3 : IntsAre ys2 (ps31.map Prod.snd) := by
        have e : (ps31.map Prod.snd).take vs31.toArray.size = ps31.map Prod.snd := by rw [List.size_toArray, l31s, ← l31p, ← List.length_map (f := Prod.snd)]; exact List.take_length
        rw [e] at hys2
        exact hys2
      clear hys2 hyl2
      simp only [LCg.Off1, List.cons_append, List.nil_append] at off32
      have d1 := off32.2.2.2.2.2.1
      have d2 := off32.2.2.2.2.2.2.1
      clear off32
      have N34 : News h₀ _ h32' ((D32, oList ys2 ys2.length) :: [(x, instObj 144 dx), (dx, oDict D al hn2 pn), (al, oList avs an), (hn2, oList hvs hnn), (pn, oList pvs pnn), (D9, oList ys ys.length), (dS, od), (rl2, oList rvs2 0), (L + 1 + 1, oR2), (L + 1, oC)]) := fun p hp => by
        rcases List.mem_cons.mp hp with rfl | hp
        · exact N33 _ (.head _)
        · exact N33 _ (.tail _ (.tail _ (.tail _ (List.mem_append_left _ hp))))
      obtain ⟨m34, F34⟩ := fr_canon (ps := [(Str.ofString "script", .ref sa), (Str.ofString "salt", .ref dS), (Str.ofString "many", .int (1 + (rn : Int)) tk8), (Str.ofString "scale", .int sc tkS), (Str.ofString "due", .ref D32)]) F32 (by kst_all)
      clear hT3 hT2 hpm31 hso31 N33 F32
      try clear F31
      try clear N32
      try clear F30
      try clear N30
      try clear N31
      try clear lo31
      try clear F28
      try clear N28
      try clear F1
      try clear N1
      try clear hzl
      try clear l31s
      generalize hvars : ps31.map Prod.snd = vars at hys3 hvP hvS
      have hvl : vars.length = R.length := hvP.length_eq
      have hy3l := IntsAre.length hys3
      clear hvars
      (repeat' (first | (k_unfold; (try dsimp only)) | (k_end; wrow_close) | ((with_reducible show wpAny _ _ (eval (Expr.ListComp _ [⟨Expr.Name _ _, _, _, _⟩] _ _) _) _ _ _); k_here; k_dflt (refine LCg.ListComp_U (F₀ := by k_asm) (by with_unfolding_all rfl) (by decide) (by rfl) (by decide) (by rfl) ?_)) | ((with_reducible show wpAny _ _ (eval (Expr.ListComp _ [⟨Expr.Tuple _ _ _, _, _, _⟩] _ _) _) _ _ _); k_here; k_dflt (refine LCp.ListComp_P (F₀ := by k_asm) (by with_unfolding_all rfl) (by decide) (by rfl) (by decide) (by rfl) (by rfl) (by decide) ?_)) | walk1 | (dsimp only; walk1) | (leave1; walk_say "STEP leave1"; try dsimp only) | fail "no step"))
      rename_i hR hF hN hK
      refine stop_go (LCg.CompSrc.range (n := q + 1) (by rfl) hF hN hR (small_one (by (first | (apply ap_x; assumption; (repeat constructor); done) | (refine Nat.ne_of_gt ?_; simp only [*]; done) | (refine Nat.ne_of_lt ?_; simp only [*]; done) | ((fail_if_success (fail_if_success omega (config := {}))); (first | with_reducible assumption | decide | lia | omega (config := {}))))) (by (first | (apply ap_x; assumption; (repeat constructor); done) | (refine Nat.ne_of_gt ?_; simp only [*]; done) | (refine Nat.ne_of_lt ?_; simp only [*]; done) | ((fail_if_success (fail_if_success omega (config := {}))); (first | with_reducible assumption | decide | lia | omega (config := {}))))) (by (first | (apply ap_x; assumption; (repeat constructor); done) | (refine Nat.ne_of_gt ?_; simp only [*]; done) | (refine Nat.ne_of_lt ?_; simp only [*]; done) | ((fail_if_success (fail_if_success omega (config := {}))); (first | with_reducible assumption | decide | lia | omega (config := {}))))) (by (first | (apply ap_x; assumption; (repeat constructor); done) | (refine Nat.ne_of_gt ?_; simp only [*]; done) | (refine Nat.ne_of_lt ?_; simp only [*]; done) | ((fail_if_success (fail_if_success omega (config := {}))); (first | with_reducible assumption | decide | lia | omega (config := {})))))) (by rw [rangeSize_nat]; (first | (apply ap_x; assumption; (repeat constructor); done) | (refine Nat.ne_of_gt ?_; simp only [*]; done) | (refine Nat.ne_of_lt ?_; simp only [*]; done) | ((fail_if_success (fail_if_success omega (config := {}))); (first | with_reducible assumption | decide | lia | omega (config := {}))))) (by rw [sizeLine_eq]; (first | (apply ap_x; assumption; (repeat constructor); done) | (refine Nat.ne_of_gt ?_; simp only [*]; done) | (refine Nat.ne_of_lt ?_; simp only [*]; done) | ((fail_if_success (fail_if_success omega (config := {}))); (first | with_reducible assumption | decide | lia | omega (config := {}))))) fun g36 => ?_)
      obtain ⟨J3, hJ3⟩ : ∃ J : Nat → List Value → List (Addr × Obj) → Prop, Hide ((∀ (i : Nat) (zs3 : List Value) hvs hnn pvs pnn, IntsAre zs3 (pops act i H P) → IntsAre hvs (popSt act i H P).1 → IntsAre pvs (popSt act i H P).2 → J i zs3 ((D32, oList ys2 ys2.length) :: [(x, instObj 144 dx), (dx, oDict D al hn2 pn), (al, oList avs an), (hn2, oList hvs hnn), (pn, oList pvs pnn), (D9, oList ys ys.length), (dS, od), (rl2, oList rvs2 0), (L + 1 + 1, oR2), (L + 1, oC)])) ∧ (∀ (i : Nat) (zs3 : List Value) (C : List (Addr × Obj) → Prop), (∀ hvs hnn pvs pnn, IntsAre zs3 (pops act i H P) → IntsAre hvs (popSt act i H P).1 → IntsAre pvs (popSt act i H P).2 → C ((D32, oList ys2 ys2.length) :: [(x, instObj 144 dx), (dx, oDict D al hn2 pn), (al, oList avs an), (hn2, oList hvs hnn), (pn, oList pvs pnn), (D9, oList ys ys.length), (dS, od), (rl2, oList rvs2 0), (L + 1 + 1, oR2), (L + 1, oC)])) → ∀ nw, J i zs3 nw → C nw)) := ⟨fun i zs3 nw => ∃ hvs hnn pvs pnn, nw = ((D32, oList ys2 ys2.length) :: [(x, instObj 144 dx), (dx, oDict D al hn2 pn), (al, oList avs an), (hn2, oList hvs hnn), (pn, oList pvs pnn), (D9, oList ys ys.length), (dS, od), (rl2, oList rvs2 0), (L + 1 + 1, oR2), (L + 1, oC)]) ∧ IntsAre zs3 (pops act i H P) ∧ IntsAre hvs (popSt act i H P).1 ∧ IntsAre pvs (popSt act i H P).2, fun i zs3 a b c d h1 h2 h3 => ⟨a, b, c, d, rfl, h1, h2, h3⟩, by rintro i zs3 C k nw ⟨a, b, c, d, rfl, h1, h2, h3⟩; exact k a b c d h1 h2 h3⟩
      refine comp_inv J3 (hJ3.out.1 _ _ _ _ _ _ .nil hH hP) ?_ ?_
      · rintro i v I oI Cc oC' Dd m2 zs3 nw hh tkk E' hi ⟨tv, rfl⟩ hj
        revert nw hj
        refine hJ3.out.2 _ _ _ ?_
        intro hvs' hnn' pvs' pnn' hz3 hH' hP' hyl3 hC hx F2 N2 off ne
        replace ne := hide_of ne
        replace off := hide_of off
        have gdl := popSt_good i hG hO
        have gd := gdl.1
        have gl := gdl.2
        clear gdl
        generalize hst1 : (popSt act i H P).1 = H1 at hH' gd gl
        generalize hst2 : (popSt act i H P).2 = P1 at hP' gd
        have lvH1 := IntsAre.length hH'
        have lvP1 := IntsAre.length hP'
        (repeat' (first | (k_unfold; (try dsimp only)) | (k_end; wrow_close) | ((with_reducible show wpAny _ _ (eval (Expr.ListComp _ [⟨Expr.Name _ _, _, _, _⟩] _ _) _) _ _ _); k_here; k_dflt (refine LCg.ListComp_U (F₀ := by k_asm) (by with_unfolding_all rfl) (by decide) (by rfl) (by decide) (by rfl) ?_)) | ((with_reducible show wpAny _ _ (eval (Expr.ListComp _ [⟨Expr.Tuple _ _ _, _, _, _⟩] _ _) _) _ _ _); k_here; k_dflt (refine LCp.ListComp_P (F₀ := by k_asm) (by with_unfolding_all rfl) (by decide) (by rfl) (by decide) (by rfl) (by rfl) (by decide) ?_)) | walk1 | (dsimp only; walk1) | (leave1; walk_say "STEP leave1"; try dsimp only) | fail "no step"))
        have N4 := ‹News _ _ _ _›
        have F4 := ‹Fr _ _ _ _›
        try dsimp only at F4 N4 ⊢
        refine stop_go (pop_spec C' F4 (cb_drop N4 (by (first | ((repeat (first | exact sub_nil | refine sub_cons 0 rfl ?_ | refine sub_cons 1 rfl ?_ | refine sub_cons 2 rfl ?_ | refine sub_cons 3 rfl ?_ | refine sub_cons 4 rfl ?_ | refine sub_cons 5 rfl ?_ | refine sub_cons 6 rfl ?_ | refine sub_cons 7 rfl ?_ | refine sub_cons 8 rfl ?_ | refine sub_cons 9 rfl ?_ | refine sub_cons 10 rfl ?_ | refine sub_cons 11 rfl ?_ | refine sub_cons 12 rfl ?_ | refine sub_cons 13 rfl ?_)); done) | kcf_all))) (room hdp.out rfl) (room hun.out rfl) o1.out o2.out o3.out o5.out hact hH' hP' (by (first | (apply ap_x; assumption; (repeat constructor); done) | (refine Nat.ne_of_gt ?_; simp only [*]; done) | (refine Nat.ne_of_lt ?_; simp only [*]; done) | ((fail_if_success (fail_if_success omega (config := {}))); (first | with_reducible assumption | decide | lia | omega (config := {}))))) (by (first | (apply ap_x; assumption; (repeat constructor); done) | (refine Nat.ne_of_gt ?_; simp only [*]; done) | (refine Nat.ne_of_lt ?_; simp only [*]; done) | ((fail_if_success (fail_if_success omega (config := {}))); (first | with_reducible assumption | decide | lia | omega (config := {}))))) (by rw [hal]; exact gd.len) (by rw [hal]; exact gd.range) ?_)
        intro h8' tk8' hvs8 nh8 pvs8 np8 t8' v8 H8 P8 e8 hh8 hp8 F8 N8 K8
        have oh := off.out.mem (hn2, _) (by k_mem)
        have op := off.out.mem (pn, _) (by k_mem)
        have N9 := news_re N4 (by repeat (first | exact Rest.nil | (apply Rest.keep; focus ((repeat (first | exact off_nil | (refine off_cons ?_ ?_; focus (first | exact Ne.symm oh.1 | exact Ne.symm oh.2.1 | exact Ne.symm oh.2.2 | exact Ne.symm op.1 | exact Ne.symm op.2.1 | exact Ne.symm op.2.2 | exact Ne.symm d1 | exact Ne.symm d2 | (first | (apply ap_x; assumption; (repeat constructor); done) | (refine Nat.ne_of_gt ?_; simp only [*]; done) | (refine Nat.ne_of_lt ?_; simp only [*]; done) | ((fail_if_success (fail_if_success omega (config := {}))); (first | with_reducible assumption | decide | lia | omega (config := {})))))))); done)) | apply Rest.skip)) K8 N8
        dsimp only [List.cons_append, List.nil_append] at N9
        clear oh op
        try clear F4
        try clear N4
        try clear N8
        try clear K8
        (repeat' (first | (k_unfold; (try dsimp only)) | (k_end; wrow_close) | ((with_reducible show wpAny _ _ (eval (Expr.ListComp _ [⟨Expr.Name _ _, _, _, _⟩] _ _) _) _ _ _); k_here; k_dflt (refine LCg.ListComp_U (F₀ := by k_asm) (by with_unfolding_all rfl) (by decide) (by rfl) (by decide) (by rfl) ?_)) | ((with_reducible show wpAny _ _ (eval (Expr.ListComp _ [⟨Expr.Tuple _ _ _, _, _, _⟩] _ _) _) _ _ _); k_here; k_dflt (refine LCp.ListComp_P (F₀ := by k_asm) (by with_unfolding_all rfl) (by decide) (by rfl) (by decide) (by rfl) (by rfl) (by decide) ?_)) | walk1 | (dsimp only; walk1) | (leave1; walk_say "STEP leave1"; try dsimp only) | fail "no step"))
        have N10 := ‹News _ _ _ _›
        have offN : LCg.Off3 I Cc Dd ((D32, oList ys2 ys2.length) :: [(x, instObj 144 dx), (dx, oDict D al hn2 pn), (al, oList avs an), (hn2, oList hvs8 nh8), (pn, oList pvs8 np8), (D9, oList ys ys.length), (dS, od), (rl2, oList rvs2 0), (L + 1 + 1, oR2), (L + 1, oC)]) := off_same off.out rfl
        refine stop_go (LCg.CompEnd.intro (by assumption) N10 ((D32, oList ys2 ys2.length) :: [(x, instObj 144 dx), (dx, oDict D al hn2 pn), (al, oList avs an), (hn2, oList hvs8 nh8), (pn, oList pvs8 np8), (D9, oList ys ys.length), (dS, od), (rl2, oList rvs2 0), (L + 1 + 1, oR2), (L + 1, oC)]) (by (first | ((repeat (first | exact sub_nil | refine sub_cons 0 rfl ?_ | refine sub_cons 1 rfl ?_ | refine sub_cons 2 rfl ?_ | refine sub_cons 3 rfl ?_ | refine sub_cons 4 rfl ?_ | refine sub_cons 5 rfl ?_ | refine sub_cons 6 rfl ?_ | refine sub_cons 7 rfl ?_ | refine sub_cons 8 rfl ?_ | refine sub_cons 9 rfl ?_ | refine sub_cons 10 rfl ?_ | refine sub_cons 11 rfl ?_ | refine sub_cons 12 rfl ?_ | refine sub_cons 13 rfl ?_)); done) | kcf_all)) offN trivial (hJ3.out.1 _ _ hvs8 nh8 pvs8 np8 ?_ ?_ ?_))
        · rw [pops_succ, hst1, hst2, e8]
          exact IntsAre.append hz3 (.cons _ _ .nil)
        · rw [popSt_succ, hst1, hst2, e8]; exact hh8
        · rw [popSt_succ, hst1, hst2, e8]; exact hp8
      · rintro zs3 nw hj
        revert nw hj
        refine hJ3.out.2 _ _ _ ?_
        intro hvs' hnn' pvs' pnn' hz3 hH' hP' hyl3 D37 h37 tk37 F37 N37 off37
        have hpp := pops_sorted vars H P hG hO (hvP.trans hHR.symm) hvS
        rw [hvl, hRl] at hpp
        rw [hpp] at hz3
        clear hpp off37 hH' hP' hyl3
        try clear F34
        try clear N34
        try clear hF
        try clear hN
        try clear hK
        try clear F1
        try clear N1
        have hz3l := IntsAre.length hz3
        rw [List.length_append, List.length_singleton] at hz3l
        dsimp only
        (first | (k_unfold; (try dsimp only)) | (k_end; wrow_close) | walk1 | (dsimp only; walk1) | (leave1; try dsimp only))
        (first | (k_unfold; (try dsimp only)) | (k_end; wrow_close) | walk1 | (dsimp only; walk1) | (leave1; try dsimp only))
        (first | (k_unfold; (try dsimp only)) | (k_end; wrow_close) | walk1 | (dsimp only; walk1) | (leave1; try dsimp only))
        (first | (k_unfold; (try dsimp only)) | (k_end; wrow_close) | walk1 | (dsimp only; walk1) | (leave1; try dsimp only))
        (first | (k_unfold; (try dsimp only)) | (k_end; wrow_close) | walk1 | (dsimp only; walk1) | (leave1; try dsimp only))
        (first | (k_unfold; (try dsimp only)) | (k_end; wrow_close) | walk1 | (dsimp only; walk1) | (leave1; try dsimp only))
        (first | (k_unfold; (try dsimp only)) | (k_end; wrow_close) | walk1 | (dsimp only; walk1) | (leave1; try dsimp only))
        (first | (k_unfold; (try dsimp only)) | (k_end; wrow_close) | walk1 | (dsimp only; walk1) | (leave1; try dsimp only))
        rename_i lz h38 lz1 D39 ws39 h39 F39 N39 hI39 l39
        refine ke_ne_ints (News.isList N39 (by k_mem)) (News.isList N39 (by k_mem)) hz3 hI39 (room hun.out rfl) ?_
        rw [decide_eq_true rfl, Bool.not_true]
        (repeat' (first | (k_unfold; (try dsimp only)) | (k_end; wrow_close) | ((with_reducible show wpAny _ _ (eval (Expr.ListComp _ [⟨Expr.Name _ _, _, _, _⟩] _ _) _) _ _ _); k_here; k_dflt (refine LCg.ListComp_U (F₀ := by k_asm) (by with_unfolding_all rfl) (by decide) (by rfl) (by decide) (by rfl) ?_)) | ((with_reducible show wpAny _ _ (eval (Expr.ListComp _ [⟨Expr.Tuple _ _ _, _, _, _⟩] _ _) _) _ _ _); k_here; k_dflt (refine LCp.ListComp_P (F₀ := by k_asm) (by with_unfolding_all rfl) (by decide) (by rfl) (by decide) (by rfl) (by rfl) (by decide) ?_)) | walk1 | (dsimp only; walk1) | (leave1; walk_say "STEP leave1"; try dsimp only) | fail "no step"))
        have N40 : News h₀ _ _ [(x, instObj 144 dx), (dx, oDict D al hn2 pn), (al, oList avs an), (hn2, oList hvs' hnn'), (pn, oList pvs' pnn'), (D9, oList ys ys.length), (dS, od), (rl2, oList rvs2 0), (L + 1 + 1, oR2), (L + 1, oC)] := news_sub ‹News _ _ _ _› (by (first | ((repeat (first | exact sub_nil | refine sub_cons 0 rfl ?_ | refine sub_cons 1 rfl ?_ | refine sub_cons 2 rfl ?_ | refine sub_cons 3 rfl ?_ | refine sub_cons 4 rfl ?_ | refine sub_cons 5 rfl ?_ | refine sub_cons 6 rfl ?_ | refine sub_cons 7 rfl ?_ | refine sub_cons 8 rfl ?_ | refine sub_cons 9 rfl ?_ | refine sub_cons 10 rfl ?_ | refine sub_cons 11 rfl ?_ | refine sub_cons 12 rfl ?_ | refine sub_cons 13 rfl ?_)); done) | kcf_all))
        have F40 := ‹Fr _ _ _ _›
        try dsimp only at F40 N40 ⊢
        try clear F39
        try clear N39
        refine stop_go (pinch_spec C' F40 (cb_drop N40 (by (first | ((repeat (first | exact sub_nil | refine sub_cons 0 rfl ?_ | refine sub_cons 1 rfl ?_ | refine sub_cons 2 rfl ?_ | refine sub_cons 3 rfl ?_ | refine sub_cons 4 rfl ?_ | refine sub_cons 5 rfl ?_ | refine sub_cons 6 rfl ?_ | refine sub_cons 7 rfl ?_ | refine sub_cons 8 rfl ?_ | refine sub_cons 9 rfl ?_ | refine sub_cons 10 rfl ?_ | refine sub_cons 11 rfl ?_ | refine sub_cons 12 rfl ?_ | refine sub_cons 13 rfl ?_)); done) | kcf_all))) (room hdp.out rfl) (room hun.out rfl) (by (first | (apply ap_x; assumption; (repeat constructor); done) | (refine Nat.ne_of_gt ?_; simp only [*]; done) | (refine Nat.ne_of_lt ?_; simp only [*]; done) | ((fail_if_success (fail_if_success omega (config := {}))); (first | with_reducible assumption | decide | lia | omega (config := {}))))) hod hys' (by (first | (apply ap_x; assumption; (repeat constructor); done) | (refine Nat.ne_of_gt ?_; simp only [*]; done) | (refine Nat.ne_of_lt ?_; simp only [*]; done) | ((fail_if_success (fail_if_success omega (config := {}))); (first | with_reducible assumption | decide | lia | omega (config := {}))))) (by (first | (apply ap_x; assumption; (repeat constructor); done) | (refine Nat.ne_of_gt ?_; simp only [*]; done) | (refine Nat.ne_of_lt ?_; simp only [*]; done) | ((fail_if_success (fail_if_success omega (config := {}))); (first | with_reducible assumption | decide | lia | omega (config := {}))))) (by (first | (apply ap_x; assumption; (repeat constructor); done) | (refine Nat.ne_of_gt ?_; simp only [*]; done) | (refine Nat.ne_of_lt ?_; simp only [*]; done) | ((fail_if_success (fail_if_success omega (config := {}))); (first | with_reducible assumption | decide | lia | omega (config := {}))))) (by decide) (by decide) ?_)
        intro h41 tk41 r41 u41 ta41 od41 r410 r411 hod41 F41 N41 K41
        have N42 := news_re N40 (by repeat (first | exact Rest.nil | (apply Rest.keep; focus ((repeat (first | exact off_nil | (refine off_cons ?_ ?_; focus (first | (apply ap_x; assumption; (repeat constructor); done) | (refine Nat.ne_of_gt ?_; simp only [*]; done) | (refine Nat.ne_of_lt ?_; simp only [*]; done) | ((fail_if_success (fail_if_success omega (config := {}))); (first | with_reducible assumption | decide | lia | omega (config := {}))))))); done)) | apply Rest.skip)) K41 N41
        dsimp only [List.cons_append, List.nil_append] at N42
        try clear F40
        try clear N40
        try clear N41
        try clear K41
        (repeat' (first | (k_unfold; (try dsimp only)) | (k_end; wrow_close) | ((with_reducible show wpAny _ _ (eval (Expr.ListComp _ [⟨Expr.Name _ _, _, _, _⟩] _ _) _) _ _ _); k_here; k_dflt (refine LCg.ListComp_U (F₀ := by k_asm) (by with_unfolding_all rfl) (by decide) (by rfl) (by decide) (by rfl) ?_)) | ((with_reducible show wpAny _ _ (eval (Expr.ListComp _ [⟨Expr.Tuple _ _ _, _, _, _⟩] _ _) _) _ _ _); k_here; k_dflt (refine LCp.ListComp_P (F₀ := by k_asm) (by with_unfolding_all rfl) (by decide) (by rfl) (by decide) (by rfl) (by rfl) (by decide) ?_)) | walk1 | (dsimp only; walk1) | (leave1; walk_say "STEP leave1"; try dsimp only) | fail "no step"))
        have N43 := ‹News _ _ _ _›
        have F43 := ‹Fr _ _ _ _›
        try dsimp only at F43 N43 ⊢
        refine stop_go (pinch_spec C' F43 (cb_drop N43 (by (first | ((repeat (first | exact sub_nil | refine sub_cons 0 rfl ?_ | refine sub_cons 1 rfl ?_ | refine sub_cons 2 rfl ?_ | refine sub_cons 3 rfl ?_ | refine sub_cons 4 rfl ?_ | refine sub_cons 5 rfl ?_ | refine sub_cons 6 rfl ?_ | refine sub_cons 7 rfl ?_ | refine sub_cons 8 rfl ?_ | refine sub_cons 9 rfl ?_ | refine sub_cons 10 rfl ?_ | refine sub_cons 11 rfl ?_ | refine sub_cons 12 rfl ?_ | refine sub_cons 13 rfl ?_)); done) | kcf_all))) (room hdp.out rfl) (room hun.out rfl) (by (first | (apply ap_x; assumption; (repeat constructor); done) | (refine Nat.ne_of_gt ?_; simp only [*]; done) | (refine Nat.ne_of_lt ?_; simp only [*]; done) | ((fail_if_success (fail_if_success omega (config := {}))); (first | with_reducible assumption | decide | lia | omega (config := {}))))) hod41 hys' (by (first | (apply ap_x; assumption; (repeat constructor); done) | (refine Nat.ne_of_gt ?_; simp only [*]; done) | (refine Nat.ne_of_lt ?_; simp only [*]; done) | ((fail_if_success (fail_if_success omega (config := {}))); (first | with_reducible assumption | decide | lia | omega (config := {}))))) (by (first | (apply ap_x; assumption; (repeat constructor); done) | (refine Nat.ne_of_gt ?_; simp only [*]; done) | (refine Nat.ne_of_lt ?_; simp only [*]; done) | ((fail_if_success (fail_if_success omega (config := {}))); (first | with_reducible assumption | decide | lia | omega (config := {}))))) (by (first | (apply ap_x; assumption; (repeat constructor); done) | (refine Nat.ne_of_gt ?_; simp only [*]; done) | (refine Nat.ne_of_lt ?_; simp only [*]; done) | ((fail_if_success (fail_if_success omega (config := {}))); (first | with_reducible assumption | decide | lia | omega (config := {}))))) (by decide) (by decide) ?_)
        intro h44 tk44 r44 u44 ta44 od44 r440 r441 hod44 F44 N44 K44
        have N45 := news_re N43 (by repeat (first | exact Rest.nil | (apply Rest.keep; focus ((repeat (first | exact off_nil | (refine off_cons ?_ ?_; focus (first | (apply ap_x; assumption; (repeat constructor); done) | (refine Nat.ne_of_gt ?_; simp only [*]; done) | (refine Nat.ne_of_lt ?_; simp only [*]; done) | ((fail_if_success (fail_if_success omega (config := {}))); (first | with_reducible assumption | decide | lia | omega (config := {}))))))); done)) | apply Rest.skip)) K44 N44
        dsimp only [List.cons_append, List.nil_append] at N45
        try clear F43
        try clear N43
        try clear N44
        try clear K44
        (repeat' (first | (k_unfold; (try dsimp only)) | (k_end; wrow_close) | ((with_reducible show wpAny _ _ (eval (Expr.ListComp _ [⟨Expr.Name _ _, _, _, _⟩] _ _) _) _ _ _); k_here; k_dflt (refine LCg.ListComp_U (F₀ := by k_asm) (by with_unfolding_all rfl) (by decide) (by rfl) (by decide) (by rfl) ?_)) | ((with_reducible show wpAny _ _ (eval (Expr.ListComp _ [⟨Expr.Tuple _ _ _, _, _, _⟩] _ _) _) _ _ _); k_here; k_dflt (refine LCp.ListComp_P (F₀ := by k_asm) (by with_unfolding_all rfl) (by decide) (by rfl) (by decide) (by rfl) (by rfl) (by decide) ?_)) | walk1 | (dsimp only; walk1) | (leave1; walk_say "STEP leave1"; try dsimp only) | fail "no step"))
        have F46 := ‹Fr _ _ _ _›
        try dsimp only at F46 ⊢
        refine stop_go (foot_spec C' F46 (fun p hp => nomatch hp) (room hdp.out rfl) (room hun.out rfl) r410 r411 r440 r441 ?_)
        intro h47 tk47 F47 K47
        (repeat' (first | (k_unfold; (try dsimp only)) | (k_end; wrow_close) | ((with_reducible show wpAny _ _ (eval (Expr.ListComp _ [⟨Expr.Name _ _, _, _, _⟩] _ _) _) _ _ _); k_here; k_dflt (refine LCg.ListComp_U (F₀ := by k_asm) (by with_unfolding_all rfl) (by decide) (by rfl) (by decide) (by rfl) ?_)) | ((with_reducible show wpAny _ _ (eval (Expr.ListComp _ [⟨Expr.Tuple _ _ _, _, _, _⟩] _ _) _) _ _ _); k_here; k_dflt (refine LCp.ListComp_P (F₀ := by k_asm) (by with_unfolding_all rfl) (by decide) (by rfl) (by decide) (by rfl) (by rfl) (by decide) ?_)) | walk1 | (dsimp only; walk1) | (leave1; walk_say "STEP leave1"; try dsimp only) | fail "no step"))
        exact k _ _ _ F47
-- RgE3
noncomputable def tail11 : List Stmt × Scope := (tail0.1.1.drop 11, tail0.1.2)

theorem laps_law {w : World} {outer : List Env} {fa L : Addr} {wc : Value} {h₀ : Heap} {m' : Str → Option Value} {dp un : Nat} {gd : Option (List Code)} {s : Shared} {Q : Flow → Shared → Prop} {E : Value → Shared → Prop}
    {sa dS x dx al hn2 pn D9 rl2 : Addr} {D : DP} {rn q : Nat} {tk8 tkS ta : Tok} {sc cn : Int} {avs hvs pvs ys rvs2 : List Value} {an hnn pnn : Nat} {od oR2 oC : Obj} {act H P R cells : List Int}
    (C' : Cx w (envOfC (Str.ofString "law") tail11.2 L fa wc) outer L h₀) (F1 : Fr h₀ L s.heap (kstB m' [(Str.ofString "script", .ref sa), (Str.ofString "salt", .ref dS), (Str.ofString "many", .int (1 + (rn : Int)) tk8), (Str.ofString "scale", .int sc tkS)])) (N1 : News h₀ L s.heap [(x, instObj 144 dx), (dx, oDict D al hn2 pn), (al, oList avs an), (hn2, oList hvs hnn), (pn, oList pvs pnn), (D9, oList ys ys.length), (dS, od), (rl2, oList rvs2 0), (L + 1 + 1, oR2), (L + 1, oC)])
    (dR : oR2.data = Data.cell (some (.ref rl2))) (dC : oC.data = Data.cell (some (.ref x)))
    (hdp : dp + 600 < recursionLimit) (hun : un + 2600 < cLine)
    (hE : PassesOwn (model PySem.Challenge.rw_rg0205_01.row.prog w) ⟨none, dp, some ((envOfC (Str.ofString "law") tail11.2 L fa wc) :: outer), gd, un⟩ (envOfC (Str.ofString "law") tail11.2 L fa wc) E)
    (hact : IntsAre avs act) (hH : IntsAre hvs H) (hP : IntsAre pvs P) (hal : act.length = rn + 2) (hrn : rn < 12) (hG : Good (rn + 2) H P) (hHR : H.Perm R) (hO2 : Ord act H H.length)
    (hod25 : od.IsDictOf (strKind PySem.Challenge.rw_rg0205_01.row.prog w) [(Str.ofString "cells", .ref D9), (Str.ofString "at", .int cn ta)]) (hcn0 : 0 ≤ cn) (hcn2 : cn ≤ 40) (hsc0 : 0 ≤ sc) (hys' : IntsAre ys cells) (hcl : cells.length ≤ 1000)
    (hI2 : IntsAre rvs2 R) (hRl : R.length = q) (hRn : R.Nodup) (hRm : ∀ v ∈ R, 1 ≤ v ∧ v ≤ ((rn + 1 : Nat) : Int)) (hq1 : 1 ≤ q) (hq2 : q ≤ rn + 1)
    (ap : Apart [pn, hn2, rl2, al, x, dx, D9, dS, L + 1 + 1, L + 1]) (o1 : Hide (@LT.lt Nat _ dx x)) (o2 : Hide (@LT.lt Nat _ x al)) (o3 : Hide (@LT.lt Nat _ al hn2)) (o5 : Hide (@LT.lt Nat _ hn2 pn))
    (k : ∀ h' tk' m', Fr h₀ L h' m' → Q (.ret (.bool true)) { s with heap := h', toks := tk' }) :
    wpAny (model PySem.Challenge.rw_rg0205_01.row.prog w) ⟨none, dp, some ((envOfC (Str.ofString "law") tail11.2 L fa wc) :: outer), gd, un⟩ (execs tail11.1 (envOfC (Str.ofString "law") tail11.2 L fa wc)) Q E s := by
  refine cx_elim C' fun A₀ base mean mg mb B X T hf hke => ?_
  revert X
  k_fill
  intro X
  replace hdp := hide_of hdp
  replace hun := hide_of hun
  unfold tail11 tail0 at *
  dsimp only [List.drop] at *
  have lvR := IntsAre.length hI2
  have hlH := hHR.length_eq
  have lvA := IntsAre.length hact
  have lvH := IntsAre.length hH
  have lvP := IntsAre.length hP
  (repeat' (first | (k_unfold; (try dsimp only)) | (k_end; wrow_close) | ((with_reducible show wpAny _ _ (exec (Stmt.Assign [Expr.Tuple _ _ _] _ _) _) _ _ _); refine Assign_Tuple_swapped (names := [Str.ofString "spot", Str.ofString "more"]) ?_ (by rfl) (by rfl)) | walk1 | (dsimp only; walk1) | (leave1; walk_say "STEP leave1"; try dsimp only) | fail "no step"))
  refine stop_go (For_turns F1 ?_ (hE := hE))
  (repeat' (first | (k_unfold; (try dsimp only)) | (k_end; wrow_close) | ((with_reducible show wpAny _ _ (exec (Stmt.Assign [Expr.Tuple _ _ _] _ _) _) _ _ _); refine Assign_Tuple_swapped (names := [Str.ofString "spot", Str.ofString "more"]) ?_ (by rfl) (by rfl)) | walk1 | (dsimp only; walk1) | (leave1; walk_say "STEP leave1"; try dsimp only) | fail "no step"))
  rename_i hR hF hN hK
  refine stop_go (iter_rangeR (n := 3) (by rfl) hF hN hR (by decide) (by rfl) fun I3 lI3 => ?_)
  have lI4 := allLt_of lI3
  dsimp only [AllLt] at lI4
  have ap := ap_cons ap (by repeat (first | exact True.intro | (refine And.intro (by (first | exact lI4.1 | exact lI4.2.1 | exact lI4.2.2.1 | exact lI4.2.2.2.1 | exact lI4.2.2.2.2.1 | exact lI4.2.2.2.2.2.1 | exact lI4.2.2.2.2.2.2.1 | exact lI4.2.2.2.2.2.2.2.1 | exact lI4.2.2.2.2.2.2.2.2.1 | exact lI4.2.2.2.2.2.2.2.2.2.1 | exact lI4.2.2.2.2.2.2.2.2.2.2.1 | exact lI4.2.2.2.2.2.2.2.2.2.2.2.1 | exact lI4.2.2.2.2.2.2.2.2.2.2.2.2.1 | exact lI4.2.2.2.2.2.2.2.2.2.2.2.2.2.1 | exact lI4 | exact lI4.2 | exact lI4.2.2 | exact lI4.2.2.2 | exact lI4.2.2.2.2 | exact lI4.2.2.2.2.2 | exact lI4.2.2.2.2.2.2 | exact lI4.2.2.2.2.2.2.2 | exact lI4.2.2.2.2.2.2.2.2 | exact lI4.2.2.2.2.2.2.2.2.2 | exact lI4.2.2.2.2.2.2.2.2.2.2 | exact lI4.2.2.2.2.2.2.2.2.2.2.2 | exact lI4.2.2.2.2.2.2.2.2.2.2.2.2 | exact lI4.2.2.2.2.2.2.2.2.2.2.2.2.2)) ?_)))
  clear lI3 lI4
  obtain ⟨Inv, hInv⟩ : ∃ I : Nat → (Str → Option Value) → List (Addr × Obj) → Prop, Hide ((∀ (i : Nat) (m₁ : Str → Option Value) (nw : List (Addr × Obj)), (∃ m', m₁ = kstB m' [(Str.ofString "script", .ref sa), (Str.ofString "salt", .ref dS), (Str.ofString "many", .int (1 + (rn : Int)) tk8), (Str.ofString "scale", .int sc tkS)]) → ∀ avs an hvs hnn pvs pnn act H P od ta cn, nw = [(x, instObj 144 dx), (dx, oDict D al hn2 pn), (al, oList avs an), (hn2, oList hvs hnn), (pn, oList pvs pnn), (D9, oList ys ys.length), (dS, od), (rl2, oList rvs2 0), (L + 1 + 1, oR2), (L + 1, oC)] → (IntsAre avs act) → (IntsAre hvs H) → (IntsAre pvs P) → (act.length = rn + 2) → (Good (rn + 2) H P) → (H.Perm R) → (Ord act H H.length) → (od.IsDictOf (strKind PySem.Challenge.rw_rg0205_01.row.prog w) [(Str.ofString "cells", .ref D9), (Str.ofString "at", .int cn ta)]) → (0 ≤ cn) → (cn ≤ 40 + 2 * (i : Int)) → I i m₁ nw) ∧ (∀ (i : Nat) (C : (Str → Option Value) → List (Addr × Obj) → Prop), (∀ m' avs an hvs hnn pvs pnn act H P od ta cn, (IntsAre avs act) → (IntsAre hvs H) → (IntsAre pvs P) → (act.length = rn + 2) → (Good (rn + 2) H P) → (H.Perm R) → (Ord act H H.length) → (od.IsDictOf (strKind PySem.Challenge.rw_rg0205_01.row.prog w) [(Str.ofString "cells", .ref D9), (Str.ofString "at", .int cn ta)]) → (0 ≤ cn) → (cn ≤ 40 + 2 * (i : Int)) → C (kstB m' [(Str.ofString "script", .ref sa), (Str.ofString "salt", .ref dS), (Str.ofString "many", .int (1 + (rn : Int)) tk8), (Str.ofString "scale", .int sc tkS)]) [(x, instObj 144 dx), (dx, oDict D al hn2 pn), (al, oList avs an), (hn2, oList hvs hnn), (pn, oList pvs pnn), (D9, oList ys ys.length), (dS, od), (rl2, oList rvs2 0), (L + 1 + 1, oR2), (L + 1, oC)]) → ∀ m₁ nw, I i m₁ nw → C m₁ nw)) := ⟨fun i m₁ nw => (∃ m', m₁ = kstB m' [(Str.ofString "script", .ref sa), (Str.ofString "salt", .ref dS), (Str.ofString "many", .int (1 + (rn : Int)) tk8), (Str.ofString "scale", .int sc tkS)]) ∧ ∃ avs an hvs hnn pvs pnn act H P od ta cn, nw = [(x, instObj 144 dx), (dx, oDict D al hn2 pn), (al, oList avs an), (hn2, oList hvs hnn), (pn, oList pvs pnn), (D9, oList ys ys.length), (dS, od), (rl2, oList rvs2 0), (L + 1 + 1, oR2), (L + 1, oC)] ∧ IntsAre avs act ∧ IntsAre hvs H ∧ IntsAre pvs P ∧ act.length = rn + 2 ∧ Good (rn + 2) H P ∧ H.Perm R ∧ Ord act H H.length ∧ od.IsDictOf (strKind PySem.Challenge.rw_rg0205_01.row.prog w) [(Str.ofString "cells", .ref D9), (Str.ofString "at", .int cn ta)] ∧ 0 ≤ cn ∧ cn ≤ 40 + 2 * (i : Int), fun i m₁ nw h0 avs an hvs hnn pvs pnn act H P od ta cn h1 g0 g1 g2 g3 g4 g5 g6 g7 g8 g9 => ⟨h0, avs, an, hvs, hnn, pvs, pnn, act, H, P, od, ta, cn, h1, g0, g1, g2, g3, g4, g5, g6, g7, g8, g9⟩, by rintro i C k m₁ nw ⟨⟨m', rfl⟩, avs, an, hvs, hnn, pvs, pnn, act, H, P, od, ta, cn, rfl, g0, g1, g2, g3, g4, g5, g6, g7, g8, g9⟩; exact k m' avs an hvs hnn pvs pnn act H P od ta cn g0 g1 g2 g3 g4 g5 g6 g7 g8 g9⟩
  refine items_inv Inv (hInv.out.1 _ _ _ ⟨m', rfl⟩ _ _ _ _ _ _ _ _ _ _ _ _ rfl hact hH hP hal hG hHR hO2 hod25 (by (first | (apply ap_x; assumption; (repeat constructor); done) | (refine Nat.ne_of_gt ?_; simp only [*]; done) | (refine Nat.ne_of_lt ?_; simp only [*]; done) | ((fail_if_success (fail_if_success omega (config := {}))); (first | with_reducible assumption | decide | lia | omega (config := {}))))) (by (first | (apply ap_x; assumption; (repeat constructor); done) | (refine Nat.ne_of_gt ?_; simp only [*]; done) | (refine Nat.ne_of_lt ?_; simp only [*]; done) | ((fail_if_success (fail_if_success omega (config := {}))); (first | with_reducible assumption | decide | lia | omega (config := {})))))) ?_ ?_
  · skip
    try clear hact
    try clear hH
    try clear hP
    try clear hal
    try clear hG
    try clear hHR
    try clear hO2
    try clear hod25
    try clear hO
    try clear hlH
    try clear lvH
    try clear lvP
    try clear F1
    try clear N1
    try clear hF
    try clear hN
    try clear hK
    try clear hR
    rintro i a m₁ nw v1 hh1 tk1 hxa hinv hav
    revert m₁ nw hinv
    refine hInv.out.2 _ _ ?_
    intro m' avs an hvs hnn pvs pnn act H P od ta cn hact hH hP hal hG hHR hO hod hcn0 hcn1 F1
    revert a v1 hxa hav
    refine rng_elim ?_
    intro hi tt
    refine AllObj.cons fun oI hcI => AllObj.nil fun N1 => ?_
    dsimp only [List.cons_append, List.nil_append] at N1
    have hlH := hHR.length_eq
    have lvA := IntsAre.length hact
    have lvH := IntsAre.length hH
    have lvP := IntsAre.length hP
    have hGl := hG.len
    try k_fold
    (repeat' (first | (k_unfold; (try dsimp only)) | (k_end; wrow_close) | ((with_reducible show wpAny _ _ (exec (Stmt.Assign [Expr.Tuple _ _ _] _ _) _) _ _ _); refine Assign_Tuple_swapped (names := [Str.ofString "spot", Str.ofString "more"]) ?_ (by rfl) (by rfl)) | walk1 | (dsimp only; walk1) | (leave1; walk_say "STEP leave1"; try dsimp only) | fail "no step"))
    have N8 := ‹News _ _ _ _›
    have F8 := ‹Fr _ _ _ _›
    try dsimp only at F8 N8 ⊢
    have w1 : 0 ≤ cn + 1 + 1 := by (first | (apply ap_x; assumption; (repeat constructor); done) | (refine Nat.ne_of_gt ?_; simp only [*]; done) | (refine Nat.ne_of_lt ?_; simp only [*]; done) | ((fail_if_success (fail_if_success omega (config := {}))); (first | with_reducible assumption | decide | lia | omega (config := {}))))
    have w2 : cn + 1 + 1 ≤ 40 + 2 * ((i + 1 : Nat) : Int) := by (first | (apply ap_x; assumption; (repeat constructor); done) | (refine Nat.ne_of_gt ?_; simp only [*]; done) | (refine Nat.ne_of_lt ?_; simp only [*]; done) | ((fail_if_success (fail_if_success omega (config := {}))); (first | with_reducible assumption | decide | lia | omega (config := {}))))
    refine stop_go (pinch_spec C' F8 (cb_drop N8 (by (first | ((repeat (first | exact sub_nil | refine sub_cons 0 rfl ?_ | refine sub_cons 1 rfl ?_ | refine sub_cons 2 rfl ?_ | refine sub_cons 3 rfl ?_ | refine sub_cons 4 rfl ?_ | refine sub_cons 5 rfl ?_ | refine sub_cons 6 rfl ?_ | refine sub_cons 7 rfl ?_ | refine sub_cons 8 rfl ?_ | refine sub_cons 9 rfl ?_ | refine sub_cons 10 rfl ?_ | refine sub_cons 11 rfl ?_ | refine sub_cons 12 rfl ?_ | refine sub_cons 13 rfl ?_)); done) | kcf_all))) (room hdp.out rfl) (room hun.out rfl) (by (first | (apply ap_x; assumption; (repeat constructor); done) | (refine Nat.ne_of_gt ?_; simp only [*]; done) | (refine Nat.ne_of_lt ?_; simp only [*]; done) | ((fail_if_success (fail_if_success omega (config := {}))); (first | with_reducible assumption | decide | lia | omega (config := {}))))) hod hys' (by (first | (apply ap_x; assumption; (repeat constructor); done) | (refine Nat.ne_of_gt ?_; simp only [*]; done) | (refine Nat.ne_of_lt ?_; simp only [*]; done) | ((fail_if_success (fail_if_success omega (config := {}))); (first | with_reducible assumption | decide | lia | omega (config := {}))))) (by (first | (apply ap_x; assumption; (repeat constructor); done) | (refine Nat.ne_of_gt ?_; simp only [*]; done) | (refine Nat.ne_of_lt ?_; simp only [*]; done) | ((fail_if_success (fail_if_success omega (config := {}))); (first | with_reducible assumption | decide | lia | omega (config := {}))))) (by (first | (apply ap_x; assumption; (repeat constructor); done) | (refine Nat.ne_of_gt ?_; simp only [*]; done) | (refine Nat.ne_of_lt ?_; simp only [*]; done) | ((fail_if_success (fail_if_success omega (config := {}))); (first | with_reducible assumption | decide | lia | omega (config := {}))))) (by (first | (apply ap_x; assumption; (repeat constructor); done) | (refine Nat.ne_of_gt ?_; simp only [*]; done) | (refine Nat.ne_of_lt ?_; simp only [*]; done) | ((fail_if_success (fail_if_success omega (config := {}))); (first | with_reducible assumption | decide | lia | omega (config := {}))))) (by (first | (apply ap_x; assumption; (repeat constructor); done) | (refine Nat.ne_of_gt ?_; simp only [*]; done) | (refine Nat.ne_of_lt ?_; simp only [*]; done) | ((fail_if_success (fail_if_success omega (config := {}))); (first | with_reducible assumption | decide | lia | omega (config := {}))))) ?_)
    intro h15 tk15 r15 u15 ta15 od15 r150 r151 hod15 F15 N15 K15
    have N16 := news_re N8 (by repeat (first | exact Rest.nil | (apply Rest.keep; focus ((repeat (first | exact off_nil | (refine off_cons ?_ ?_; focus (first | (apply ap_x; assumption; (repeat constructor); done) | (refine Nat.ne_of_gt ?_; simp only [*]; done) | (refine Nat.ne_of_lt ?_; simp only [*]; done) | ((fail_if_success (fail_if_success omega (config := {}))); (first | with_reducible assumption | decide | lia | omega (config := {}))))))); done)) | apply Rest.skip)) K15 N15
    dsimp only [List.cons_append, List.nil_append] at N16
    try clear F8
    try clear N8
    try clear N15
    try clear K15
    obtain ⟨kn, rfl⟩ := Int.eq_ofNat_of_zero_le r150
    (repeat' (first | (k_unfold; (try dsimp only)) | (k_end; wrow_close) | ((with_reducible show wpAny _ _ (exec (Stmt.Assign [Expr.Tuple _ _ _] _ _) _) _ _ _); refine Assign_Tuple_swapped (names := [Str.ofString "spot", Str.ofString "more"]) ?_ (by rfl) (by rfl)) | walk1 | (dsimp only; walk1) | (leave1; walk_say "STEP leave1"; try dsimp only) | fail "no step"))
    have N18 := ‹News _ _ _ _›
    have F18 := ‹Fr _ _ _ _›
    try dsimp only at F18 N18 ⊢
    refine stop_go (pinch_spec C' F18 (cb_drop N18 (by (first | ((repeat (first | exact sub_nil | refine sub_cons 0 rfl ?_ | refine sub_cons 1 rfl ?_ | refine sub_cons 2 rfl ?_ | refine sub_cons 3 rfl ?_ | refine sub_cons 4 rfl ?_ | refine sub_cons 5 rfl ?_ | refine sub_cons 6 rfl ?_ | refine sub_cons 7 rfl ?_ | refine sub_cons 8 rfl ?_ | refine sub_cons 9 rfl ?_ | refine sub_cons 10 rfl ?_ | refine sub_cons 11 rfl ?_ | refine sub_cons 12 rfl ?_ | refine sub_cons 13 rfl ?_)); done) | kcf_all))) (room hdp.out rfl) (room hun.out rfl) (by (first | (apply ap_x; assumption; (repeat constructor); done) | (refine Nat.ne_of_gt ?_; simp only [*]; done) | (refine Nat.ne_of_lt ?_; simp only [*]; done) | ((fail_if_success (fail_if_success omega (config := {}))); (first | with_reducible assumption | decide | lia | omega (config := {}))))) hod15 hys' (by (first | (apply ap_x; assumption; (repeat constructor); done) | (refine Nat.ne_of_gt ?_; simp only [*]; done) | (refine Nat.ne_of_lt ?_; simp only [*]; done) | ((fail_if_success (fail_if_success omega (config := {}))); (first | with_reducible assumption | decide | lia | omega (config := {}))))) (by (first | (apply ap_x; assumption; (repeat constructor); done) | (refine Nat.ne_of_gt ?_; simp only [*]; done) | (refine Nat.ne_of_lt ?_; simp only [*]; done) | ((fail_if_success (fail_if_success omega (config := {}))); (first | with_reducible assumption | decide | lia | omega (config := {}))))) (by (first | (apply ap_x; assumption; (repeat constructor); done) | (refine Nat.ne_of_gt ?_; simp only [*]; done) | (refine Nat.ne_of_lt ?_; simp only [*]; done) | ((fail_if_success (fail_if_success omega (config := {}))); (first | with_reducible assumption | decide | lia | omega (config := {}))))) (by (first | (apply ap_x; assumption; (repeat constructor); done) | (refine Nat.ne_of_gt ?_; simp only [*]; done) | (refine Nat.ne_of_lt ?_; simp only [*]; done) | ((fail_if_success (fail_if_success omega (config := {}))); (first | with_reducible assumption | decide | lia | omega (config := {}))))) (by (first | (apply ap_x; assumption; (repeat constructor); done) | (refine Nat.ne_of_gt ?_; simp only [*]; done) | (refine Nat.ne_of_lt ?_; simp only [*]; done) | ((fail_if_success (fail_if_success omega (config := {}))); (first | with_reducible assumption | decide | lia | omega (config := {}))))) ?_)
    intro h19 tk19 r19 u19 ta19 od19 r190 r191 hod19 F19 N19 K19
    have N20 := news_re N18 (by repeat (first | exact Rest.nil | (apply Rest.keep; focus ((repeat (first | exact off_nil | (refine off_cons ?_ ?_; focus (first | (apply ap_x; assumption; (repeat constructor); done) | (refine Nat.ne_of_gt ?_; simp only [*]; done) | (refine Nat.ne_of_lt ?_; simp only [*]; done) | ((fail_if_success (fail_if_success omega (config := {}))); (first | with_reducible assumption | decide | lia | omega (config := {}))))))); done)) | apply Rest.skip)) K19 N19
    dsimp only [List.cons_append, List.nil_append] at N20
    try clear F18
    try clear N18
    try clear N19
    try clear K19
    try clear F15
    try clear N16
    have hkn : kn < H.length := by (first | (apply ap_x; assumption; (repeat constructor); done) | (refine Nat.ne_of_gt ?_; simp only [*]; done) | (refine Nat.ne_of_lt ?_; simp only [*]; done) | ((fail_if_success (fail_if_success omega (config := {}))); (first | with_reducible assumption | decide | lia | omega (config := {}))))
    have gs : 0 ≤ H.getD ((kn : Nat) : Int).toNat 0 ∧ H.getD ((kn : Nat) : Int).toNat 0 < act.length := by rw [hal]; exact (hG.range).at hkn
    have hmul : 0 ≤ sc * r19 := Int.mul_nonneg hsc0 r190
    (repeat' (first | (k_unfold; (try dsimp only)) | (k_end; wrow_close) | ((with_reducible show wpAny _ _ (exec (Stmt.Assign [Expr.Tuple _ _ _] _ _) _) _ _ _); refine Assign_Tuple_swapped (names := [Str.ofString "spot", Str.ofString "more"]) ?_ (by rfl) (by rfl)) | walk1 | (dsimp only; walk1) | (leave1; walk_say "STEP leave1"; try dsimp only) | fail "no step"))
    have N21 := ‹News _ _ _ _›
    have F21 := ‹Fr _ _ _ _›
    try dsimp only at F21 N21 ⊢
    have hia := ‹IntsAre (avs.set _ _) _›
    have hia2 : IntsAre _ (act.set (H.getD kn 0).toNat (act.getD (H.getD kn 0).toNat 0 + sc * r19)) := hia
    have hnb := nearly_bump hG hal hO hkn hmul
    have hal2 : (act.set (H.getD kn 0).toNat (act.getD (H.getD kn 0).toNat 0 + sc * r19)).length = rn + 2 := by rw [List.length_set]; exact hal
    clear hia
    generalize act.set (H.getD kn 0).toNat (act.getD (H.getD kn 0).toNat 0 + sc * r19) = act2 at hnb hia2 hal2
    have bb := rise_ok (sp := kn) (many := H.length) hkn hG (Nat.le_refl _) hkn hnb
    have b1 := bb.1
    have b2 := bb.2.1
    have b3 := bb.2.2.1
    have b4 := bb.2.2.2
    clear bb
    have b2l := b2.len
    have b2p := b2.placeOK
    have b2r := b2.range
    refine stop_go (risen_spec (spot := ((kn : Nat) : Int)) C' F21 (cb_drop N21 (by (first | ((repeat (first | exact sub_nil | refine sub_cons 0 rfl ?_ | refine sub_cons 1 rfl ?_ | refine sub_cons 2 rfl ?_ | refine sub_cons 3 rfl ?_ | refine sub_cons 4 rfl ?_ | refine sub_cons 5 rfl ?_ | refine sub_cons 6 rfl ?_ | refine sub_cons 7 rfl ?_ | refine sub_cons 8 rfl ?_ | refine sub_cons 9 rfl ?_ | refine sub_cons 10 rfl ?_ | refine sub_cons 11 rfl ?_ | refine sub_cons 12 rfl ?_ | refine sub_cons 13 rfl ?_)); done) | kcf_all))) (room hdp.out rfl) (room hun.out rfl) o1.out o2.out o3.out o5.out hia2 hH hP (by (first | (apply ap_x; assumption; (repeat constructor); done) | (refine Nat.ne_of_gt ?_; simp only [*]; done) | (refine Nat.ne_of_lt ?_; simp only [*]; done) | ((fail_if_success (fail_if_success omega (config := {}))); (first | with_reducible assumption | decide | lia | omega (config := {}))))) (by (first | (apply ap_x; assumption; (repeat constructor); done) | (refine Nat.ne_of_gt ?_; simp only [*]; done) | (refine Nat.ne_of_lt ?_; simp only [*]; done) | ((fail_if_success (fail_if_success omega (config := {}))); (first | with_reducible assumption | decide | lia | omega (config := {}))))) (by (first | (apply ap_x; assumption; (repeat constructor); done) | (refine Nat.ne_of_gt ?_; simp only [*]; done) | (refine Nat.ne_of_lt ?_; simp only [*]; done) | ((fail_if_success (fail_if_success omega (config := {}))); (first | with_reducible assumption | decide | lia | omega (config := {}))))) (by rw [hal2]; exact hGl) (by (first | (apply ap_x; assumption; (repeat constructor); done) | (refine Nat.ne_of_gt ?_; simp only [*]; done) | (refine Nat.ne_of_lt ?_; simp only [*]; done) | ((fail_if_success (fail_if_success omega (config := {}))); (first | with_reducible assumption | decide | lia | omega (config := {}))))) (by (first | (apply ap_x; assumption; (repeat constructor); done) | (refine Nat.ne_of_gt ?_; simp only [*]; done) | (refine Nat.ne_of_lt ?_; simp only [*]; done) | ((fail_if_success (fail_if_success omega (config := {}))); (first | with_reducible assumption | decide | lia | omega (config := {}))))) (by rw [hal2]; exact hG.range) b1 (by rw [hal2]; exact b2l) (by rw [hal2]; exact b2p) ?_)
    intro h22 tk22 hvs22 nh22 pvs22 np22 hh22 hp22 F22 N22 K22
    have N23 := news_re N21 (by repeat (first | exact Rest.nil | (apply Rest.keep; focus ((repeat (first | exact off_nil | (refine off_cons ?_ ?_; focus (first | (apply ap_x; assumption; (repeat constructor); done) | (refine Nat.ne_of_gt ?_; simp only [*]; done) | (refine Nat.ne_of_lt ?_; simp only [*]; done) | ((fail_if_success (fail_if_success omega (config := {}))); (first | with_reducible assumption | decide | lia | omega (config := {}))))))); done)) | apply Rest.skip)) K22 N22
    dsimp only [List.cons_append, List.nil_append] at N23
    try clear F21
    try clear N21
    try clear N22
    try clear K22
    replace hh22 : IntsAre hvs22 (dueL act2 H kn) := hh22
    have lv22 := IntsAre.length hh22
    have b4l := b4.length_eq
    (repeat' (first | (k_unfold; (try dsimp only)) | (k_end; wrow_close) | ((with_reducible show wpAny _ _ (exec (Stmt.Assign [Expr.Tuple _ _ _] _ _) _) _ _ _); refine Assign_Tuple_swapped (names := [Str.ofString "spot", Str.ofString "more"]) ?_ (by rfl) (by rfl)) | walk1 | (dsimp only; walk1) | (leave1; walk_say "STEP leave1"; try dsimp only) | fail "no step"))
    have N24 := ‹News _ _ _ _›
    have F24 := ‹Fr _ _ _ _›
    try dsimp only at F24 N24 ⊢
    have b3z : ∀ z : Int, z = (H.length : Int) → Ord act2 (dueL act2 H kn) z.toNat := fun z hz => by subst hz; exact b3
    refine stop_go (ordered_spec C' F24 (cb_drop N24 (by (first | ((repeat (first | exact sub_nil | refine sub_cons 0 rfl ?_ | refine sub_cons 1 rfl ?_ | refine sub_cons 2 rfl ?_ | refine sub_cons 3 rfl ?_ | refine sub_cons 4 rfl ?_ | refine sub_cons 5 rfl ?_ | refine sub_cons 6 rfl ?_ | refine sub_cons 7 rfl ?_ | refine sub_cons 8 rfl ?_ | refine sub_cons 9 rfl ?_ | refine sub_cons 10 rfl ?_ | refine sub_cons 11 rfl ?_ | refine sub_cons 12 rfl ?_ | refine sub_cons 13 rfl ?_)); done) | kcf_all))) (room hdp.out rfl) (room hun.out rfl) o1.out o2.out o3.out o5.out hia2 hh22 (by (first | (apply ap_x; assumption; (repeat constructor); done) | (refine Nat.ne_of_gt ?_; simp only [*]; done) | (refine Nat.ne_of_lt ?_; simp only [*]; done) | ((fail_if_success (fail_if_success omega (config := {}))); (first | with_reducible assumption | decide | lia | omega (config := {}))))) (by (first | (apply ap_x; assumption; (repeat constructor); done) | (refine Nat.ne_of_gt ?_; simp only [*]; done) | (refine Nat.ne_of_lt ?_; simp only [*]; done) | ((fail_if_success (fail_if_success omega (config := {}))); (first | with_reducible assumption | decide | lia | omega (config := {}))))) (by (first | (apply ap_x; assumption; (repeat constructor); done) | (refine Nat.ne_of_gt ?_; simp only [*]; done) | (refine Nat.ne_of_lt ?_; simp only [*]; done) | ((fail_if_success (fail_if_success omega (config := {}))); (first | with_reducible assumption | decide | lia | omega (config := {}))))) (by (first | (apply ap_x; assumption; (repeat constructor); done) | (refine Nat.ne_of_gt ?_; simp only [*]; done) | (refine Nat.ne_of_lt ?_; simp only [*]; done) | ((fail_if_success (fail_if_success omega (config := {}))); (first | with_reducible assumption | decide | lia | omega (config := {}))))) (by rw [hal2]; exact b2r) (b3z _ (by (first | (apply ap_x; assumption; (repeat constructor); done) | (refine Nat.ne_of_gt ?_; simp only [*]; done) | (refine Nat.ne_of_lt ?_; simp only [*]; done) | ((fail_if_success (fail_if_success omega (config := {}))); (first | with_reducible assumption | decide | lia | omega (config := {})))))) ?_)
    intro h25 tk25 F25 K25
    have N26 := news_all N24 K25
    try clear F24
    try clear N24
    try clear K25
    (repeat' (first | (k_unfold; (try dsimp only)) | (k_end; wrow_close) | ((with_reducible show wpAny _ _ (exec (Stmt.Assign [Expr.Tuple _ _ _] _ _) _) _ _ _); refine Assign_Tuple_swapped (names := [Str.ofString "spot", Str.ofString "more"]) ?_ (by rfl) (by rfl)) | walk1 | (dsimp only; walk1) | (leave1; walk_say "STEP leave1"; try dsimp only) | fail "no step"))
    have N27 := ‹News _ _ _ _›
    have F27 := ‹Fr _ _ _ _›
    try dsimp only at F27 N27
    have b3q : Ord act2 (dueL act2 H kn) (dueL act2 H kn).length := by rw [b4l]; exact b3
    refine stop_go (UnrEndW.intro F27 N27 [(x, instObj 144 dx), (dx, oDict D al hn2 pn), (al, oList _ _), (hn2, oList hvs22 nh22), (pn, oList pvs22 np22), (D9, oList ys ys.length), (dS, od19), (rl2, oList rvs2 0), (L + 1 + 1, oR2), (L + 1, oC)] (by k_subL) (by k_subL) (by ktu_offL) ?_)
    refine ⟨by k_subL, hInv.out.1 _ _ _ (canon (by kst_all)) _ _ _ _ _ _ _ _ _ _ _ _ rfl hia2 hh22 hp22 hal2 b2 (b4.trans hHR) b3q hod19 w1 w2⟩
  · skip
    try clear hact
    try clear hH
    try clear hP
    try clear hal
    try clear hG
    try clear hHR
    try clear hO2
    try clear hod25
    try clear hO
    try clear hlH
    try clear lvH
    try clear lvP
    try clear F1
    try clear N1
    try clear hF
    try clear hN
    try clear hK
    try clear hR
    rintro m₁ nw hh1 tk1 hinv
    revert m₁ nw hinv
    refine hInv.out.2 _ _ ?_
    intro m' avs an hvs hnn pvs pnn act H P od ta cn hact hH hP hal hG hHR hO hod hcn0 hcn1 F1 N1
    have hlH := hHR.length_eq
    have lvA := IntsAre.length hact
    have lvH := IntsAre.length hH
    have lvP := IntsAre.length hP
    rw [rangeItems_length] at hcn1
    have hcn3 : cn ≤ 46 := by (first | (apply ap_x; assumption; (repeat constructor); done) | (refine Nat.ne_of_gt ?_; simp only [*]; done) | (refine Nat.ne_of_lt ?_; simp only [*]; done) | ((fail_if_success (fail_if_success omega (config := {}))); (first | with_reducible assumption | decide | lia | omega (config := {}))))
    clear hcn1
    dsimp only
    exact due_law (fa := fa) (wc := wc) (D := D) (rn := rn) (q := q) C' F1 N1 dR dC (room hdp.out rfl) (room hun.out rfl) hact hH hP hal hrn hG hHR hO hod hcn0 hcn3 hys' hcl hI2 hRl hRn hRm hq1 hq2 (ap_sub ap (by (repeat (first | exact List.nil_sublist _ | (with_reducible refine List.Sublist.cons_cons _ ?_) | (with_reducible refine List.Sublist.cons _ ?_))))) o1 o2 o3 o5 k
-- RgE2
noncomputable def tail10 : List Stmt × Scope := (tail0.1.1.drop 10, tail0.1.2)

theorem spots_law {w : World} {outer : List Env} {fa L : Addr} {wc : Value} {h₀ : Heap} {m' : Str → Option Value} {dp un : Nat} {gd : Option (List Code)} {s : Shared} {Q : Flow → Shared → Prop} {E : Value → Shared → Prop}
    {sa dS x dx al hn2 pn D9 rl2 : Addr} {D : DP} {rn q : Nat} {tk8 tkS ta : Tok} {sc cn : Int} {avs hvs pvs ys rvs2 : List Value} {an hnn pnn : Nat} {od oR2 oC : Obj} {act H P R cells : List Int}
    (C' : Cx w (envOfC (Str.ofString "law") tail10.2 L fa wc) outer L h₀) (F1 : Fr h₀ L s.heap (kstB m' [(Str.ofString "script", .ref sa), (Str.ofString "salt", .ref dS), (Str.ofString "many", .int (1 + (rn : Int)) tk8), (Str.ofString "scale", .int sc tkS)])) (N1 : News h₀ L s.heap [(x, instObj 144 dx), (dx, oDict D al hn2 pn), (al, oList avs an), (hn2, oList hvs hnn), (pn, oList pvs pnn), (D9, oList ys ys.length), (dS, od), (rl2, oList rvs2 0), (L + 1 + 1, oR2), (L + 1, oC)])
    (dR : oR2.data = Data.cell (some (.ref rl2))) (dC : oC.data = Data.cell (some (.ref x)))
    (hdp : dp + 650 < recursionLimit) (hun : un + 2700 < cLine)
    (hE : PassesOwn (model PySem.Challenge.rw_rg0205_01.row.prog w) ⟨none, dp, some ((envOfC (Str.ofString "law") tail10.2 L fa wc) :: outer), gd, un⟩ (envOfC (Str.ofString "law") tail10.2 L fa wc) E)
    (hact : IntsAre avs act) (hH : IntsAre hvs H) (hP : IntsAre pvs P) (hal : act.length = rn + 2) (hrn : rn < 12) (hG : Good (rn + 2) H P) (hHR : H.Perm R)
    (hod : od.IsDictOf (strKind PySem.Challenge.rw_rg0205_01.row.prog w) [(Str.ofString "cells", .ref D9), (Str.ofString "at", .int cn ta)]) (hcn0 : 0 ≤ cn) (hcn2 : cn ≤ 40) (hsc0 : 0 ≤ sc) (hys' : IntsAre ys cells) (hcl : cells.length ≤ 1000)
    (hI2 : IntsAre rvs2 R) (hRl : R.length = q) (hRn : R.Nodup) (hRm : ∀ v ∈ R, 1 ≤ v ∧ v ≤ ((rn + 1 : Nat) : Int)) (hq1 : 1 ≤ q) (hq2 : q ≤ rn + 1)
    (ap : Apart [pn, hn2, rl2, al, x, dx, D9, dS, L + 1 + 1, L + 1]) (o1 : Hide (@LT.lt Nat _ dx x)) (o2 : Hide (@LT.lt Nat _ x al)) (o3 : Hide (@LT.lt Nat _ al hn2)) (o5 : Hide (@LT.lt Nat _ hn2 pn))
    (k : ∀ h' tk' m', Fr h₀ L h' m' → Q (.ret (.bool true)) { s with heap := h', toks := tk' }) :
    wpAny (model PySem.Challenge.rw_rg0205_01.row.prog w) ⟨none, dp, some ((envOfC (Str.ofString "law") tail10.2 L fa wc) :: outer), gd, un⟩ (execs tail10.1 (envOfC (Str.ofString "law") tail10.2 L fa wc)) Q E s := by
  refine cx_elim C' fun A₀ base mean mg mb B X T hf hke => ?_
  revert X
  k_fill
  intro X
  replace hdp := hide_of hdp
  replace hun := hide_of hun
  unfold tail10 tail0 at *
  dsimp only [List.drop] at *
  have lvR := IntsAre.length hI2
  have hlH := hHR.length_eq
  have lvA := IntsAre.length hact
  have lvH := IntsAre.length hH
  have lvP := IntsAre.length hP
  k_steps
  refine stop_go (For_turns F1 ?_ (hE := hE))
  k_steps
  rename_i hR hF hN hK
  refine stop_go (iter_rangeR (n := q) (by rfl) hF hN hR (small_one (by (first | (apply ap_x; assumption; (repeat constructor); done) | (refine Nat.ne_of_gt ?_; simp only [*]; done) | (refine Nat.ne_of_lt ?_; simp only [*]; done) | ((fail_if_success (fail_if_success omega (config := {}))); (first | with_reducible assumption | decide | lia | omega (config := {}))))) (by (first | (apply ap_x; assumption; (repeat constructor); done) | (refine Nat.ne_of_gt ?_; simp only [*]; done) | (refine Nat.ne_of_lt ?_; simp only [*]; done) | ((fail_if_success (fail_if_success omega (config := {}))); (first | with_reducible assumption | decide | lia | omega (config := {}))))) (by (first | (apply ap_x; assumption; (repeat constructor); done) | (refine Nat.ne_of_gt ?_; simp only [*]; done) | (refine Nat.ne_of_lt ?_; simp only [*]; done) | ((fail_if_success (fail_if_success omega (config := {}))); (first | with_reducible assumption | decide | lia | omega (config := {}))))) (by (first | (apply ap_x; assumption; (repeat constructor); done) | (refine Nat.ne_of_gt ?_; simp only [*]; done) | (refine Nat.ne_of_lt ?_; simp only [*]; done) | ((fail_if_success (fail_if_success omega (config := {}))); (first | with_reducible assumption | decide | lia | omega (config := {})))))) (by rw [rangeSize_nat]; (first | (apply ap_x; assumption; (repeat constructor); done) | (refine Nat.ne_of_gt ?_; simp only [*]; done) | (refine Nat.ne_of_lt ?_; simp only [*]; done) | ((fail_if_success (fail_if_success omega (config := {}))); (first | with_reducible assumption | decide | lia | omega (config := {}))))) fun I lI => ?_)
  have lI2 := allLt_of lI
  dsimp only [AllLt] at lI2
  have ap := ap_cons ap (by repeat (first | exact True.intro | (refine And.intro (by (first | exact lI2.1 | exact lI2.2.1 | exact lI2.2.2.1 | exact lI2.2.2.2.1 | exact lI2.2.2.2.2.1 | exact lI2.2.2.2.2.2.1 | exact lI2.2.2.2.2.2.2.1 | exact lI2.2.2.2.2.2.2.2.1 | exact lI2.2.2.2.2.2.2.2.2.1 | exact lI2.2.2.2.2.2.2.2.2.2.1 | exact lI2.2.2.2.2.2.2.2.2.2.2.1 | exact lI2.2.2.2.2.2.2.2.2.2.2.2.1 | exact lI2.2.2.2.2.2.2.2.2.2.2.2.2.1 | exact lI2.2.2.2.2.2.2.2.2.2.2.2.2.2.1 | exact lI2 | exact lI2.2 | exact lI2.2.2 | exact lI2.2.2.2 | exact lI2.2.2.2.2 | exact lI2.2.2.2.2.2 | exact lI2.2.2.2.2.2.2 | exact lI2.2.2.2.2.2.2.2 | exact lI2.2.2.2.2.2.2.2.2 | exact lI2.2.2.2.2.2.2.2.2.2 | exact lI2.2.2.2.2.2.2.2.2.2.2 | exact lI2.2.2.2.2.2.2.2.2.2.2.2 | exact lI2.2.2.2.2.2.2.2.2.2.2.2.2 | exact lI2.2.2.2.2.2.2.2.2.2.2.2.2.2)) ?_)))
  clear lI lI2
  obtain ⟨Inv, hInv⟩ : ∃ I : Nat → (Str → Option Value) → List (Addr × Obj) → Prop, Hide ((∀ (i : Nat) (m₁ : Str → Option Value) (nw : List (Addr × Obj)), (∃ m', m₁ = kstB m' [(Str.ofString "script", .ref sa), (Str.ofString "salt", .ref dS), (Str.ofString "many", .int (1 + (rn : Int)) tk8), (Str.ofString "scale", .int sc tkS)]) → ∀ hvs hnn pvs pnn H P, nw = [(x, instObj 144 dx), (dx, oDict D al hn2 pn), (al, oList avs an), (hn2, oList hvs hnn), (pn, oList pvs pnn), (D9, oList ys ys.length), (dS, od), (rl2, oList rvs2 0), (L + 1 + 1, oR2), (L + 1, oC)] → (IntsAre hvs H) → (IntsAre pvs P) → (Good (rn + 2) H P) → (H.Perm R) → (Ord act H i) → I i m₁ nw) ∧ (∀ (i : Nat) (C : (Str → Option Value) → List (Addr × Obj) → Prop), (∀ m' hvs hnn pvs pnn H P, (IntsAre hvs H) → (IntsAre pvs P) → (Good (rn + 2) H P) → (H.Perm R) → (Ord act H i) → C (kstB m' [(Str.ofString "script", .ref sa), (Str.ofString "salt", .ref dS), (Str.ofString "many", .int (1 + (rn : Int)) tk8), (Str.ofString "scale", .int sc tkS)]) [(x, instObj 144 dx), (dx, oDict D al hn2 pn), (al, oList avs an), (hn2, oList hvs hnn), (pn, oList pvs pnn), (D9, oList ys ys.length), (dS, od), (rl2, oList rvs2 0), (L + 1 + 1, oR2), (L + 1, oC)]) → ∀ m₁ nw, I i m₁ nw → C m₁ nw)) := ⟨fun i m₁ nw => (∃ m', m₁ = kstB m' [(Str.ofString "script", .ref sa), (Str.ofString "salt", .ref dS), (Str.ofString "many", .int (1 + (rn : Int)) tk8), (Str.ofString "scale", .int sc tkS)]) ∧ ∃ hvs hnn pvs pnn H P, nw = [(x, instObj 144 dx), (dx, oDict D al hn2 pn), (al, oList avs an), (hn2, oList hvs hnn), (pn, oList pvs pnn), (D9, oList ys ys.length), (dS, od), (rl2, oList rvs2 0), (L + 1 + 1, oR2), (L + 1, oC)] ∧ IntsAre hvs H ∧ IntsAre pvs P ∧ Good (rn + 2) H P ∧ H.Perm R ∧ Ord act H i, fun i m₁ nw h0 hvs hnn pvs pnn H P h1 g0 g1 g2 g3 g4 => ⟨h0, hvs, hnn, pvs, pnn, H, P, h1, g0, g1, g2, g3, g4⟩, by rintro i C k m₁ nw ⟨⟨m', rfl⟩, hvs, hnn, pvs, pnn, H, P, rfl, g0, g1, g2, g3, g4⟩; exact k m' hvs hnn pvs pnn H P g0 g1 g2 g3 g4⟩
  refine items_inv Inv (hInv.out.1 _ _ _ ⟨m', rfl⟩ _ _ _ _ _ _ rfl hH hP hG hHR (fun k h1 h2 => absurd h2 (by (first | (apply ap_x; assumption; (repeat constructor); done) | (refine Nat.ne_of_gt ?_; simp only [*]; done) | (refine Nat.ne_of_lt ?_; simp only [*]; done) | ((fail_if_success (fail_if_success omega (config := {}))); (first | with_reducible assumption | decide | lia | omega (config := {}))))))) ?_ ?_
  · rintro i a m₁ nw v1 hh1 tk1 hxa hinv hav
    revert m₁ nw hinv
    refine hInv.out.2 _ _ ?_
    intro m' hvs hnn pvs pnn H P hH hP hG hHR hO F1
    revert a v1 hxa hav
    refine rng_elim ?_
    intro hi tt
    refine AllObj.cons fun oI hcI => AllObj.nil fun N1 => ?_
    dsimp only [List.cons_append, List.nil_append] at N1
    simp only [Int.zero_add]
    have hlH := hHR.length_eq
    have lvH := IntsAre.length hH
    have lvP := IntsAre.length hP
    have hGl := hG.len
    have bb := rise_ok (sp := i) (many := i + 1) (by (first | (apply ap_x; assumption; (repeat constructor); done) | (refine Nat.ne_of_gt ?_; simp only [*]; done) | (refine Nat.ne_of_lt ?_; simp only [*]; done) | ((fail_if_success (fail_if_success omega (config := {}))); (first | with_reducible assumption | decide | lia | omega (config := {}))))) hG (by (first | (apply ap_x; assumption; (repeat constructor); done) | (refine Nat.ne_of_gt ?_; simp only [*]; done) | (refine Nat.ne_of_lt ?_; simp only [*]; done) | ((fail_if_success (fail_if_success omega (config := {}))); (first | with_reducible assumption | decide | lia | omega (config := {}))))) (by (first | (apply ap_x; assumption; (repeat constructor); done) | (refine Nat.ne_of_gt ?_; simp only [*]; done) | (refine Nat.ne_of_lt ?_; simp only [*]; done) | ((fail_if_success (fail_if_success omega (config := {}))); (first | with_reducible assumption | decide | lia | omega (config := {}))))) (nearly_of_ord hO)
    have b1 := bb.1
    have b2 := bb.2.1
    have b3 := bb.2.2.1
    have b4 := bb.2.2.2
    clear bb
    have b2l := b2.len
    have b2p := b2.placeOK
    have b2r := b2.range
    try k_fold
    k_steps
    have N8 := ‹News _ _ _ _›
    have F8 := ‹Fr _ _ _ _›
    try dsimp only at F8 N8 ⊢
    refine stop_go (risen_spec (spot := (i : Int)) C' F8 (cb_drop N8 (by (first | ((repeat (first | exact sub_nil | refine sub_cons 0 rfl ?_ | refine sub_cons 1 rfl ?_ | refine sub_cons 2 rfl ?_ | refine sub_cons 3 rfl ?_ | refine sub_cons 4 rfl ?_ | refine sub_cons 5 rfl ?_ | refine sub_cons 6 rfl ?_ | refine sub_cons 7 rfl ?_ | refine sub_cons 8 rfl ?_ | refine sub_cons 9 rfl ?_ | refine sub_cons 10 rfl ?_ | refine sub_cons 11 rfl ?_ | refine sub_cons 12 rfl ?_ | refine sub_cons 13 rfl ?_)); done) | kcf_all))) (room hdp.out rfl) (room hun.out rfl) o1.out o2.out o3.out o5.out hact hH hP (by (first | (apply ap_x; assumption; (repeat constructor); done) | (refine Nat.ne_of_gt ?_; simp only [*]; done) | (refine Nat.ne_of_lt ?_; simp only [*]; done) | ((fail_if_success (fail_if_success omega (config := {}))); (first | with_reducible assumption | decide | lia | omega (config := {}))))) (by (first | (apply ap_x; assumption; (repeat constructor); done) | (refine Nat.ne_of_gt ?_; simp only [*]; done) | (refine Nat.ne_of_lt ?_; simp only [*]; done) | ((fail_if_success (fail_if_success omega (config := {}))); (first | with_reducible assumption | decide | lia | omega (config := {}))))) (by (first | (apply ap_x; assumption; (repeat constructor); done) | (refine Nat.ne_of_gt ?_; simp only [*]; done) | (refine Nat.ne_of_lt ?_; simp only [*]; done) | ((fail_if_success (fail_if_success omega (config := {}))); (first | with_reducible assumption | decide | lia | omega (config := {}))))) (by rw [hal]; exact hGl) (by (first | (apply ap_x; assumption; (repeat constructor); done) | (refine Nat.ne_of_gt ?_; simp only [*]; done) | (refine Nat.ne_of_lt ?_; simp only [*]; done) | ((fail_if_success (fail_if_success omega (config := {}))); (first | with_reducible assumption | decide | lia | omega (config := {}))))) (by (first | (apply ap_x; assumption; (repeat constructor); done) | (refine Nat.ne_of_gt ?_; simp only [*]; done) | (refine Nat.ne_of_lt ?_; simp only [*]; done) | ((fail_if_success (fail_if_success omega (config := {}))); (first | with_reducible assumption | decide | lia | omega (config := {}))))) (by rw [hal]; exact hG.range) b1 (by rw [hal]; exact b2l) (by rw [hal]; exact b2p) ?_)
    intro h10 tk10 hvs10 nh10 pvs10 np10 hh10 hp10 F10 N10 K10
    have N11 := news_re N8 (by repeat (first | exact Rest.nil | (apply Rest.keep; focus ((repeat (first | exact off_nil | (refine off_cons ?_ ?_; focus (first | (apply ap_x; assumption; (repeat constructor); done) | (refine Nat.ne_of_gt ?_; simp only [*]; done) | (refine Nat.ne_of_lt ?_; simp only [*]; done) | ((fail_if_success (fail_if_success omega (config := {}))); (first | with_reducible assumption | decide | lia | omega (config := {}))))))); done)) | apply Rest.skip)) K10 N10
    dsimp only [List.cons_append, List.nil_append] at N11
    try clear F8
    try clear N8
    try clear N10
    try clear K10
    replace hh10 : IntsAre hvs10 (dueL act H i) := hh10
    have lv10 := IntsAre.length hh10
    have b4l := b4.length_eq
    k_steps
    have N12 := ‹News _ _ _ _›
    have F12 := ‹Fr _ _ _ _›
    try dsimp only at F12 N12 ⊢
    refine stop_go (ordered_spec C' F12 (cb_drop N12 (by (first | ((repeat (first | exact sub_nil | refine sub_cons 0 rfl ?_ | refine sub_cons 1 rfl ?_ | refine sub_cons 2 rfl ?_ | refine sub_cons 3 rfl ?_ | refine sub_cons 4 rfl ?_ | refine sub_cons 5 rfl ?_ | refine sub_cons 6 rfl ?_ | refine sub_cons 7 rfl ?_ | refine sub_cons 8 rfl ?_ | refine sub_cons 9 rfl ?_ | refine sub_cons 10 rfl ?_ | refine sub_cons 11 rfl ?_ | refine sub_cons 12 rfl ?_ | refine sub_cons 13 rfl ?_)); done) | kcf_all))) (room hdp.out rfl) (room hun.out rfl) o1.out o2.out o3.out o5.out hact hh10 (by (first | (apply ap_x; assumption; (repeat constructor); done) | (refine Nat.ne_of_gt ?_; simp only [*]; done) | (refine Nat.ne_of_lt ?_; simp only [*]; done) | ((fail_if_success (fail_if_success omega (config := {}))); (first | with_reducible assumption | decide | lia | omega (config := {}))))) (by (first | (apply ap_x; assumption; (repeat constructor); done) | (refine Nat.ne_of_gt ?_; simp only [*]; done) | (refine Nat.ne_of_lt ?_; simp only [*]; done) | ((fail_if_success (fail_if_success omega (config := {}))); (first | with_reducible assumption | decide | lia | omega (config := {}))))) (by (first | (apply ap_x; assumption; (repeat constructor); done) | (refine Nat.ne_of_gt ?_; simp only [*]; done) | (refine Nat.ne_of_lt ?_; simp only [*]; done) | ((fail_if_success (fail_if_success omega (config := {}))); (first | with_reducible assumption | decide | lia | omega (config := {}))))) (by (first | (apply ap_x; assumption; (repeat constructor); done) | (refine Nat.ne_of_gt ?_; simp only [*]; done) | (refine Nat.ne_of_lt ?_; simp only [*]; done) | ((fail_if_success (fail_if_success omega (config := {}))); (first | with_reducible assumption | decide | lia | omega (config := {}))))) (by rw [hal]; exact b2r) (by rw [show ((i : Int) + 1).toNat = i + 1 by (first | (apply ap_x; assumption; (repeat constructor); done) | (refine Nat.ne_of_gt ?_; simp only [*]; done) | (refine Nat.ne_of_lt ?_; simp only [*]; done) | ((fail_if_success (fail_if_success omega (config := {}))); (first | with_reducible assumption | decide | lia | omega (config := {}))))]; exact b3) ?_)
    intro h13 tk13 F13' K13
    have N14 := news_all N12 K13
    try clear F12
    try clear N12
    try clear K13
    k_steps
    have N17 := ‹News _ _ _ _›
    have F17 := ‹Fr _ _ _ _›
    try dsimp only at F17 N17
    refine stop_go (UnrEndW.intro F17 N17 [(x, instObj 144 dx), (dx, oDict D al hn2 pn), (al, oList avs an), (hn2, oList _ _), (pn, oList _ _), (D9, oList ys ys.length), (dS, od), (rl2, oList rvs2 0), (L + 1 + 1, oR2), (L + 1, oC)] (by k_subL) (by k_subL) (by ktu_offL) ⟨by k_subL, hInv.out.1 _ _ _ (canon (by kst_all)) _ _ _ _ _ _ rfl hh10 hp10 b2 (b4.trans hHR) b3⟩)
  · rintro m₁ nw hh1 tk1 hinv
    revert m₁ nw hinv
    refine hInv.out.2 _ _ ?_
    intro m' hvs hnn pvs pnn H P hH hP hG hHR hO F1 N1
    rw [rangeItems_length] at hO
    have hlH := hHR.length_eq
    have lvH := IntsAre.length hH
    have lvP := IntsAre.length hP
    have hO2 : Ord act H H.length := by rw [hlH, hRl]; exact hO
    dsimp only
    exact laps_law (fa := fa) (wc := wc) (D := D) (rn := rn) (q := q) C' F1 N1 dR dC (room hdp.out rfl) (room hun.out rfl) hE hact hH hP hal hrn hG hHR hO2 hod hcn0 hcn2 hsc0 hys' hcl hI2 hRl hRn hRm hq1 hq2 (ap_sub ap (by (repeat (first | exact List.nil_sublist _ | (with_reducible refine List.Sublist.cons_cons _ ?_) | (with_reducible refine List.Sublist.cons _ ?_))))) o1 o2 o3 o5 k
-- RgE1
noncomputable def tail7 : List Stmt × Scope := (tail0.1.1.drop 7, tail0.1.2)

theorem rows_law {w : World} {outer : List Env} {fa L : Addr} {wc : Value} {h₀ : Heap} {m' : Str → Option Value} {dp un : Nat} {gd : Option (List Code)} {s : Shared} {Q : Flow → Shared → Prop} {E : Value → Shared → Prop}
    {sa dS x dx al hl pl D9 rl : Addr} {D : DP} {rn : Nat} {tk8 tkS ta : Tok} {sc cn : Int} {avs hvs5 pvs5 ys rvs : List Value} {an nh5 np5 rnn : Nat} {od oR oC : Obj} {act row cells : List Int}
    (C' : Cx w (envOfC (Str.ofString "law") tail7.2 L fa wc) outer L h₀) (F1 : Fr h₀ L s.heap (kstB m' [(Str.ofString "script", .ref sa), (Str.ofString "salt", .ref dS), (Str.ofString "many", .int (1 + (rn : Int)) tk8), (Str.ofString "scale", .int sc tkS)])) (N1 : News h₀ L s.heap [(x, instObj 144 dx), (dx, oDict D al hl pl), (al, oList avs an), (hl, oList hvs5 nh5), (pl, oList pvs5 np5), (D9, oList ys ys.length), (dS, od), (rl, oList rvs rnn), (L + 1 + 1, oR), (L + 1, oC)])
    (dR : oR.data = Data.cell (some (.ref rl))) (dC : oC.data = Data.cell (some (.ref x)))
    (hdp : dp + 690 < recursionLimit) (hun : un + 2800 < cLine)
    (hE : PassesOwn (model PySem.Challenge.rw_rg0205_01.row.prog w) ⟨none, dp, some ((envOfC (Str.ofString "law") tail7.2 L fa wc) :: outer), gd, un⟩ (envOfC (Str.ofString "law") tail7.2 L fa wc) E)
    (hact : IntsAre avs act) (hal : act.length = rn + 2) (hrn : rn < 12) (hro : IntsAre rvs row) (hpm : row.Perm (upto (rn + 1))) (lpm : row.length = rn + 1)
    (hod : od.IsDictOf (strKind PySem.Challenge.rw_rg0205_01.row.prog w) [(Str.ofString "cells", .ref D9), (Str.ofString "at", .int cn ta)]) (hcn0 : 0 ≤ cn) (hcn2 : cn ≤ 30) (hsc0 : 0 ≤ sc) (hys' : IntsAre ys cells) (hcl : cells.length ≤ 1000)
    (ap : Apart [rl, pl, hl, al, x, dx, D9, dS, L + 1 + 1, L + 1]) (o1 : Hide (@LT.lt Nat _ dx x)) (o2 : Hide (@LT.lt Nat _ x al)) (o3 : Hide (@LT.lt Nat _ al hl)) (o4 : Hide (@LT.lt Nat _ hl pl))
    (k : ∀ h' tk' m', Fr h₀ L h' m' → Q (.ret (.bool true)) { s with heap := h', toks := tk' }) :
    wpAny (model PySem.Challenge.rw_rg0205_01.row.prog w) ⟨none, dp, some ((envOfC (Str.ofString "law") tail7.2 L fa wc) :: outer), gd, un⟩ (execs tail7.1 (envOfC (Str.ofString "law") tail7.2 L fa wc)) Q E s := by
  refine cx_elim C' fun A₀ base mean mg mb B X T hf hke => ?_
  revert X
  k_fill
  intro X
  replace hdp := hide_of hdp
  replace hun := hide_of hun
  unfold tail7 tail0 at *
  dsimp only [List.drop] at *
  have lvA := IntsAre.length hact
  have lvr := IntsAre.length hro
  (repeat' (first | (k_unfold; (try dsimp only)) | (k_end; wrow_close) | ((with_reducible show wpAny _ _ (eval (Expr.ListComp _ [⟨Expr.Name _ _, _, _, _⟩] _ _) _) _ _ _); k_here; k_dflt (refine LCg.ListComp_U (F₀ := by k_asm) (by with_unfolding_all rfl) (by decide) (by rfl) (by decide) (by rfl) ?_)) | ((with_reducible show wpAny _ _ (eval (Expr.ListComp _ [⟨Expr.Tuple _ _ _, _, _, _⟩] _ _) _) _ _ _); k_here; k_dflt (refine LCp.ListComp_P (F₀ := by k_asm) (by with_unfolding_all rfl) (by decide) (by rfl) (by decide) (by rfl) (by rfl) (by decide) ?_)) | walk1 | (dsimp only; walk1) | (leave1; walk_say "STEP leave1"; try dsimp only) | fail "no step"))
  have N24 := ‹News _ _ _ _›
  have F24 := ‹Fr _ _ _ _›
  try dsimp only at F24 N24 ⊢
  refine stop_go (pinch_spec C' F24 (cb_drop N24 (by (first | ((repeat (first | exact sub_nil | refine sub_cons 0 rfl ?_ | refine sub_cons 1 rfl ?_ | refine sub_cons 2 rfl ?_ | refine sub_cons 3 rfl ?_ | refine sub_cons 4 rfl ?_ | refine sub_cons 5 rfl ?_ | refine sub_cons 6 rfl ?_ | refine sub_cons 7 rfl ?_ | refine sub_cons 8 rfl ?_ | refine sub_cons 9 rfl ?_ | refine sub_cons 10 rfl ?_ | refine sub_cons 11 rfl ?_ | refine sub_cons 12 rfl ?_ | refine sub_cons 13 rfl ?_)); done) | kcf_all))) (room hdp.out rfl) (room hun.out rfl) (by (first | (apply ap_x; assumption; (repeat constructor); done) | (refine Nat.ne_of_gt ?_; simp only [*]; done) | (refine Nat.ne_of_lt ?_; simp only [*]; done) | ((fail_if_success (fail_if_success omega (config := {}))); (first | with_reducible assumption | decide | lia | omega (config := {}))))) hod hys' (by (first | (apply ap_x; assumption; (repeat constructor); done) | (refine Nat.ne_of_gt ?_; simp only [*]; done) | (refine Nat.ne_of_lt ?_; simp only [*]; done) | ((fail_if_success (fail_if_success omega (config := {}))); (first | with_reducible assumption | decide | lia | omega (config := {}))))) (by (first | (apply ap_x; assumption; (repeat constructor); done) | (refine Nat.ne_of_gt ?_; simp only [*]; done) | (refine Nat.ne_of_lt ?_; simp only [*]; done) | ((fail_if_success (fail_if_success omega (config := {}))); (first | with_reducible assumption | decide | lia | omega (config := {}))))) (by (first | (apply ap_x; assumption; (repeat constructor); done) | (refine Nat.ne_of_gt ?_; simp only [*]; done) | (refine Nat.ne_of_lt ?_; simp only [*]; done) | ((fail_if_success (fail_if_success omega (config := {}))); (first | with_reducible assumption | decide | lia | omega (config := {}))))) (by (first | (apply ap_x; assumption; (repeat constructor); done) | (refine Nat.ne_of_gt ?_; simp only [*]; done) | (refine Nat.ne_of_lt ?_; simp only [*]; done) | ((fail_if_success (fail_if_success omega (config := {}))); (first | with_reducible assumption | decide | lia | omega (config := {}))))) (by (first | (apply ap_x; assumption; (repeat constructor); done) | (refine Nat.ne_of_gt ?_; simp only [*]; done) | (refine Nat.ne_of_lt ?_; simp only [*]; done) | ((fail_if_success (fail_if_success omega (config := {}))); (first | with_reducible assumption | decide | lia | omega (config := {}))))) ?_)
  intro h25 tk25 r25 u25 ta25 od25 r250 r251 hod25 F25 N25 K25
  have N26 := news_re N24 (by repeat (first | exact Rest.nil | (apply Rest.keep; focus ((repeat (first | exact off_nil | (refine off_cons ?_ ?_; focus (first | (apply ap_x; assumption; (repeat constructor); done) | (refine Nat.ne_of_gt ?_; simp only [*]; done) | (refine Nat.ne_of_lt ?_; simp only [*]; done) | ((fail_if_success (fail_if_success omega (config := {}))); (first | with_reducible assumption | decide | lia | omega (config := {}))))))); done)) | apply Rest.skip)) K25 N25
  dsimp only [List.cons_append, List.nil_append] at N26
  try clear F23
  try clear N23
  try clear F24
  try clear N24
  try clear N25
  try clear K25
  (repeat' (first | (k_unfold; (try dsimp only)) | (k_end; wrow_close) | ((with_reducible show wpAny _ _ (eval (Expr.ListComp _ [⟨Expr.Name _ _, _, _, _⟩] _ _) _) _ _ _); k_here; k_dflt (refine LCg.ListComp_U (F₀ := by k_asm) (by with_unfolding_all rfl) (by decide) (by rfl) (by decide) (by rfl) ?_)) | ((with_reducible show wpAny _ _ (eval (Expr.ListComp _ [⟨Expr.Tuple _ _ _, _, _, _⟩] _ _) _) _ _ _); k_here; k_dflt (refine LCp.ListComp_P (F₀ := by k_asm) (by with_unfolding_all rfl) (by decide) (by rfl) (by decide) (by rfl) (by rfl) (by decide) ?_)) | walk1 | (dsimp only; walk1) | (leave1; walk_say "STEP leave1"; try dsimp only) | fail "no step"))
  rename_i h26 tk26 rl2 rvs2 h27 hI2 hC2 hL2 l26 h28 oR2 dR2 hn2 cn2 h29 F29 N29 l29
  have ap := ap_cons ap (by repeat (first | exact True.intro | (refine And.intro (by (first | exact l26.1 | exact l26.2.1 | exact l26.2.2.1 | exact l26.2.2.2.1 | exact l26.2.2.2.2.1 | exact l26.2.2.2.2.2.1 | exact l26.2.2.2.2.2.2.1 | exact l26.2.2.2.2.2.2.2.1 | exact l26.2.2.2.2.2.2.2.2.1 | exact l26.2.2.2.2.2.2.2.2.2.1 | exact l26.2.2.2.2.2.2.2.2.2.2.1 | exact l26.2.2.2.2.2.2.2.2.2.2.2.1 | exact l26.2.2.2.2.2.2.2.2.2.2.2.2.1 | exact l26.2.2.2.2.2.2.2.2.2.2.2.2.2.1 | exact l26 | exact l26.2 | exact l26.2.2 | exact l26.2.2.2 | exact l26.2.2.2.2 | exact l26.2.2.2.2.2 | exact l26.2.2.2.2.2.2 | exact l26.2.2.2.2.2.2.2 | exact l26.2.2.2.2.2.2.2.2 | exact l26.2.2.2.2.2.2.2.2.2 | exact l26.2.2.2.2.2.2.2.2.2.2 | exact l26.2.2.2.2.2.2.2.2.2.2.2 | exact l26.2.2.2.2.2.2.2.2.2.2.2.2 | exact l26.2.2.2.2.2.2.2.2.2.2.2.2.2)) ?_)))
  have ap := ap_cons ap (by repeat (first | exact True.intro | (refine And.intro (by (first | exact l29.1 | exact l29.2.1 | exact l29.2.2.1 | exact l29.2.2.2.1 | exact l29.2.2.2.2.1 | exact l29.2.2.2.2.2.1 | exact l29.2.2.2.2.2.2.1 | exact l29.2.2.2.2.2.2.2.1 | exact l29.2.2.2.2.2.2.2.2.1 | exact l29.2.2.2.2.2.2.2.2.2.1 | exact l29.2.2.2.2.2.2.2.2.2.2.1 | exact l29.2.2.2.2.2.2.2.2.2.2.2.1 | exact l29.2.2.2.2.2.2.2.2.2.2.2.2.1 | exact l29.2.2.2.2.2.2.2.2.2.2.2.2.2.1 | exact l29 | exact l29.2 | exact l29.2.2 | exact l29.2.2.2 | exact l29.2.2.2.2 | exact l29.2.2.2.2.2 | exact l29.2.2.2.2.2.2 | exact l29.2.2.2.2.2.2.2 | exact l29.2.2.2.2.2.2.2.2 | exact l29.2.2.2.2.2.2.2.2.2 | exact l29.2.2.2.2.2.2.2.2.2.2 | exact l29.2.2.2.2.2.2.2.2.2.2.2 | exact l29.2.2.2.2.2.2.2.2.2.2.2.2 | exact l29.2.2.2.2.2.2.2.2.2.2.2.2.2)) ?_)))
  have o32 : Hide (@LT.lt Nat _ al hn2) := hide_of (by clear ap; (first | (apply ap_x; assumption; (repeat constructor); done) | (refine Nat.ne_of_gt ?_; simp only [*]; done) | (refine Nat.ne_of_lt ?_; simp only [*]; done) | ((fail_if_success (fail_if_success omega (config := {}))); (first | with_reducible assumption | decide | lia | omega (config := {})))))
  clear l26 l29
  obtain ⟨q, hq1, hq2, hqe⟩ : ∃ q : Nat, 1 ≤ q ∧ q ≤ rn + 1 ∧ (if 1 + (rn : Int) - r25 > 1 then 1 + (rn : Int) - r25 else 1).toNat = q := ⟨_, by split <;> (first | (apply ap_x; assumption; (repeat constructor); done) | (refine Nat.ne_of_gt ?_; simp only [*]; done) | (refine Nat.ne_of_lt ?_; simp only [*]; done) | ((fail_if_success (fail_if_success omega (config := {}))); (first | with_reducible assumption | decide | lia | omega (config := {})))), by split <;> (first | (apply ap_x; assumption; (repeat constructor); done) | (refine Nat.ne_of_gt ?_; simp only [*]; done) | (refine Nat.ne_of_lt ?_; simp only [*]; done) | ((fail_if_success (fail_if_success omega (config := {}))); (first | with_reducible assumption | decide | lia | omega (config := {})))), rfl⟩
  rw [hqe] at hI2 hC2
  obtain ⟨R, hRe⟩ : ∃ R, row.take q = R := ⟨_, rfl⟩
  obtain ⟨hRl, hRn, hRm⟩ := take_facts (R := R) (q := q) hpm lpm hq2 hRe
  rw [hRe] at hI2
  clear hqe hRe hC2 hL2 hpm hro lvr lpm
  have lvR := IntsAre.length hI2
  refine set_heap X F29 N29 (by k_inst) (by k_upd) fun h30 F30 N30 => ?_
  (repeat' (first | (k_unfold; (try dsimp only)) | (k_end; wrow_close) | ((with_reducible show wpAny _ _ (eval (Expr.ListComp _ [⟨Expr.Name _ _, _, _, _⟩] _ _) _) _ _ _); k_here; k_dflt (refine LCg.ListComp_U (F₀ := by k_asm) (by with_unfolding_all rfl) (by decide) (by rfl) (by decide) (by rfl) ?_)) | ((with_reducible show wpAny _ _ (eval (Expr.ListComp _ [⟨Expr.Tuple _ _ _, _, _, _⟩] _ _) _) _ _ _); k_here; k_dflt (refine LCp.ListComp_P (F₀ := by k_asm) (by with_unfolding_all rfl) (by decide) (by rfl) (by decide) (by rfl) (by rfl) (by decide) ?_)) | walk1 | (dsimp only; walk1) | (leave1; walk_say "STEP leave1"; try dsimp only) | fail "no step"))
  rename_i lm h31 F31 N31 l31 h32 tk32 t132 u132 v132 hR hF hN hK
  have ap := ap_cons ap (by repeat (first | exact True.intro | (refine And.intro (by (first | exact l31.1 | exact l31.2.1 | exact l31.2.2.1 | exact l31.2.2.2.1 | exact l31.2.2.2.2.1 | exact l31.2.2.2.2.2.1 | exact l31.2.2.2.2.2.2.1 | exact l31.2.2.2.2.2.2.2.1 | exact l31.2.2.2.2.2.2.2.2.1 | exact l31.2.2.2.2.2.2.2.2.2.1 | exact l31.2.2.2.2.2.2.2.2.2.2.1 | exact l31.2.2.2.2.2.2.2.2.2.2.2.1 | exact l31.2.2.2.2.2.2.2.2.2.2.2.2.1 | exact l31.2.2.2.2.2.2.2.2.2.2.2.2.2.1 | exact l31 | exact l31.2 | exact l31.2.2 | exact l31.2.2.2 | exact l31.2.2.2.2 | exact l31.2.2.2.2.2 | exact l31.2.2.2.2.2.2 | exact l31.2.2.2.2.2.2.2 | exact l31.2.2.2.2.2.2.2.2 | exact l31.2.2.2.2.2.2.2.2.2 | exact l31.2.2.2.2.2.2.2.2.2.2 | exact l31.2.2.2.2.2.2.2.2.2.2.2 | exact l31.2.2.2.2.2.2.2.2.2.2.2.2 | exact l31.2.2.2.2.2.2.2.2.2.2.2.2.2)) ?_)))
  clear l31
  obtain ⟨tm, N33⟩ : ∃ tm, News h₀ _ h32 [(lm, oList [.int (-1) tm] 0), (x, instObj 144 dx), (dx, oDict D al hn2 pl), (al, oList avs an), (hn2, oList rvs2 cn2), (D9, oList ys ys.length), (dS, od25), (rl2, oList rvs2 0), (L + 1 + 1, oR2), (L + 1, oC)] := ⟨_, news_sub hN (by (first | ((repeat (first | exact sub_nil | refine sub_cons 0 rfl ?_ | refine sub_cons 1 rfl ?_ | refine sub_cons 2 rfl ?_ | refine sub_cons 3 rfl ?_ | refine sub_cons 4 rfl ?_ | refine sub_cons 5 rfl ?_ | refine sub_cons 6 rfl ?_ | refine sub_cons 7 rfl ?_ | refine sub_cons 8 rfl ?_ | refine sub_cons 9 rfl ?_ | refine sub_cons 10 rfl ?_ | refine sub_cons 11 rfl ?_ | refine sub_cons 12 rfl ?_ | refine sub_cons 13 rfl ?_)); done) | kcf_all))⟩
  try clear F29
  try clear N29
  try clear F30
  try clear N30
  try clear F31
  try clear N31
  try clear hN
  try clear hK
  refine stop_go (LCg.CompSrc.range (n := rn + 1) (by rfl) hF N33 hR (small_one (by (first | (apply ap_x; assumption; (repeat constructor); done) | (refine Nat.ne_of_gt ?_; simp only [*]; done) | (refine Nat.ne_of_lt ?_; simp only [*]; done) | ((fail_if_success (fail_if_success omega (config := {}))); (first | with_reducible assumption | decide | lia | omega (config := {}))))) (by (first | (apply ap_x; assumption; (repeat constructor); done) | (refine Nat.ne_of_gt ?_; simp only [*]; done) | (refine Nat.ne_of_lt ?_; simp only [*]; done) | ((fail_if_success (fail_if_success omega (config := {}))); (first | with_reducible assumption | decide | lia | omega (config := {}))))) (by (first | (apply ap_x; assumption; (repeat constructor); done) | (refine Nat.ne_of_gt ?_; simp only [*]; done) | (refine Nat.ne_of_lt ?_; simp only [*]; done) | ((fail_if_success (fail_if_success omega (config := {}))); (first | with_reducible assumption | decide | lia | omega (config := {}))))) (by (first | (apply ap_x; assumption; (repeat constructor); done) | (refine Nat.ne_of_gt ?_; simp only [*]; done) | (refine Nat.ne_of_lt ?_; simp only [*]; done) | ((fail_if_success (fail_if_success omega (config := {}))); (first | with_reducible assumption | decide | lia | omega (config := {})))))) (by rw [rangeSize_nat]; (first | (apply ap_x; assumption; (repeat constructor); done) | (refine Nat.ne_of_gt ?_; simp only [*]; done) | (refine Nat.ne_of_lt ?_; simp only [*]; done) | ((fail_if_success (fail_if_success omega (config := {}))); (first | with_reducible assumption | decide | lia | omega (config := {}))))) (by rw [sizeLine_eq]; (first | (apply ap_x; assumption; (repeat constructor); done) | (refine Nat.ne_of_gt ?_; simp only [*]; done) | (refine Nat.ne_of_lt ?_; simp only [*]; done) | ((fail_if_success (fail_if_success omega (config := {}))); (first | with_reducible assumption | decide | lia | omega (config := {}))))) fun g34 => ?_)
  refine comp_inv (fun i zs nw => nw = [(lm, oList [.int (-1) tm] 0), (x, instObj 144 dx), (dx, oDict D al hn2 pl), (al, oList avs an), (hn2, oList rvs2 cn2), (D9, oList ys ys.length), (dS, od25), (rl2, oList rvs2 0), (L + 1 + 1, oR2), (L + 1, oC)] ∧ IntsAre zs (spotsOf R i)) ⟨rfl, .nil⟩ ?_ ?_
  · rintro i v I oI Cc oC' Dd m2 zs nw hh tkk E' hi ⟨tv, rfl⟩ ⟨rfl, hzs⟩ hyl hC hx F1 N1 off ne
    replace ne := hide_of ne
    replace off := hide_of off
    (repeat' (first | (k_unfold; (try dsimp only)) | (k_end; wrow_close) | ((with_reducible show wpAny _ _ (eval (Expr.ListComp _ [⟨Expr.Name _ _, _, _, _⟩] _ _) _) _ _ _); k_here; k_dflt (refine LCg.ListComp_U (F₀ := by k_asm) (by with_unfolding_all rfl) (by decide) (by rfl) (by decide) (by rfl) ?_)) | ((with_reducible show wpAny _ _ (eval (Expr.ListComp _ [⟨Expr.Tuple _ _ _, _, _, _⟩] _ _) _) _ _ _); k_here; k_dflt (refine LCp.ListComp_P (F₀ := by k_asm) (by with_unfolding_all rfl) (by decide) (by rfl) (by decide) (by rfl) (by rfl) (by decide) ?_)) | walk1 | (dsimp only; walk1) | (leave1; walk_say "STEP leave1"; try dsimp only) | fail "no step"))
    · have hin := any_mem ‹(List.any _ _) = true›
      have N8 := ‹News _ _ _ _›
      try dsimp only at N8 ⊢
      refine index_ints (News.isList N8 (by k_mem)) hI2 (by (first | (apply ap_x; assumption; (repeat constructor); done) | (refine Nat.ne_of_gt ?_; simp only [*]; done) | (refine Nat.ne_of_lt ?_; simp only [*]; done) | ((fail_if_success (fail_if_success omega (config := {}))); (first | with_reducible assumption | decide | lia | omega (config := {}))))) hin ?_
      (repeat' (first | (k_unfold; (try dsimp only)) | (k_end; wrow_close) | ((with_reducible show wpAny _ _ (eval (Expr.ListComp _ [⟨Expr.Name _ _, _, _, _⟩] _ _) _) _ _ _); k_here; k_dflt (refine LCg.ListComp_U (F₀ := by k_asm) (by with_unfolding_all rfl) (by decide) (by rfl) (by decide) (by rfl) ?_)) | ((with_reducible show wpAny _ _ (eval (Expr.ListComp _ [⟨Expr.Tuple _ _ _, _, _, _⟩] _ _) _) _ _ _); k_here; k_dflt (refine LCp.ListComp_P (F₀ := by k_asm) (by with_unfolding_all rfl) (by decide) (by rfl) (by decide) (by rfl) (by rfl) (by decide) ?_)) | walk1 | (dsimp only; walk1) | (leave1; walk_say "STEP leave1"; try dsimp only) | fail "no step"))
      have N9 := ‹News _ _ _ _›
      refine stop_go (LCg.CompEnd.intro (by assumption) N9 _ ?_ off.out trivial ⟨rfl, ?_⟩)
      · (first | ((repeat (first | exact sub_nil | refine sub_cons 0 rfl ?_ | refine sub_cons 1 rfl ?_ | refine sub_cons 2 rfl ?_ | refine sub_cons 3 rfl ?_ | refine sub_cons 4 rfl ?_ | refine sub_cons 5 rfl ?_ | refine sub_cons 6 rfl ?_ | refine sub_cons 7 rfl ?_ | refine sub_cons 8 rfl ?_ | refine sub_cons 9 rfl ?_ | refine sub_cons 10 rfl ?_ | refine sub_cons 11 rfl ?_ | refine sub_cons 12 rfl ?_ | refine sub_cons 13 rfl ?_)); done) | kcf_all)
      · rw [spotsOf_succ, if_pos hin]
        exact IntsAre.append hzs (.cons _ _ .nil)
    · have hin := any_not_mem ‹(List.any _ _) = false›
      have N9 := ‹News _ _ _ _›
      refine stop_go (LCg.CompEnd.intro (by assumption) N9 _ ?_ off.out trivial ⟨rfl, ?_⟩)
      · (first | ((repeat (first | exact sub_nil | refine sub_cons 0 rfl ?_ | refine sub_cons 1 rfl ?_ | refine sub_cons 2 rfl ?_ | refine sub_cons 3 rfl ?_ | refine sub_cons 4 rfl ?_ | refine sub_cons 5 rfl ?_ | refine sub_cons 6 rfl ?_ | refine sub_cons 7 rfl ?_ | refine sub_cons 8 rfl ?_ | refine sub_cons 9 rfl ?_ | refine sub_cons 10 rfl ?_ | refine sub_cons 11 rfl ?_ | refine sub_cons 12 rfl ?_ | refine sub_cons 13 rfl ?_)); done) | kcf_all)
      · rw [spotsOf_succ, if_neg hin]
        exact IntsAre.append hzs (.cons _ _ .nil)
  · rintro zs nw ⟨rfl, hzs⟩ hzl D40 h40 tk40 F40 N40 off40
    dsimp only [LCg.Off1] at off40
    have lt40 : @LT.lt Nat _ hn2 h40.objs.size := Heap.lt_size (N40 (hn2, _) (by k_mem)).1
    try clear hF
    replace ap : Apart [lm, hn2, rl2, al, x, dx, D9, dS, L + 1 + 1, L + 1] := ap_sub ap (by (repeat (first | exact List.nil_sublist _ | (with_reducible refine List.Sublist.cons_cons _ ?_) | (with_reducible refine List.Sublist.cons _ ?_))))
    have ap := ap_consN ap (by repeat (first | exact True.intro | (refine And.intro (by (first | exact off40.1 | exact Ne.symm off40.1 | exact off40.2.1 | exact Ne.symm off40.2.1 | exact off40.2.2.1 | exact Ne.symm off40.2.2.1 | exact off40.2.2.2.1 | exact Ne.symm off40.2.2.2.1 | exact off40.2.2.2.2.1 | exact Ne.symm off40.2.2.2.2.1 | exact off40.2.2.2.2.2.1 | exact Ne.symm off40.2.2.2.2.2.1 | exact off40.2.2.2.2.2.2.1 | exact Ne.symm off40.2.2.2.2.2.2.1 | exact off40.2.2.2.2.2.2.2.1 | exact Ne.symm off40.2.2.2.2.2.2.2.1 | exact off40.2.2.2.2.2.2.2.2.1 | exact Ne.symm off40.2.2.2.2.2.2.2.2.1 | exact off40.2.2.2.2.2.2.2.2.2.1 | exact Ne.symm off40.2.2.2.2.2.2.2.2.2.1 | exact off40.2.2.2.2.2.2.2.2.2.2.1 | exact Ne.symm off40.2.2.2.2.2.2.2.2.2.2.1 | exact off40.2.2.2.2.2.2.2.2.2.2.2.1 | exact Ne.symm off40.2.2.2.2.2.2.2.2.2.2.2.1 | exact off40.2.2.2.2.2.2.2.2.2.2.2.2.1 | exact Ne.symm off40.2.2.2.2.2.2.2.2.2.2.2.2.1 | exact off40.2.2.2.2.2.2.2.2.2.2.2.2.2.1 | exact Ne.symm off40.2.2.2.2.2.2.2.2.2.2.2.2.2.1 | exact off40 | exact Ne.symm off40 | exact off40.2 | exact Ne.symm off40.2 | exact off40.2.2 | exact Ne.symm off40.2.2 | exact off40.2.2.2 | exact Ne.symm off40.2.2.2 | exact off40.2.2.2.2 | exact Ne.symm off40.2.2.2.2 | exact off40.2.2.2.2.2 | exact Ne.symm off40.2.2.2.2.2 | exact off40.2.2.2.2.2.2 | exact Ne.symm off40.2.2.2.2.2.2 | exact off40.2.2.2.2.2.2.2 | exact Ne.symm off40.2.2.2.2.2.2.2 | exact off40.2.2.2.2.2.2.2.2 | exact Ne.symm off40.2.2.2.2.2.2.2.2 | exact off40.2.2.2.2.2.2.2.2.2 | exact Ne.symm off40.2.2.2.2.2.2.2.2.2 | exact off40.2.2.2.2.2.2.2.2.2.2 | exact Ne.symm off40.2.2.2.2.2.2.2.2.2.2 | exact off40.2.2.2.2.2.2.2.2.2.2.2 | exact Ne.symm off40.2.2.2.2.2.2.2.2.2.2.2 | exact off40.2.2.2.2.2.2.2.2.2.2.2.2 | exact Ne.symm off40.2.2.2.2.2.2.2.2.2.2.2.2 | exact off40.2.2.2.2.2.2.2.2.2.2.2.2.2 | exact Ne.symm off40.2.2.2.2.2.2.2.2.2.2.2.2.2)) ?_)))
    have apn := ap_cons ap (by repeat (first | exact True.intro | (refine And.intro (Heap.lt_size (N40 (_, _) (by k_mem)).1) ?_)))
    clear ap
    dsimp only
    (repeat' (first | (k_unfold; (try dsimp only)) | (k_end; wrow_close) | ((with_reducible show wpAny _ _ (eval (Expr.ListComp _ [⟨Expr.Name _ _, _, _, _⟩] _ _) _) _ _ _); k_here; k_dflt (refine LCg.ListComp_U (F₀ := by k_asm) (by with_unfolding_all rfl) (by decide) (by rfl) (by decide) (by rfl) ?_)) | ((with_reducible show wpAny _ _ (eval (Expr.ListComp _ [⟨Expr.Tuple _ _ _, _, _, _⟩] _ _) _) _ _ _); k_here; k_dflt (refine LCp.ListComp_P (F₀ := by k_asm) (by with_unfolding_all rfl) (by decide) (by rfl) (by decide) (by rfl) (by rfl) (by decide) ?_)) | walk1 | (dsimp only; walk1) | (leave1; walk_say "STEP leave1"; try dsimp only) | fail "no step"))
    rename_i h41 F41 N41
    obtain ⟨pn, hpn⟩ : ∃ pn : Addr, h40.objs.size = pn := ⟨_, rfl⟩
    dsimp only at F41 N41 ⊢
    rw [hpn] at lt40 apn N41 ⊢
    replace lt40 := hide_of lt40
    clear off40
    refine set_place X F41 N41 (by k_inst) (by k_upd) fun h42 F42 N42 => ?_
    have hpv : IntsAre ([.int (-1) tm] ++ zs) ((-1) :: spotsOf R (rn + 1)) := .cons _ _ hzs
    have g0 := good0 hRn hRm
    obtain ⟨m43, F43⟩ := fr_canon (ps := [(Str.ofString "script", .ref sa), (Str.ofString "salt", .ref dS), (Str.ofString "many", .int (1 + (rn : Int)) tk8), (Str.ofString "scale", .int sc tkS)]) F42 (by kst_all)
    have N43 : News h₀ _ h42 [(x, instObj 144 dx), (dx, oDict D al hn2 pn), (al, oList avs an), (hn2, oList rvs2 cn2), (pn, oList ([.int (-1) tm] ++ zs) 0), (D9, oList ys ys.length), (dS, od25), (rl2, oList rvs2 0), (L + 1 + 1, oR2), (L + 1, oC)] := news_sub N42 (by (first | ((repeat (first | exact sub_nil | refine sub_cons 0 rfl ?_ | refine sub_cons 1 rfl ?_ | refine sub_cons 2 rfl ?_ | refine sub_cons 3 rfl ?_ | refine sub_cons 4 rfl ?_ | refine sub_cons 5 rfl ?_ | refine sub_cons 6 rfl ?_ | refine sub_cons 7 rfl ?_ | refine sub_cons 8 rfl ?_ | refine sub_cons 9 rfl ?_ | refine sub_cons 10 rfl ?_ | refine sub_cons 11 rfl ?_ | refine sub_cons 12 rfl ?_ | refine sub_cons 13 rfl ?_)); done) | kcf_all))
    try clear F40
    try clear N40
    try clear F41
    try clear N41
    try clear F42
    try clear N42
    try clear hpn
    try clear off40
    try clear hzl
    generalize [.int (-1) tm] ++ zs = pvs2 at hpv N43
    exact spots_law (fa := fa) (wc := wc) (D := D) (rn := rn) (q := q) (cells := cells) C' F43 N43 dR2 dC (room hdp.out rfl) (room hun.out rfl) hE hact hI2 hpv hal hrn g0 (.refl _) hod25 (by (first | (apply ap_x; assumption; (repeat constructor); done) | (refine Nat.ne_of_gt ?_; simp only [*]; done) | (refine Nat.ne_of_lt ?_; simp only [*]; done) | ((fail_if_success (fail_if_success omega (config := {}))); (first | with_reducible assumption | decide | lia | omega (config := {}))))) (by (first | (apply ap_x; assumption; (repeat constructor); done) | (refine Nat.ne_of_gt ?_; simp only [*]; done) | (refine Nat.ne_of_lt ?_; simp only [*]; done) | ((fail_if_success (fail_if_success omega (config := {}))); (first | with_reducible assumption | decide | lia | omega (config := {}))))) hsc0 hys' hcl hI2 hRl hRn hRm hq1 hq2 (ap_sub apn (by (repeat (first | exact List.nil_sublist _ | (with_reducible refine List.Sublist.cons_cons _ ?_) | (with_reducible refine List.Sublist.cons _ ?_))))) o1 o2 o32 lt40 k
-- RgE0

structure LeftS where
  left : List Int
  row : List Int
  lvs : List Value
  rvs : List Value
  ln : Nat
  rn : Nat
  od : Obj
  cn : Int
  ta : Tok

theorem start_law {w : World} {outer : List Env} {fa L : Addr} {wc : Value} {h₀ : Heap} {m0 : Str → Option Value} {dp un : Nat} {gd : Option (List Code)} {s : Shared} {Q : Flow → Shared → Prop} {E : Value → Shared → Prop}
    {sa : Addr} {svs : List Value} {cells : List Int} {oRow oSome : Obj} {cR cC : Option Value}
    (C' : Cx w (envOfC (Str.ofString "law") tail0.1.2 L fa wc) outer L h₀) (F0 : Fr h₀ L s.heap (kstB m0 [(Str.ofString "script", .ref sa)])) (N0 : News h₀ L s.heap [(L + 1 + 1, oRow), (L + 1, oSome)])
    (leftC : oRow.data = Data.cell cR) (rightC : oSome.data = Data.cell cC)
    (hdp : dp + 690 < recursionLimit) (hun : un + 2800 < cLine)
    (hE : PassesOwn (model PySem.Challenge.rw_rg0205_01.row.prog w) ⟨none, dp, some ((envOfC (Str.ofString "law") tail0.1.2 L fa wc) :: outer), gd, un⟩ (envOfC (Str.ofString "law") tail0.1.2 L fa wc) E)
    (hL : h₀.IsList sa svs.toArray) (hI : IntsAre svs cells) (hcc : cells.length ≤ 63)
    (k : ∀ h' tk' m', Fr h₀ L h' m' → Q (.ret (.bool true)) { s with heap := h', toks := tk' }) :
    wpAny (model PySem.Challenge.rw_rg0205_01.row.prog w) ⟨none, dp, some ((envOfC (Str.ofString "law") tail0.1.2 L fa wc) :: outer), gd, un⟩ (execs tail0.1.1 (envOfC (Str.ofString "law") tail0.1.2 L fa wc)) Q E s := by
  refine cx_elim C' fun A₀ base mean mg mb B X T hf hke => ?_
  revert X
  k_fill
  intro X
  replace hdp := hide_of hdp
  replace hun := hide_of hun
  unfold tail0 at *
  dsimp only at *
  (repeat' (first | (k_unfold; (try dsimp only)) | (k_end; wrow_close) | ((with_reducible show wpAny _ _ (eval (Expr.ListComp _ [⟨Expr.Name _ _, _, _, _⟩] _ _) _) _ _ _); k_here; k_dflt (refine LCg.ListComp_U (F₀ := by k_asm) (by with_unfolding_all rfl) (by decide) (by rfl) (by decide) (by rfl) ?_)) | ((with_reducible show wpAny _ _ (eval (Expr.ListComp _ [⟨Expr.Tuple _ _ _, _, _, _⟩] _ _) _) _ _ _); k_here; k_dflt (refine LCp.ListComp_P (F₀ := by k_asm) (by with_unfolding_all rfl) (by decide) (by rfl) (by decide) (by rfl) (by rfl) (by decide) ?_)) | walk1 | (dsimp only; walk1) | (leave1; walk_say "STEP leave1"; try dsimp only) | fail "no step"))
  rename_i dS h2 oS lS hdS l2 cA cvs h3 F3 N3 hIc hLc hL'c l1
  have ap : Apart [L + 1 + 1, L + 1] := ap_cons (ap_cons ap_nil True.intro) ⟨Nat.lt_succ_self _, True.intro⟩
  have ap := ap_cons ap (by repeat (first | exact True.intro | (refine And.intro (by (first | exact l2.1 | exact l2.2.1 | exact l2.2.2.1 | exact l2.2.2.2.1 | exact l2.2.2.2.2.1 | exact l2.2.2.2.2.2.1 | exact l2.2.2.2.2.2.2.1 | exact l2.2.2.2.2.2.2.2.1 | exact l2.2.2.2.2.2.2.2.2.1 | exact l2.2.2.2.2.2.2.2.2.2.1 | exact l2.2.2.2.2.2.2.2.2.2.2.1 | exact l2.2.2.2.2.2.2.2.2.2.2.2.1 | exact l2.2.2.2.2.2.2.2.2.2.2.2.2.1 | exact l2.2.2.2.2.2.2.2.2.2.2.2.2.2.1 | exact l2 | exact l2.2 | exact l2.2.2 | exact l2.2.2.2 | exact l2.2.2.2.2 | exact l2.2.2.2.2.2 | exact l2.2.2.2.2.2.2 | exact l2.2.2.2.2.2.2.2 | exact l2.2.2.2.2.2.2.2.2 | exact l2.2.2.2.2.2.2.2.2.2 | exact l2.2.2.2.2.2.2.2.2.2.2 | exact l2.2.2.2.2.2.2.2.2.2.2.2 | exact l2.2.2.2.2.2.2.2.2.2.2.2.2 | exact l2.2.2.2.2.2.2.2.2.2.2.2.2.2)) ?_)))
  have ap := ap_cons ap (by repeat (first | exact True.intro | (refine And.intro (by (first | exact l1.1 | exact l1.2.1 | exact l1.2.2.1 | exact l1.2.2.2.1 | exact l1.2.2.2.2.1 | exact l1.2.2.2.2.2.1 | exact l1.2.2.2.2.2.2.1 | exact l1.2.2.2.2.2.2.2.1 | exact l1.2.2.2.2.2.2.2.2.1 | exact l1.2.2.2.2.2.2.2.2.2.1 | exact l1.2.2.2.2.2.2.2.2.2.2.1 | exact l1.2.2.2.2.2.2.2.2.2.2.2.1 | exact l1.2.2.2.2.2.2.2.2.2.2.2.2.1 | exact l1.2.2.2.2.2.2.2.2.2.2.2.2.2.1 | exact l1 | exact l1.2 | exact l1.2.2 | exact l1.2.2.2 | exact l1.2.2.2.2 | exact l1.2.2.2.2.2 | exact l1.2.2.2.2.2.2 | exact l1.2.2.2.2.2.2.2 | exact l1.2.2.2.2.2.2.2.2 | exact l1.2.2.2.2.2.2.2.2.2 | exact l1.2.2.2.2.2.2.2.2.2.2 | exact l1.2.2.2.2.2.2.2.2.2.2.2 | exact l1.2.2.2.2.2.2.2.2.2.2.2.2 | exact l1.2.2.2.2.2.2.2.2.2.2.2.2.2)) ?_)))
  clear l1 l2
  refine stop_go (LCg.CompSrc.ledger (by rfl) F3 N3 (by k_mem) (by rw [List.size_toArray, sizeLine_eq]; have := IntsAre.length hIc; (first | (apply ap_x; assumption; (repeat constructor); done) | (refine Nat.ne_of_gt ?_; simp only [*]; done) | (refine Nat.ne_of_lt ?_; simp only [*]; done) | ((fail_if_success (fail_if_success omega (config := {}))); (first | with_reducible assumption | decide | lia | omega (config := {}))))) fun g => ?_)
  refine comp_inv (fun i ys nw => nw = [(cA, listOf cvs.toArray 0), (dS, oS), (L + 1 + 1, oRow), (L + 1, oSome)] ∧ IntsAre ys ((cells.take 60).take i)) ⟨rfl, .nil⟩ ?_ ?_
  · rintro i v I oI Cc oC Dd m2 ys nw hh tkk E' hi hv ⟨rfl, hys⟩ hyl hC hx F1 N1 off ne
    replace ne := hide_of ne
    replace off := hide_of off
    obtain ⟨k, t, rfl, hk⟩ := IntsAre.at hIc i v (by simpa using hv)
    (repeat' (first | (k_unfold; (try dsimp only)) | (k_end; wrow_close) | ((with_reducible show wpAny _ _ (eval (Expr.ListComp _ [⟨Expr.Name _ _, _, _, _⟩] _ _) _) _ _ _); k_here; k_dflt (refine LCg.ListComp_U (F₀ := by k_asm) (by with_unfolding_all rfl) (by decide) (by rfl) (by decide) (by rfl) ?_)) | ((with_reducible show wpAny _ _ (eval (Expr.ListComp _ [⟨Expr.Tuple _ _ _, _, _, _⟩] _ _) _) _ _ _); k_here; k_dflt (refine LCp.ListComp_P (F₀ := by k_asm) (by with_unfolding_all rfl) (by decide) (by rfl) (by decide) (by rfl) (by rfl) (by decide) ?_)) | walk1 | (dsimp only; walk1) | (leave1; walk_say "STEP leave1"; try dsimp only) | fail "no step"))
    have N9 := ‹News _ _ _ _›
    refine stop_go (LCg.CompEnd.intro (by assumption) N9 _ ?_ off.out (.inr ⟨_, by k_mem, rfl, _, rfl⟩) ⟨rfl, ?_⟩)
    · (first | ((repeat (first | exact sub_nil | refine sub_cons 0 rfl ?_ | refine sub_cons 1 rfl ?_ | refine sub_cons 2 rfl ?_ | refine sub_cons 3 rfl ?_ | refine sub_cons 4 rfl ?_ | refine sub_cons 5 rfl ?_ | refine sub_cons 6 rfl ?_ | refine sub_cons 7 rfl ?_ | refine sub_cons 8 rfl ?_ | refine sub_cons 9 rfl ?_ | refine sub_cons 10 rfl ?_ | refine sub_cons 11 rfl ?_ | refine sub_cons 12 rfl ?_ | refine sub_cons 13 rfl ?_)); done) | kcf_all)
    · rw [List.take_add_one, hk]
      exact IntsAre.append hys (.cons _ _ .nil)
  · rintro ys nw ⟨rfl, hys⟩ hyl D9 h9 tk9 F9 N9 off9
    dsimp only [LCg.Off1] at off9
    have ap := ap_consN ap (by repeat (first | exact True.intro | (refine And.intro (by (first | exact off9.1 | exact Ne.symm off9.1 | exact off9.2.1 | exact Ne.symm off9.2.1 | exact off9.2.2.1 | exact Ne.symm off9.2.2.1 | exact off9.2.2.2.1 | exact Ne.symm off9.2.2.2.1 | exact off9.2.2.2.2.1 | exact Ne.symm off9.2.2.2.2.1 | exact off9.2.2.2.2.2.1 | exact Ne.symm off9.2.2.2.2.2.1 | exact off9.2.2.2.2.2.2.1 | exact Ne.symm off9.2.2.2.2.2.2.1 | exact off9.2.2.2.2.2.2.2.1 | exact Ne.symm off9.2.2.2.2.2.2.2.1 | exact off9.2.2.2.2.2.2.2.2.1 | exact Ne.symm off9.2.2.2.2.2.2.2.2.1 | exact off9.2.2.2.2.2.2.2.2.2.1 | exact Ne.symm off9.2.2.2.2.2.2.2.2.2.1 | exact off9.2.2.2.2.2.2.2.2.2.2.1 | exact Ne.symm off9.2.2.2.2.2.2.2.2.2.2.1 | exact off9.2.2.2.2.2.2.2.2.2.2.2.1 | exact Ne.symm off9.2.2.2.2.2.2.2.2.2.2.2.1 | exact off9.2.2.2.2.2.2.2.2.2.2.2.2.1 | exact Ne.symm off9.2.2.2.2.2.2.2.2.2.2.2.2.1 | exact off9.2.2.2.2.2.2.2.2.2.2.2.2.2.1 | exact Ne.symm off9.2.2.2.2.2.2.2.2.2.2.2.2.2.1 | exact off9 | exact Ne.symm off9 | exact off9.2 | exact Ne.symm off9.2 | exact off9.2.2 | exact Ne.symm off9.2.2 | exact off9.2.2.2 | exact Ne.symm off9.2.2.2 | exact off9.2.2.2.2 | exact Ne.symm off9.2.2.2.2 | exact off9.2.2.2.2.2 | exact Ne.symm off9.2.2.2.2.2 | exact off9.2.2.2.2.2.2 | exact Ne.symm off9.2.2.2.2.2.2 | exact off9.2.2.2.2.2.2.2 | exact Ne.symm off9.2.2.2.2.2.2.2 | exact off9.2.2.2.2.2.2.2.2 | exact Ne.symm off9.2.2.2.2.2.2.2.2 | exact off9.2.2.2.2.2.2.2.2.2 | exact Ne.symm off9.2.2.2.2.2.2.2.2.2 | exact off9.2.2.2.2.2.2.2.2.2.2 | exact Ne.symm off9.2.2.2.2.2.2.2.2.2.2 | exact off9.2.2.2.2.2.2.2.2.2.2.2 | exact Ne.symm off9.2.2.2.2.2.2.2.2.2.2.2 | exact off9.2.2.2.2.2.2.2.2.2.2.2.2 | exact Ne.symm off9.2.2.2.2.2.2.2.2.2.2.2.2 | exact off9.2.2.2.2.2.2.2.2.2.2.2.2.2 | exact Ne.symm off9.2.2.2.2.2.2.2.2.2.2.2.2.2)) ?_)))
    clear off9
    replace N9 := news_sub N9 (news' := [(D9, LCg.lst ys), (dS, oS), (L + 1 + 1, oRow), (L + 1, oSome)]) (by (first | ((repeat (first | exact sub_nil | refine sub_cons 0 rfl ?_ | refine sub_cons 1 rfl ?_ | refine sub_cons 2 rfl ?_ | refine sub_cons 3 rfl ?_ | refine sub_cons 4 rfl ?_ | refine sub_cons 5 rfl ?_ | refine sub_cons 6 rfl ?_ | refine sub_cons 7 rfl ?_ | refine sub_cons 8 rfl ?_ | refine sub_cons 9 rfl ?_ | refine sub_cons 10 rfl ?_ | refine sub_cons 11 rfl ?_ | refine sub_cons 12 rfl ?_ | refine sub_cons 13 rfl ?_)); done) | kcf_all))
    have hys' : IntsAre ys (cells.take 60) := by
      have e : (cells.take 60).take cvs.toArray.size = cells.take 60 := by rw [List.size_toArray, IntsAre.length hIc]; exact List.take_length
      rw [e] at hys; exact hys
    dsimp only
    (repeat' (first | (k_unfold; (try dsimp only)) | (k_end; wrow_close) | ((with_reducible show wpAny _ _ (eval (Expr.ListComp _ [⟨Expr.Name _ _, _, _, _⟩] _ _) _) _ _ _); k_here; k_dflt (refine LCg.ListComp_U (F₀ := by k_asm) (by with_unfolding_all rfl) (by decide) (by rfl) (by decide) (by rfl) ?_)) | ((with_reducible show wpAny _ _ (eval (Expr.ListComp _ [⟨Expr.Tuple _ _ _, _, _, _⟩] _ _) _) _ _ _); k_here; k_dflt (refine LCp.ListComp_P (F₀ := by k_asm) (by with_unfolding_all rfl) (by decide) (by rfl) (by decide) (by rfl) (by rfl) (by decide) ?_)) | walk1 | (dsimp only; walk1) | (leave1; walk_say "STEP leave1"; try dsimp only) | fail "no step"))
    rename_i h5 oD hdD h6 F6 N6
    replace N6 : News h₀ _ h6 [(D9, oList ys ys.length), (dS, oD), (L + 1 + 1, oRow), (L + 1, oSome)] := N6
    have lys := IntsAre.length hys'
    try clear hys
    try clear hyl
    try clear F9
    try clear N9
    try clear N3
    try clear F3
    try clear hIc
    try clear hLc
    refine stop_go (new_spec C' F6 N6 (room hdp.out rfl) (room hun.out rfl) ?_)
    intro x dx al hl pl D h7 tk7 avs na hvs nh pvs np o1 o2 o3 o4 lo ha hh hp F7 N7
    have lo' := allLt_of lo
    dsimp only [AllLt] at lo'
    have b0 : AllB dx [D9, dS, L + 1 + 1, L + 1] := by repeat (first | exact True.intro | (refine And.intro (by (first | exact lo'.1 | exact lo'.2.1 | exact lo'.2.2.1 | exact lo'.2.2.2.1 | exact lo'.2.2.2.2.1 | exact lo'.2.2.2.2.2.1 | exact lo'.2.2.2.2.2.2.1 | exact lo'.2.2.2.2.2.2.2.1 | exact lo'.2.2.2.2.2.2.2.2.1 | exact lo'.2.2.2.2.2.2.2.2.2.1 | exact lo'.2.2.2.2.2.2.2.2.2.2.1 | exact lo'.2.2.2.2.2.2.2.2.2.2.2.1 | exact lo'.2.2.2.2.2.2.2.2.2.2.2.2.1 | exact lo'.2.2.2.2.2.2.2.2.2.2.2.2.2.1 | exact lo' | exact lo'.2 | exact lo'.2.2 | exact lo'.2.2.2 | exact lo'.2.2.2.2 | exact lo'.2.2.2.2.2 | exact lo'.2.2.2.2.2.2 | exact lo'.2.2.2.2.2.2.2 | exact lo'.2.2.2.2.2.2.2.2 | exact lo'.2.2.2.2.2.2.2.2.2 | exact lo'.2.2.2.2.2.2.2.2.2.2 | exact lo'.2.2.2.2.2.2.2.2.2.2.2 | exact lo'.2.2.2.2.2.2.2.2.2.2.2.2 | exact lo'.2.2.2.2.2.2.2.2.2.2.2.2.2)) ?_))
    have b1 := allB_next b0 o1
    have b2 := allB_next b1 o2
    have b3 := allB_next b2 o3
    replace ap := ap_cons (ap_cons (ap_cons (ap_cons (ap_cons (ap_sub ap (by (repeat (first | exact List.nil_sublist _ | (with_reducible refine List.Sublist.cons_cons _ ?_) | (with_reducible refine List.Sublist.cons _ ?_))))) b0) b1) b2) b3) (allB_next b3 o4)
    clear b0 b1 b2 b3 lo'
    replace o1 := hide_of o1
    replace o2 := hide_of o2
    replace o3 := hide_of o3
    replace o4 := hide_of o4
    dsimp only [List.cons_append, List.nil_append] at N7
    try clear lo
    try clear F6
    try clear N6
    (repeat' (first | (k_unfold; (try dsimp only)) | (k_end; wrow_close) | ((with_reducible show wpAny _ _ (eval (Expr.ListComp _ [⟨Expr.Name _ _, _, _, _⟩] _ _) _) _ _ _); k_here; k_dflt (refine LCg.ListComp_U (F₀ := by k_asm) (by with_unfolding_all rfl) (by decide) (by rfl) (by decide) (by rfl) ?_)) | ((with_reducible show wpAny _ _ (eval (Expr.ListComp _ [⟨Expr.Tuple _ _ _, _, _, _⟩] _ _) _) _ _ _); k_here; k_dflt (refine LCp.ListComp_P (F₀ := by k_asm) (by with_unfolding_all rfl) (by decide) (by rfl) (by decide) (by rfl) (by rfl) (by decide) ?_)) | walk1 | (dsimp only; walk1) | (leave1; walk_say "STEP leave1"; try dsimp only) | fail "no step"))
    refine stop_go (pinch_spec C' ‹Fr _ _ _ _› (cb_drop ‹News _ _ _ _› (by (first | ((repeat (first | exact sub_nil | refine sub_cons 0 rfl ?_ | refine sub_cons 1 rfl ?_ | refine sub_cons 2 rfl ?_ | refine sub_cons 3 rfl ?_ | refine sub_cons 4 rfl ?_ | refine sub_cons 5 rfl ?_ | refine sub_cons 6 rfl ?_ | refine sub_cons 7 rfl ?_ | refine sub_cons 8 rfl ?_ | refine sub_cons 9 rfl ?_ | refine sub_cons 10 rfl ?_ | refine sub_cons 11 rfl ?_ | refine sub_cons 12 rfl ?_ | refine sub_cons 13 rfl ?_)); done) | kcf_all))) (room hdp.out rfl) (room hun.out rfl) (by (first | (apply ap_x; assumption; (repeat constructor); done) | (refine Nat.ne_of_gt ?_; simp only [*]; done) | (refine Nat.ne_of_lt ?_; simp only [*]; done) | ((fail_if_success (fail_if_success omega (config := {}))); (first | with_reducible assumption | decide | lia | omega (config := {}))))) hdD hys' (by (first | (apply ap_x; assumption; (repeat constructor); done) | (refine Nat.ne_of_gt ?_; simp only [*]; done) | (refine Nat.ne_of_lt ?_; simp only [*]; done) | ((fail_if_success (fail_if_success omega (config := {}))); (first | with_reducible assumption | decide | lia | omega (config := {}))))) (by decide) (by decide) (by decide) (by decide) ?_)
    intro h8 tk8 r8 u8 ta8 od8 r80 r81 hod8 F8 N8 K8
    have N9 := news_re N7 (by repeat (first | exact Rest.nil | (apply Rest.keep; focus ((repeat (first | exact off_nil | (refine off_cons ?_ ?_; focus (first | (apply ap_x; assumption; (repeat constructor); done) | (refine Nat.ne_of_gt ?_; simp only [*]; done) | (refine Nat.ne_of_lt ?_; simp only [*]; done) | ((fail_if_success (fail_if_success omega (config := {}))); (first | with_reducible assumption | decide | lia | omega (config := {}))))))); done)) | apply Rest.skip)) K8 N8
    dsimp only [List.cons_append, List.nil_append] at N9
    try clear F7
    try clear N7
    try clear N8
    try clear K8
    try clear hdD
    (repeat' (first | (k_unfold; (try dsimp only)) | (k_end; wrow_close) | ((with_reducible show wpAny _ _ (eval (Expr.ListComp _ [⟨Expr.Name _ _, _, _, _⟩] _ _) _) _ _ _); k_here; k_dflt (refine LCg.ListComp_U (F₀ := by k_asm) (by with_unfolding_all rfl) (by decide) (by rfl) (by decide) (by rfl) ?_)) | ((with_reducible show wpAny _ _ (eval (Expr.ListComp _ [⟨Expr.Tuple _ _ _, _, _, _⟩] _ _) _) _ _ _); k_here; k_dflt (refine LCp.ListComp_P (F₀ := by k_asm) (by with_unfolding_all rfl) (by decide) (by rfl) (by decide) (by rfl) (by rfl) (by decide) ?_)) | walk1 | (dsimp only; walk1) | (leave1; walk_say "STEP leave1"; try dsimp only) | fail "no step"))
    obtain ⟨rn, rfl⟩ := Int.eq_ofNat_of_zero_le r80
    have eM : (1 + (rn : Int)).toNat = rn + 1 := by (first | (apply ap_x; assumption; (repeat constructor); done) | (refine Nat.ne_of_gt ?_; simp only [*]; done) | (refine Nat.ne_of_lt ?_; simp only [*]; done) | ((fail_if_success (fail_if_success omega (config := {}))); (first | with_reducible assumption | decide | lia | omega (config := {}))))
    rename_i cS h9 oC dC h10 F10 N10
    refine stop_go (grow_spec C' F10 (cb_drop N10 (by (first | ((repeat (first | exact sub_nil | refine sub_cons 0 rfl ?_ | refine sub_cons 1 rfl ?_ | refine sub_cons 2 rfl ?_ | refine sub_cons 3 rfl ?_ | refine sub_cons 4 rfl ?_ | refine sub_cons 5 rfl ?_ | refine sub_cons 6 rfl ?_ | refine sub_cons 7 rfl ?_ | refine sub_cons 8 rfl ?_ | refine sub_cons 9 rfl ?_ | refine sub_cons 10 rfl ?_ | refine sub_cons 11 rfl ?_ | refine sub_cons 12 rfl ?_ | refine sub_cons 13 rfl ?_)); done) | kcf_all))) (room hdp.out rfl) (room hun.out rfl) o1.out o2.out o3.out o4.out ha hh hp (by (first | (apply ap_x; assumption; (repeat constructor); done) | (refine Nat.ne_of_gt ?_; simp only [*]; done) | (refine Nat.ne_of_lt ?_; simp only [*]; done) | ((fail_if_success (fail_if_success omega (config := {}))); (first | with_reducible assumption | decide | lia | omega (config := {}))))) (by (first | (apply ap_x; assumption; (repeat constructor); done) | (refine Nat.ne_of_gt ?_; simp only [*]; done) | (refine Nat.ne_of_lt ?_; simp only [*]; done) | ((fail_if_success (fail_if_success omega (config := {}))); (first | with_reducible assumption | decide | lia | omega (config := {}))))) ?_)
    intro h11 tk11 avs5 na5 hvs5 nh5 pvs5 np5 ha5 hh5 hp5 F11 N11 K11
    have N12 := news_re N10 (by repeat (first | exact Rest.nil | (apply Rest.keep; focus ((repeat (first | exact off_nil | (refine off_cons ?_ ?_; focus (first | (apply ap_x; assumption; (repeat constructor); done) | (refine Nat.ne_of_gt ?_; simp only [*]; done) | (refine Nat.ne_of_lt ?_; simp only [*]; done) | ((fail_if_success (fail_if_success omega (config := {}))); (first | with_reducible assumption | decide | lia | omega (config := {}))))))); done)) | apply Rest.skip)) K11 N11
    dsimp only [List.cons_append, List.nil_append] at N12
    try clear F10
    try clear N10
    try clear N11
    try clear K11
    try clear N9
    try clear F8
    try clear ha
    try clear hh
    try clear hp
    rw [eM] at ha5 hh5 hp5
    (repeat' (first | (k_unfold; (try dsimp only)) | (k_end; wrow_close) | ((with_reducible show wpAny _ _ (eval (Expr.ListComp _ [⟨Expr.Name _ _, _, _, _⟩] _ _) _) _ _ _); k_here; k_dflt (refine LCg.ListComp_U (F₀ := by k_asm) (by with_unfolding_all rfl) (by decide) (by rfl) (by decide) (by rfl) ?_)) | ((with_reducible show wpAny _ _ (eval (Expr.ListComp _ [⟨Expr.Tuple _ _ _, _, _, _⟩] _ _) _) _ _ _); k_here; k_dflt (refine LCp.ListComp_P (F₀ := by k_asm) (by with_unfolding_all rfl) (by decide) (by rfl) (by decide) (by rfl) (by rfl) (by decide) ?_)) | walk1 | (dsimp only; walk1) | (leave1; walk_say "STEP leave1"; try dsimp only) | fail "no step"))
    rename_i h12 F12 N12
    have hsc0 : (0 : Int) ≤ 10 ^ ((1 + (rn : Int)) - 1).toNat := Int.le_of_lt (Int.pow_pos (by decide))
    obtain ⟨m9, F13⟩ := fr_canon (ps := [(Str.ofString "script", .ref sa), (Str.ofString "salt", .ref dS), (Str.ofString "many", .int (1 + (rn : Int)) tk8), (Str.ofString "scale", .int (10 ^ ((1 + (rn : Int)) - 1).toNat) _)]) F12 (by kst_all)
    obtain ⟨tkS, m9, F13⟩ : ∃ (tkS : Tok) (m9 : Str → Option Value), Fr h₀ _ h12 (kstB m9 [(Str.ofString "script", .ref sa), (Str.ofString "salt", .ref dS), (Str.ofString "many", .int (1 + (rn : Int)) tk8), (Str.ofString "scale", .int (10 ^ ((1 + (rn : Int)) - 1).toNat) tkS)]) := ⟨_, _, F13⟩
    generalize (10 : Int) ^ ((1 + (rn : Int)) - 1).toNat = sc at hsc0 F13
    have N13 : News h₀ _ h12 [(x, instObj 144 dx), (dx, oDict D al hl pl), (al, oList avs5 na5), (hl, oList hvs5 nh5), (pl, oList pvs5 np5), (D9, oList ys ys.length), (dS, od8), (L + 1 + 1, oRow), (L + 1, oC)] := news_sub N12 (by (first | ((repeat (first | exact sub_nil | refine sub_cons 0 rfl ?_ | refine sub_cons 1 rfl ?_ | refine sub_cons 2 rfl ?_ | refine sub_cons 3 rfl ?_ | refine sub_cons 4 rfl ?_ | refine sub_cons 5 rfl ?_ | refine sub_cons 6 rfl ?_ | refine sub_cons 7 rfl ?_ | refine sub_cons 8 rfl ?_ | refine sub_cons 9 rfl ?_ | refine sub_cons 10 rfl ?_ | refine sub_cons 11 rfl ?_ | refine sub_cons 12 rfl ?_ | refine sub_cons 13 rfl ?_)); done) | kcf_all))
    try clear F12
    try clear N12
    try clear F11
    try clear N9
    refine stop_go (For_turns F13 ?_ (hE := hE))
    (repeat' (first | (k_unfold; (try dsimp only)) | (k_end; wrow_close) | ((with_reducible show wpAny _ _ (eval (Expr.ListComp _ [⟨Expr.Name _ _, _, _, _⟩] _ _) _) _ _ _); k_here; k_dflt (refine LCg.ListComp_U (F₀ := by k_asm) (by with_unfolding_all rfl) (by decide) (by rfl) (by decide) (by rfl) ?_)) | ((with_reducible show wpAny _ _ (eval (Expr.ListComp _ [⟨Expr.Tuple _ _ _, _, _, _⟩] _ _) _) _ _ _); k_here; k_dflt (refine LCp.ListComp_P (F₀ := by k_asm) (by with_unfolding_all rfl) (by decide) (by rfl) (by decide) (by rfl) (by rfl) (by decide) ?_)) | walk1 | (dsimp only; walk1) | (leave1; walk_say "STEP leave1"; try dsimp only) | fail "no step"))
    rename_i hR hF hN hK
    refine stop_go (iter_rangeR (n := rn + 1) (by rfl) hF hN hR (small_one (by (first | (apply ap_x; assumption; (repeat constructor); done) | (refine Nat.ne_of_gt ?_; simp only [*]; done) | (refine Nat.ne_of_lt ?_; simp only [*]; done) | ((fail_if_success (fail_if_success omega (config := {}))); (first | with_reducible assumption | decide | lia | omega (config := {}))))) (by (first | (apply ap_x; assumption; (repeat constructor); done) | (refine Nat.ne_of_gt ?_; simp only [*]; done) | (refine Nat.ne_of_lt ?_; simp only [*]; done) | ((fail_if_success (fail_if_success omega (config := {}))); (first | with_reducible assumption | decide | lia | omega (config := {}))))) (by (first | (apply ap_x; assumption; (repeat constructor); done) | (refine Nat.ne_of_gt ?_; simp only [*]; done) | (refine Nat.ne_of_lt ?_; simp only [*]; done) | ((fail_if_success (fail_if_success omega (config := {}))); (first | with_reducible assumption | decide | lia | omega (config := {}))))) (by (first | (apply ap_x; assumption; (repeat constructor); done) | (refine Nat.ne_of_gt ?_; simp only [*]; done) | (refine Nat.ne_of_lt ?_; simp only [*]; done) | ((fail_if_success (fail_if_success omega (config := {}))); (first | with_reducible assumption | decide | lia | omega (config := {})))))) (by rw [rangeSize_nat]; (first | (apply ap_x; assumption; (repeat constructor); done) | (refine Nat.ne_of_gt ?_; simp only [*]; done) | (refine Nat.ne_of_lt ?_; simp only [*]; done) | ((fail_if_success (fail_if_success omega (config := {}))); (first | with_reducible assumption | decide | lia | omega (config := {}))))) fun I lI => ?_)
    have lI' := allLt_of lI
    dsimp only [AllLt] at lI'
    have api := ap_cons ap (by repeat (first | exact True.intro | (refine And.intro (by (first | exact lI'.1 | exact lI'.2.1 | exact lI'.2.2.1 | exact lI'.2.2.2.1 | exact lI'.2.2.2.2.1 | exact lI'.2.2.2.2.2.1 | exact lI'.2.2.2.2.2.2.1 | exact lI'.2.2.2.2.2.2.2.1 | exact lI'.2.2.2.2.2.2.2.2.1 | exact lI'.2.2.2.2.2.2.2.2.2.1 | exact lI'.2.2.2.2.2.2.2.2.2.2.1 | exact lI'.2.2.2.2.2.2.2.2.2.2.2.1 | exact lI'.2.2.2.2.2.2.2.2.2.2.2.2.1 | exact lI'.2.2.2.2.2.2.2.2.2.2.2.2.2.1 | exact lI' | exact lI'.2 | exact lI'.2.2 | exact lI'.2.2.2 | exact lI'.2.2.2.2 | exact lI'.2.2.2.2.2 | exact lI'.2.2.2.2.2.2 | exact lI'.2.2.2.2.2.2.2 | exact lI'.2.2.2.2.2.2.2.2 | exact lI'.2.2.2.2.2.2.2.2.2 | exact lI'.2.2.2.2.2.2.2.2.2.2 | exact lI'.2.2.2.2.2.2.2.2.2.2.2 | exact lI'.2.2.2.2.2.2.2.2.2.2.2.2 | exact lI'.2.2.2.2.2.2.2.2.2.2.2.2.2)) ?_)))
    clear lI lI'
    obtain ⟨Inv1, hInv1⟩ : ∃ I : Nat → (Str → Option Value) → List (Addr × Obj) → Prop, Hide ((∀ (i : Nat) (m₁ : Str → Option Value) (nw : List (Addr × Obj)), (∃ m', m₁ = kstB m' [(Str.ofString "script", .ref sa), (Str.ofString "salt", .ref dS), (Str.ofString "many", .int (1 + (rn : Int)) tk8), (Str.ofString "scale", .int sc tkS)]) → ∀ avs an od ta act cn, nw = [(x, instObj 144 dx), (dx, oDict D al hl pl), (al, oList avs an), (hl, oList hvs5 nh5), (pl, oList pvs5 np5), (D9, oList ys ys.length), (dS, od), (L + 1 + 1, oRow), (L + 1, oC)] → (IntsAre avs act) → (act.length = rn + 2) → (od.IsDictOf (strKind PySem.Challenge.rw_rg0205_01.row.prog w) [(Str.ofString "cells", .ref D9), (Str.ofString "at", .int cn ta)]) → (0 ≤ cn) → (cn ≤ 1 + (i : Int)) → I i m₁ nw) ∧ (∀ (i : Nat) (C : (Str → Option Value) → List (Addr × Obj) → Prop), (∀ m' avs an od ta act cn, (IntsAre avs act) → (act.length = rn + 2) → (od.IsDictOf (strKind PySem.Challenge.rw_rg0205_01.row.prog w) [(Str.ofString "cells", .ref D9), (Str.ofString "at", .int cn ta)]) → (0 ≤ cn) → (cn ≤ 1 + (i : Int)) → C (kstB m' [(Str.ofString "script", .ref sa), (Str.ofString "salt", .ref dS), (Str.ofString "many", .int (1 + (rn : Int)) tk8), (Str.ofString "scale", .int sc tkS)]) [(x, instObj 144 dx), (dx, oDict D al hl pl), (al, oList avs an), (hl, oList hvs5 nh5), (pl, oList pvs5 np5), (D9, oList ys ys.length), (dS, od), (L + 1 + 1, oRow), (L + 1, oC)]) → ∀ m₁ nw, I i m₁ nw → C m₁ nw)) := ⟨fun i m₁ nw => (∃ m', m₁ = kstB m' [(Str.ofString "script", .ref sa), (Str.ofString "salt", .ref dS), (Str.ofString "many", .int (1 + (rn : Int)) tk8), (Str.ofString "scale", .int sc tkS)]) ∧ ∃ avs an od ta act cn, nw = [(x, instObj 144 dx), (dx, oDict D al hl pl), (al, oList avs an), (hl, oList hvs5 nh5), (pl, oList pvs5 np5), (D9, oList ys ys.length), (dS, od), (L + 1 + 1, oRow), (L + 1, oC)] ∧ IntsAre avs act ∧ act.length = rn + 2 ∧ od.IsDictOf (strKind PySem.Challenge.rw_rg0205_01.row.prog w) [(Str.ofString "cells", .ref D9), (Str.ofString "at", .int cn ta)] ∧ 0 ≤ cn ∧ cn ≤ 1 + (i : Int), fun i m₁ nw h0 avs an od ta act cn h1 g0 g1 g2 g3 g4 => ⟨h0, avs, an, od, ta, act, cn, h1, g0, g1, g2, g3, g4⟩, by rintro i C k m₁ nw ⟨⟨m', rfl⟩, avs, an, od, ta, act, cn, rfl, g0, g1, g2, g3, g4⟩; exact k m' avs an od ta act cn g0 g1 g2 g3 g4⟩
    refine items_inv Inv1 (hInv1.out.1 _ _ _ ⟨m9, rfl⟩ _ _ _ _ _ _ rfl ha5 List.length_replicate hod8 (by decide) (by decide)) ?_ ?_
    · rintro i a m₁ nw v1 hh1 tk1 hxa hinv hav
      revert m₁ nw hinv
      refine hInv1.out.2 _ _ ?_
      intro m' avs an od ta act cn hact hal hod hcn0 hcn1 F1
      revert a v1 hxa hav
      refine rng_elim ?_
      intro hi tt
      refine AllObj.cons fun oI hcI => AllObj.nil fun N1 => ?_
      dsimp only [List.cons_append, List.nil_append] at N1
      have lva := IntsAre.length hact
      try k_fold
      (repeat' (first | (k_unfold; (try dsimp only)) | (k_end; wrow_close) | ((with_reducible show wpAny _ _ (eval (Expr.ListComp _ [⟨Expr.Name _ _, _, _, _⟩] _ _) _) _ _ _); k_here; k_dflt (refine LCg.ListComp_U (F₀ := by k_asm) (by with_unfolding_all rfl) (by decide) (by rfl) (by decide) (by rfl) ?_)) | ((with_reducible show wpAny _ _ (eval (Expr.ListComp _ [⟨Expr.Tuple _ _ _, _, _, _⟩] _ _) _) _ _ _); k_here; k_dflt (refine LCp.ListComp_P (F₀ := by k_asm) (by with_unfolding_all rfl) (by decide) (by rfl) (by decide) (by rfl) (by rfl) (by decide) ?_)) | walk1 | (dsimp only; walk1) | (leave1; walk_say "STEP leave1"; try dsimp only) | fail "no step"))
      rename_i h14 F14 N14
      refine stop_go (pinch_spec C' F14 (cb_drop N14 (by (first | ((repeat (first | exact sub_nil | refine sub_cons 0 rfl ?_ | refine sub_cons 1 rfl ?_ | refine sub_cons 2 rfl ?_ | refine sub_cons 3 rfl ?_ | refine sub_cons 4 rfl ?_ | refine sub_cons 5 rfl ?_ | refine sub_cons 6 rfl ?_ | refine sub_cons 7 rfl ?_ | refine sub_cons 8 rfl ?_ | refine sub_cons 9 rfl ?_ | refine sub_cons 10 rfl ?_ | refine sub_cons 11 rfl ?_ | refine sub_cons 12 rfl ?_ | refine sub_cons 13 rfl ?_)); done) | kcf_all))) (room hdp.out rfl) (room hun.out rfl) (by (first | (apply ap_x; assumption; (repeat constructor); done) | (refine Nat.ne_of_gt ?_; simp only [*]; done) | (refine Nat.ne_of_lt ?_; simp only [*]; done) | ((fail_if_success (fail_if_success omega (config := {}))); (first | with_reducible assumption | decide | lia | omega (config := {}))))) hod hys' (by (first | (apply ap_x; assumption; (repeat constructor); done) | (refine Nat.ne_of_gt ?_; simp only [*]; done) | (refine Nat.ne_of_lt ?_; simp only [*]; done) | ((fail_if_success (fail_if_success omega (config := {}))); (first | with_reducible assumption | decide | lia | omega (config := {}))))) (by (first | (apply ap_x; assumption; (repeat constructor); done) | (refine Nat.ne_of_gt ?_; simp only [*]; done) | (refine Nat.ne_of_lt ?_; simp only [*]; done) | ((fail_if_success (fail_if_success omega (config := {}))); (first | with_reducible assumption | decide | lia | omega (config := {}))))) (by (first | (apply ap_x; assumption; (repeat constructor); done) | (refine Nat.ne_of_gt ?_; simp only [*]; done) | (refine Nat.ne_of_lt ?_; simp only [*]; done) | ((fail_if_success (fail_if_success omega (config := {}))); (first | with_reducible assumption | decide | lia | omega (config := {}))))) (by decide) (by decide) ?_)
      intro h15 tk15 r15 u15 ta15 od15 r150 r151 hod15 F15 N15 K15
      have N16 := news_re N14 (by repeat (first | exact Rest.nil | (apply Rest.keep; focus ((repeat (first | exact off_nil | (refine off_cons ?_ ?_; focus (first | (apply ap_x; assumption; (repeat constructor); done) | (refine Nat.ne_of_gt ?_; simp only [*]; done) | (refine Nat.ne_of_lt ?_; simp only [*]; done) | ((fail_if_success (fail_if_success omega (config := {}))); (first | with_reducible assumption | decide | lia | omega (config := {}))))))); done)) | apply Rest.skip)) K15 N15
      dsimp only [List.cons_append, List.nil_append] at N16
      try clear F14
      try clear N14
      try clear N15
      try clear K15
      (repeat' (first | (k_unfold; (try dsimp only)) | (k_end; wrow_close) | ((with_reducible show wpAny _ _ (eval (Expr.ListComp _ [⟨Expr.Name _ _, _, _, _⟩] _ _) _) _ _ _); k_here; k_dflt (refine LCg.ListComp_U (F₀ := by k_asm) (by with_unfolding_all rfl) (by decide) (by rfl) (by decide) (by rfl) ?_)) | ((with_reducible show wpAny _ _ (eval (Expr.ListComp _ [⟨Expr.Tuple _ _ _, _, _, _⟩] _ _) _) _ _ _); k_here; k_dflt (refine LCp.ListComp_P (F₀ := by k_asm) (by with_unfolding_all rfl) (by decide) (by rfl) (by decide) (by rfl) (by rfl) (by decide) ?_)) | walk1 | (dsimp only; walk1) | (leave1; walk_say "STEP leave1"; try dsimp only) | fail "no step"))
      have N17 := ‹News _ _ _ _›
      have F17 := ‹Fr _ _ _ _›
      try dsimp only at F17 N17
      have hi17 := ‹IntsAre (avs.set _ _) _›
      refine stop_go (UnrEndW.intro F17 N17 [(x, instObj 144 dx), (dx, oDict D al hl pl), (al, oList _ _), (hl, oList hvs5 nh5), (pl, oList pvs5 np5), (D9, oList ys ys.length), (dS, od15), (L + 1 + 1, oRow), (L + 1, oC)] (by k_subL) (by k_subL) (by ktu_offL) ⟨by k_subL, hInv1.out.1 _ _ _ (canon (by kst_all)) _ _ _ _ _ _ rfl hi17 (by rw [List.length_set]; exact hal) hod15 (by (first | (apply ap_x; assumption; (repeat constructor); done) | (refine Nat.ne_of_gt ?_; simp only [*]; done) | (refine Nat.ne_of_lt ?_; simp only [*]; done) | ((fail_if_success (fail_if_success omega (config := {}))); (first | with_reducible assumption | decide | lia | omega (config := {}))))) (by (first | (apply ap_x; assumption; (repeat constructor); done) | (refine Nat.ne_of_gt ?_; simp only [*]; done) | (refine Nat.ne_of_lt ?_; simp only [*]; done) | ((fail_if_success (fail_if_success omega (config := {}))); (first | with_reducible assumption | decide | lia | omega (config := {})))))⟩)
    · rintro m₁ nw hh1 tk1 hinv
      revert m₁ nw hinv
      refine hInv1.out.2 _ _ ?_
      intro m' avs an od ta act cn hact hal hod hcn0 hcn1 F1 N1
      clear api
      rw [rangeItems_length] at hcn1
      have lva := IntsAre.length hact
      dsimp only
      (repeat' (first | (k_unfold; (try dsimp only)) | (k_end; wrow_close) | ((with_reducible show wpAny _ _ (eval (Expr.ListComp _ [⟨Expr.Name _ _, _, _, _⟩] _ _) _) _ _ _); k_here; k_dflt (refine LCg.ListComp_U (F₀ := by k_asm) (by with_unfolding_all rfl) (by decide) (by rfl) (by decide) (by rfl) ?_)) | ((with_reducible show wpAny _ _ (eval (Expr.ListComp _ [⟨Expr.Tuple _ _ _, _, _, _⟩] _ _) _) _ _ _); k_here; k_dflt (refine LCp.ListComp_P (F₀ := by k_asm) (by with_unfolding_all rfl) (by decide) (by rfl) (by decide) (by rfl) (by rfl) (by decide) ?_)) | walk1 | (dsimp only; walk1) | (leave1; walk_say "STEP leave1"; try dsimp only) | fail "no step"))
      rename_i hR hF hN hK
      refine list_rangeR (n := rn + 1) (by rfl) hF hN hR (small_one (by (first | (apply ap_x; assumption; (repeat constructor); done) | (refine Nat.ne_of_gt ?_; simp only [*]; done) | (refine Nat.ne_of_lt ?_; simp only [*]; done) | ((fail_if_success (fail_if_success omega (config := {}))); (first | with_reducible assumption | decide | lia | omega (config := {}))))) (by (first | (apply ap_x; assumption; (repeat constructor); done) | (refine Nat.ne_of_gt ?_; simp only [*]; done) | (refine Nat.ne_of_lt ?_; simp only [*]; done) | ((fail_if_success (fail_if_success omega (config := {}))); (first | with_reducible assumption | decide | lia | omega (config := {}))))) (by (first | (apply ap_x; assumption; (repeat constructor); done) | (refine Nat.ne_of_gt ?_; simp only [*]; done) | (refine Nat.ne_of_lt ?_; simp only [*]; done) | ((fail_if_success (fail_if_success omega (config := {}))); (first | with_reducible assumption | decide | lia | omega (config := {}))))) (by (first | (apply ap_x; assumption; (repeat constructor); done) | (refine Nat.ne_of_gt ?_; simp only [*]; done) | (refine Nat.ne_of_lt ?_; simp only [*]; done) | ((fail_if_success (fail_if_success omega (config := {}))); (first | with_reducible assumption | decide | lia | omega (config := {})))))) (by rw [rangeSize_nat]; (first | (apply ap_x; assumption; (repeat constructor); done) | (refine Nat.ne_of_gt ?_; simp only [*]; done) | (refine Nat.ne_of_lt ?_; simp only [*]; done) | ((fail_if_success (fail_if_success omega (config := {}))); (first | with_reducible assumption | decide | lia | omega (config := {}))))) (by (first | (apply ap_x; assumption; (repeat constructor); done) | (refine Nat.ne_of_gt ?_; simp only [*]; done) | (refine Nat.ne_of_lt ?_; simp only [*]; done) | ((fail_if_success (fail_if_success omega (config := {}))); (first | with_reducible assumption | decide | lia | omega (config := {}))))) fun lf cf h20 tk20 lvs hlvs F20 N20 lo20 lo21 => ?_
      have lo22 := allLt_of lo20
      dsimp only [AllLt] at lo22
      have ap := ap_cons ap (by repeat (first | exact True.intro | (refine And.intro (by (first | exact lo22.1 | exact lo22.2.1 | exact lo22.2.2.1 | exact lo22.2.2.2.1 | exact lo22.2.2.2.2.1 | exact lo22.2.2.2.2.2.1 | exact lo22.2.2.2.2.2.2.1 | exact lo22.2.2.2.2.2.2.2.1 | exact lo22.2.2.2.2.2.2.2.2.1 | exact lo22.2.2.2.2.2.2.2.2.2.1 | exact lo22.2.2.2.2.2.2.2.2.2.2.1 | exact lo22.2.2.2.2.2.2.2.2.2.2.2.1 | exact lo22.2.2.2.2.2.2.2.2.2.2.2.2.1 | exact lo22.2.2.2.2.2.2.2.2.2.2.2.2.2.1 | exact lo22 | exact lo22.2 | exact lo22.2.2 | exact lo22.2.2.2 | exact lo22.2.2.2.2 | exact lo22.2.2.2.2.2 | exact lo22.2.2.2.2.2.2 | exact lo22.2.2.2.2.2.2.2 | exact lo22.2.2.2.2.2.2.2.2 | exact lo22.2.2.2.2.2.2.2.2.2 | exact lo22.2.2.2.2.2.2.2.2.2.2 | exact lo22.2.2.2.2.2.2.2.2.2.2.2 | exact lo22.2.2.2.2.2.2.2.2.2.2.2.2 | exact lo22.2.2.2.2.2.2.2.2.2.2.2.2.2)) ?_)))
      clear lo22
      try clear lo20
      try clear F1
      try clear N1
      have llf := IntsAre.length hlvs
      rw [upto_length] at llf
      (repeat' (first | (k_unfold; (try dsimp only)) | (k_end; wrow_close) | ((with_reducible show wpAny _ _ (eval (Expr.ListComp _ [⟨Expr.Name _ _, _, _, _⟩] _ _) _) _ _ _); k_here; k_dflt (refine LCg.ListComp_U (F₀ := by k_asm) (by with_unfolding_all rfl) (by decide) (by rfl) (by decide) (by rfl) ?_)) | ((with_reducible show wpAny _ _ (eval (Expr.ListComp _ [⟨Expr.Tuple _ _ _, _, _, _⟩] _ _) _) _ _ _); k_here; k_dflt (refine LCp.ListComp_P (F₀ := by k_asm) (by with_unfolding_all rfl) (by decide) (by rfl) (by decide) (by rfl) (by rfl) (by decide) ?_)) | walk1 | (dsimp only; walk1) | (leave1; walk_say "STEP leave1"; try dsimp only) | fail "no step"))
      rename_i rl h21a l21 Dt h21b l22 h21c F21a N21a h21d h21e oR F21 N21 dR
      have ap := ap_cons ap (by repeat (first | exact True.intro | (refine And.intro (by (first | exact l21.1 | exact l21.2.1 | exact l21.2.2.1 | exact l21.2.2.2.1 | exact l21.2.2.2.2.1 | exact l21.2.2.2.2.2.1 | exact l21.2.2.2.2.2.2.1 | exact l21.2.2.2.2.2.2.2.1 | exact l21.2.2.2.2.2.2.2.2.1 | exact l21.2.2.2.2.2.2.2.2.2.1 | exact l21.2.2.2.2.2.2.2.2.2.2.1 | exact l21.2.2.2.2.2.2.2.2.2.2.2.1 | exact l21.2.2.2.2.2.2.2.2.2.2.2.2.1 | exact l21.2.2.2.2.2.2.2.2.2.2.2.2.2.1 | exact l21 | exact l21.2 | exact l21.2.2 | exact l21.2.2.2 | exact l21.2.2.2.2 | exact l21.2.2.2.2.2 | exact l21.2.2.2.2.2.2 | exact l21.2.2.2.2.2.2.2 | exact l21.2.2.2.2.2.2.2.2 | exact l21.2.2.2.2.2.2.2.2.2 | exact l21.2.2.2.2.2.2.2.2.2.2 | exact l21.2.2.2.2.2.2.2.2.2.2.2 | exact l21.2.2.2.2.2.2.2.2.2.2.2.2 | exact l21.2.2.2.2.2.2.2.2.2.2.2.2.2)) ?_)))
      clear l21 l22
      refine stop_go ?_
      refine ksw_while (σ := LeftS) (fun c => [(lf, oList c.lvs c.ln), (rl, oList c.rvs c.rn), (x, instObj 144 dx), (dx, oDict D al hl pl), (al, oList avs an), (hl, oList hvs5 nh5), (pl, oList pvs5 np5), (D9, oList ys ys.length), (dS, c.od), (L + 1 + 1, oR), (L + 1, oC)]) (fun c => []) (fun _ => True) []
        (fun c => IntsAre c.lvs c.left ∧ IntsAre c.rvs c.row ∧ (c.row ++ c.left).Perm (upto (rn + 1)) ∧ c.od.IsDictOf (strKind PySem.Challenge.rw_rg0205_01.row.prog w) [(Str.ofString "cells", .ref D9), (Str.ofString "at", .int c.cn c.ta)] ∧ 0 ≤ c.cn ∧ c.cn + c.left.length ≤ 2 * rn + 3)
        (fun c => c.left.length) ⟨upto (rn + 1), [], lvs, [], cf, 0, od, cn, ta⟩ F21 (news_sub N21 (by (first | ((repeat (first | exact sub_nil | refine sub_cons 0 rfl ?_ | refine sub_cons 1 rfl ?_ | refine sub_cons 2 rfl ?_ | refine sub_cons 3 rfl ?_ | refine sub_cons 4 rfl ?_ | refine sub_cons 5 rfl ?_ | refine sub_cons 6 rfl ?_ | refine sub_cons 7 rfl ?_ | refine sub_cons 8 rfl ?_ | refine sub_cons 9 rfl ?_ | refine sub_cons 10 rfl ?_ | refine sub_cons 11 rfl ?_ | refine sub_cons 12 rfl ?_ | refine sub_cons 13 rfl ?_)); done) | kcf_all))) trivial (by kst_all) ⟨hlvs, .nil, .refl _, hod, hcn0, by dsimp only; rw [upto_length]; (first | (apply ap_x; assumption; (repeat constructor); done) | (refine Nat.ne_of_gt ?_; simp only [*]; done) | (refine Nat.ne_of_lt ?_; simp only [*]; done) | ((fail_if_success (fail_if_success omega (config := {}))); (first | with_reducible assumption | decide | lia | omega (config := {}))))⟩ ?_ (hE := hE)
      rintro ⟨left, row, lvs, rvs, ln, rn', od, cn, ta⟩ u h tk _ hJ F1 N1
      dsimp only at hJ
      have hle := hJ.1
      have hro := hJ.2.1
      have hpm := hJ.2.2.1
      have hod := hJ.2.2.2.1
      have hcn0 := hJ.2.2.2.2.1
      have hcn1 := hJ.2.2.2.2.2
      clear hJ
      try clear F21
      try clear N21
      try clear F21a
      try clear N21a
      dsimp only at hle hro hpm hod hcn0 hcn1 F1 N1 ⊢
      have lvl := IntsAre.length hle
      have lvr := IntsAre.length hro
      have lpm := hpm.length_eq
      rw [List.length_append, upto_length] at lpm
      show wpAny _ _ _ _ _ _
      k_fold
      have hun2 := hun.out
      (repeat' ((fail_if_success (with_reducible show Stop _)); (fail_if_success (with_reducible show wpAny _ _ (execs (Stmt.Assign _ (Expr.Subscript _ (Expr.Slice _ _ _ _) _) _ :: _) _) _ _ _)); (first | (k_unfold; (try dsimp only)) | (k_end; wrow_close) | walk1 | (dsimp only; walk1) | (leave1; try dsimp only))))
      all_goals clear hun2
      rotate_left
      · have hlne : left ≠ [] := by simpa using ‹decide (left = []) = false›
        have hl0 : 0 < left.length := List.length_pos_iff.mpr hlne
        have N23 := ‹News _ _ _ _›
        have F23 := ‹Fr _ _ _ _›
        try dsimp only at F23 N23 ⊢
        refine stop_go (pinch_spec C' F23 (cb_drop N23 (by (first | ((repeat (first | exact sub_nil | refine sub_cons 0 rfl ?_ | refine sub_cons 1 rfl ?_ | refine sub_cons 2 rfl ?_ | refine sub_cons 3 rfl ?_ | refine sub_cons 4 rfl ?_ | refine sub_cons 5 rfl ?_ | refine sub_cons 6 rfl ?_ | refine sub_cons 7 rfl ?_ | refine sub_cons 8 rfl ?_ | refine sub_cons 9 rfl ?_ | refine sub_cons 10 rfl ?_ | refine sub_cons 11 rfl ?_ | refine sub_cons 12 rfl ?_ | refine sub_cons 13 rfl ?_)); done) | kcf_all))) (room hdp.out rfl) (room hun.out rfl) (by (first | (apply ap_x; assumption; (repeat constructor); done) | (refine Nat.ne_of_gt ?_; simp only [*]; done) | (refine Nat.ne_of_lt ?_; simp only [*]; done) | ((fail_if_success (fail_if_success omega (config := {}))); (first | with_reducible assumption | decide | lia | omega (config := {}))))) hod hys' (by (first | (apply ap_x; assumption; (repeat constructor); done) | (refine Nat.ne_of_gt ?_; simp only [*]; done) | (refine Nat.ne_of_lt ?_; simp only [*]; done) | ((fail_if_success (fail_if_success omega (config := {}))); (first | with_reducible assumption | decide | lia | omega (config := {}))))) (by (first | (apply ap_x; assumption; (repeat constructor); done) | (refine Nat.ne_of_gt ?_; simp only [*]; done) | (refine Nat.ne_of_lt ?_; simp only [*]; done) | ((fail_if_success (fail_if_success omega (config := {}))); (first | with_reducible assumption | decide | lia | omega (config := {}))))) (by (first | (apply ap_x; assumption; (repeat constructor); done) | (refine Nat.ne_of_gt ?_; simp only [*]; done) | (refine Nat.ne_of_lt ?_; simp only [*]; done) | ((fail_if_success (fail_if_success omega (config := {}))); (first | with_reducible assumption | decide | lia | omega (config := {}))))) (by (first | (apply ap_x; assumption; (repeat constructor); done) | (refine Nat.ne_of_gt ?_; simp only [*]; done) | (refine Nat.ne_of_lt ?_; simp only [*]; done) | ((fail_if_success (fail_if_success omega (config := {}))); (first | with_reducible assumption | decide | lia | omega (config := {}))))) (by (first | (apply ap_x; assumption; (repeat constructor); done) | (refine Nat.ne_of_gt ?_; simp only [*]; done) | (refine Nat.ne_of_lt ?_; simp only [*]; done) | ((fail_if_success (fail_if_success omega (config := {}))); (first | with_reducible assumption | decide | lia | omega (config := {}))))) ?_)
        intro h15 tk15 r15 u15 ta15 od15 r150 r151 hod15 F15 N15 K15
        have N16 := news_re N23 (by repeat (first | exact Rest.nil | (apply Rest.keep; focus ((repeat (first | exact off_nil | (refine off_cons ?_ ?_; focus (first | (apply ap_x; assumption; (repeat constructor); done) | (refine Nat.ne_of_gt ?_; simp only [*]; done) | (refine Nat.ne_of_lt ?_; simp only [*]; done) | ((fail_if_success (fail_if_success omega (config := {}))); (first | with_reducible assumption | decide | lia | omega (config := {}))))))); done)) | apply Rest.skip)) K15 N15
        dsimp only [List.cons_append, List.nil_append] at N16
        try clear F23
        try clear N23
        try clear N15
        try clear K15
        obtain ⟨kn, rfl⟩ := Int.eq_ofNat_of_zero_le r150
        (repeat' (first | (k_unfold; (try dsimp only)) | (k_end; wrow_close) | ((with_reducible show wpAny _ _ (eval (Expr.ListComp _ [⟨Expr.Name _ _, _, _, _⟩] _ _) _) _ _ _); k_here; k_dflt (refine LCg.ListComp_U (F₀ := by k_asm) (by with_unfolding_all rfl) (by decide) (by rfl) (by decide) (by rfl) ?_)) | ((with_reducible show wpAny _ _ (eval (Expr.ListComp _ [⟨Expr.Tuple _ _ _, _, _, _⟩] _ _) _) _ _ _); k_here; k_dflt (refine LCp.ListComp_P (F₀ := by k_asm) (by with_unfolding_all rfl) (by decide) (by rfl) (by decide) (by rfl) (by rfl) (by decide) ?_)) | walk1 | (dsimp only; walk1) | (leave1; walk_say "STEP leave1"; try dsimp only) | fail "no step"))
        refine pop_at_ints (by k_asm) (by k_asm) hle (by (first | (apply ap_x; assumption; (repeat constructor); done) | (refine Nat.ne_of_gt ?_; simp only [*]; done) | (refine Nat.ne_of_lt ?_; simp only [*]; done) | ((fail_if_success (fail_if_success omega (config := {}))); (first | with_reducible assumption | decide | lia | omega (config := {}))))) (by (first | (apply ap_x; assumption; (repeat constructor); done) | (refine Nat.ne_of_gt ?_; simp only [*]; done) | (refine Nat.ne_of_lt ?_; simp only [*]; done) | ((fail_if_success (fail_if_success omega (config := {}))); (first | with_reducible assumption | decide | lia | omega (config := {}))))) (by k_upd) fun h24 t24 hle' F24 N24 => ?_
        (repeat' (first | (k_unfold; (try dsimp only)) | (k_end; wrow_close) | ((with_reducible show wpAny _ _ (eval (Expr.ListComp _ [⟨Expr.Name _ _, _, _, _⟩] _ _) _) _ _ _); k_here; k_dflt (refine LCg.ListComp_U (F₀ := by k_asm) (by with_unfolding_all rfl) (by decide) (by rfl) (by decide) (by rfl) ?_)) | ((with_reducible show wpAny _ _ (eval (Expr.ListComp _ [⟨Expr.Tuple _ _ _, _, _, _⟩] _ _) _) _ _ _); k_here; k_dflt (refine LCp.ListComp_P (F₀ := by k_asm) (by with_unfolding_all rfl) (by decide) (by rfl) (by decide) (by rfl) (by rfl) (by decide) ?_)) | walk1 | (dsimp only; walk1) | (leave1; walk_say "STEP leave1"; try dsimp only) | fail "no step"))
        have N25 := ‹News _ _ _ _›
        have F25 := ‹Fr _ _ _ _›
        try dsimp only at F25 N25 ⊢
        simp only [List.push_toArray] at N25
        refine stop_go (ksw_end ⟨left.eraseIdx kn, row ++ [left.getD kn 0], _, _, _, _, od15, cn + 1, ta15⟩ F25 N25 (by (first | ((repeat (first | exact sub_nil | refine sub_cons 0 rfl ?_ | refine sub_cons 1 rfl ?_ | refine sub_cons 2 rfl ?_ | refine sub_cons 3 rfl ?_ | refine sub_cons 4 rfl ?_ | refine sub_cons 5 rfl ?_ | refine sub_cons 6 rfl ?_ | refine sub_cons 7 rfl ?_ | refine sub_cons 8 rfl ?_ | refine sub_cons 9 rfl ?_ | refine sub_cons 10 rfl ?_ | refine sub_cons 11 rfl ?_ | refine sub_cons 12 rfl ?_ | refine sub_cons 13 rfl ?_)); done) | kcf_all)) trivial (by kst_all) (by intro z h2 h3; rfl) ⟨hle', IntsAre.append hro (.cons _ _ .nil), erase_perm (by (first | (apply ap_x; assumption; (repeat constructor); done) | (refine Nat.ne_of_gt ?_; simp only [*]; done) | (refine Nat.ne_of_lt ?_; simp only [*]; done) | ((fail_if_success (fail_if_success omega (config := {}))); (first | with_reducible assumption | decide | lia | omega (config := {}))))) hpm, hod15, ?_, ?_⟩ ?_)
        · show 0 ≤ cn + 1
          (first | (apply ap_x; assumption; (repeat constructor); done) | (refine Nat.ne_of_gt ?_; simp only [*]; done) | (refine Nat.ne_of_lt ?_; simp only [*]; done) | ((fail_if_success (fail_if_success omega (config := {}))); (first | with_reducible assumption | decide | lia | omega (config := {}))))
        · show cn + 1 + _ ≤ _
          rw [List.length_eraseIdx_of_lt (by (first | (apply ap_x; assumption; (repeat constructor); done) | (refine Nat.ne_of_gt ?_; simp only [*]; done) | (refine Nat.ne_of_lt ?_; simp only [*]; done) | ((fail_if_success (fail_if_success omega (config := {}))); (first | with_reducible assumption | decide | lia | omega (config := {})))))]
          (first | (apply ap_x; assumption; (repeat constructor); done) | (refine Nat.ne_of_gt ?_; simp only [*]; done) | (refine Nat.ne_of_lt ?_; simp only [*]; done) | ((fail_if_success (fail_if_success omega (config := {}))); (first | with_reducible assumption | decide | lia | omega (config := {}))))
        · show List.length _ < List.length left
          rw [List.length_eraseIdx_of_lt (by (first | (apply ap_x; assumption; (repeat constructor); done) | (refine Nat.ne_of_gt ?_; simp only [*]; done) | (refine Nat.ne_of_lt ?_; simp only [*]; done) | ((fail_if_success (fail_if_success omega (config := {}))); (first | with_reducible assumption | decide | lia | omega (config := {})))))]
          (first | (apply ap_x; assumption; (repeat constructor); done) | (refine Nat.ne_of_gt ?_; simp only [*]; done) | (refine Nat.ne_of_lt ?_; simp only [*]; done) | ((fail_if_success (fail_if_success omega (config := {}))); (first | with_reducible assumption | decide | lia | omega (config := {}))))
      · have hl0 : left = [] := by simpa using ‹decide (left = []) = true›
        subst hl0
        rw [List.append_nil] at hpm
        rw [List.length_nil, Nat.add_zero] at lpm
        have N23 := ‹News _ _ _ _›
        have F23 := ‹Fr _ _ _ _›
        try dsimp only at F23 N23 ⊢
        obtain ⟨m8, F8⟩ := fr_canon (ps := [(Str.ofString "script", .ref sa), (Str.ofString "salt", .ref dS), (Str.ofString "many", .int (1 + (rn : Int)) tk8), (Str.ofString "scale", .int sc tkS)]) F23 (by kst_all)
        have N8 : News h₀ _ _ [(x, instObj 144 dx), (dx, oDict D al hl pl), (al, oList avs an), (hl, oList hvs5 nh5), (pl, oList pvs5 np5), (D9, oList ys ys.length), (dS, od), (rl, oList rvs rn'), (L + 1 + 1, oR), (L + 1, oC)] := news_sub N23 (by (first | ((repeat (first | exact sub_nil | refine sub_cons 0 rfl ?_ | refine sub_cons 1 rfl ?_ | refine sub_cons 2 rfl ?_ | refine sub_cons 3 rfl ?_ | refine sub_cons 4 rfl ?_ | refine sub_cons 5 rfl ?_ | refine sub_cons 6 rfl ?_ | refine sub_cons 7 rfl ?_ | refine sub_cons 8 rfl ?_ | refine sub_cons 9 rfl ?_ | refine sub_cons 10 rfl ?_ | refine sub_cons 11 rfl ?_ | refine sub_cons 12 rfl ?_ | refine sub_cons 13 rfl ?_)); done) | kcf_all))
        have hcl : (cells.take 60).length ≤ 1000 := by rw [List.length_take]; (first | (apply ap_x; assumption; (repeat constructor); done) | (refine Nat.ne_of_gt ?_; simp only [*]; done) | (refine Nat.ne_of_lt ?_; simp only [*]; done) | ((fail_if_success (fail_if_success omega (config := {}))); (first | with_reducible assumption | decide | lia | omega (config := {}))))
        rw [List.length_nil] at hcn1
        refine stop_go ?_
        exact rows_law (fa := fa) (wc := wc) (D := D) (rn := rn) (cells := cells.take 60) C' F8 N8 dR dC (room hdp.out rfl) (room hun.out rfl) hE hact hal (by (first | (apply ap_x; assumption; (repeat constructor); done) | (refine Nat.ne_of_gt ?_; simp only [*]; done) | (refine Nat.ne_of_lt ?_; simp only [*]; done) | ((fail_if_success (fail_if_success omega (config := {}))); (first | with_reducible assumption | decide | lia | omega (config := {}))))) hro hpm lpm hod hcn0 (by (first | (apply ap_x; assumption; (repeat constructor); done) | (refine Nat.ne_of_gt ?_; simp only [*]; done) | (refine Nat.ne_of_lt ?_; simp only [*]; done) | ((fail_if_success (fail_if_success omega (config := {}))); (first | with_reducible assumption | decide | lia | omega (config := {}))))) hsc0 hys' hcl (ap_sub ap (by (repeat (first | exact List.nil_sublist _ | (with_reducible refine List.Sublist.cons_cons _ ?_) | (with_reducible refine List.Sublist.cons _ ?_))))) o1 o2 o3 o4 k
-- RgEz
theorem with_cx {prog : Program} {A : Around} {Q : Flow → Shared → Prop} {E : Value → Shared → Prop} {s : Shared} {body : List Stmt} {w : World} {env : Env} {outer : List Env} {L : Addr} {h₀ base : Heap} {A₀ : Around} {mean : ExcName → Option Value} {mg mb : Str → Option Value} (B : Below A₀ base outer h₀) (X : (hd.heap_39 w.params).In h₀) (T : Top hd.view_39 (looseW hd.view_39 []) mean mg mb h₀)
    (h : Cx w env outer L h₀ → wpAny (model prog w) A (execs body env) Q E s) (hf : env.frame = some L) (hk : env.scope.kind = .function) : wpAny (model prog w) A (execs body env) Q E s := h (cx_intro B X T hf hk)
theorem law_holds : PySem.Challenge.rw_rg0205_01.Holds := by
  refine hd ?_
  k_go0
  rename_i w s0 s1 mg mb G Y fa o pm doc ho hg KX X V GL T B TE TW wb wo M wc wd hcd cells hs hlay0 hL1 hr1 hl2 w6 w5 sa svs w2 hL ra w1 r0 hI hr hcond1 hcond K0 hD h1 tk1 F oRow oSome leftC rightC N0 X0
  refine with_cx K0 KX T (fun C' => ?_) rfl rfl
  clear G Y ho X V GL B TE TW M hcd hlay0 hr1 hl2 hr
  obtain ⟨m0, F0⟩ := fr_canon (ps := [(Str.ofString "script", .ref sa)]) F (by kst_all)
  clear F
  refine start_law (fa := fa) (wc := .ref wc) C' F0 N0 leftC rightC (rmA (envOfC (Str.ofString "law") tail0.1.2 s1.heap.objs.size fa (.ref wc))) (unA (envOfC (Str.ofString "law") tail0.1.2 s1.heap.objs.size fa (.ref wc))) (by passes_own) hL hI (by (first | (apply ap_x; assumption; (repeat constructor); done) | (refine Nat.ne_of_gt ?_; simp only [*]; done) | (refine Nat.ne_of_lt ?_; simp only [*]; done) | ((fail_if_success (fail_if_success omega (config := {}))); (first | with_reducible assumption | decide | lia | omega (config := {}))))) ?_
  intro h' tk' m5 F5
  k_steps
end
end Mine
theorem PySem.Challenge.cw_rg0205_01_holds : PySem.Challenge.rw_rg0205_01.Holds := by
  exact Mine.law_holds
