import PyProof.Rows.All
import Wide.All
import OpenK.AllK
import Wide.FinOn
import Lean
import PySem.Challenge.RW_pf0262_01
open PySem PySem.W PyProof.Rows
set_option Elab.async false
set_option maxRecDepth 100000
set_option maxHeartbeats 8000000
set_option compiler.extract_closed false
set_option linter.all false
set_option genSizeOf false
set_option genSizeOfSpec false
set_option genInjectivity false
namespace Mine


theorem lawSaid : PySem.Challenge.rw_pf0262_01.wellSaid = true := by
  simp only [OpenLaw.wellSaid, OpenRow.wellSaid, OpenRow.partSaid, looksOpen, Bool.and_eq_true]
  repeat' apply And.intro
  all_goals kernel_rfl
noncomputable def vw : Program := view PySem.Challenge.pw_pf0262_01 [1, 2, 4, 5, 6, 7, 8, 10, 11, 12, 13, 14, 15, 16, 17, 19, 20, 21, 22, 23, 24, 25, 26, 27]
noncomputable def vl : List (Str × WData) := [(Str.ofString "OPEN_STATES", WData.tuple [WData.str "ready", WData.str "send"])]
section
local macro_rules | `(tactic| o_head $H) => `(tactic| refine holds_open (q := vw) (loose := [Str.ofString "OPEN_STATES"]) (Xt := fun s => xlAt vw vl s && recOk (RowW.records (OpenRow.toRowW PySem.Challenge.rw_pf0262_01.row)) s) (XP := XL vw vl) (Yf := Hook.obs $H) (Ya := Hook.val $H) (YP := Hook.says $H) (N := 3176) (fun w => by kernel_rfl) (Hook.of $H) (Hook.keeps $H) (fun s e => xl_of s (Bool.and_eq_true_iff.mp e).1) XL.keeps (by rfl) (by rfl) (by rfl) (fun s e => recFacts_of (Bool.and_eq_true_iff.mp e).2) (by rfl) (by first | assumption | decide +kernel) (by decide +kernel) ⟨rfl, rfl, rfl, rfl, rfl, by decide +kernel⟩ ?hw ?hc)
local macro_rules | `(tactic| o_law) => `(tactic| refine holds_law lawSaid fun said => ?_)
open_top hd for PySem.Challenge.rw_pf0262_01
end
section
open PySem PySem.W PyProof.Rows PySem.Calls

section
variable {prog : Program} {w : World} {A : Around} {E : Value → Shared → Prop} {s : Shared} {b : Array UInt8} {t : Tok}
theorem look_bb : typeLookup (.type "bytes") "__bytes__" = pure (some (.builtin "bytes.__bytes__")) := by rw [typeLookup_type, builtinLookup_eq_fast]; kernel_rfl
theorem bytes_new {Q : Value → Shared → Prop} (h : Q (.bytes b t) s) : codeAny (model prog w) A (.call (.builtin "bytes.__new__") ⟨[.type "bytes", .bytes b t], []⟩) (wants Q E) s := by
  refine codeAny_of_tree ?_
  show wpAny _ A.in1 (do checkBuiltinCall "bytes.__new__" ⟨[.type "bytes", .bytes b t], []⟩; again (.builtin "bytes.__new__" ⟨[.type "bytes", .bytes b t], []⟩)) _ _ s
  refine wpAny_bind (wpAny_of_eq (F.bm_newCall _) (wpAny_pure ⟨plainId_quiet F.bm_plain _, codeAny_builtin F.bm_entry ?_⟩))
  rw [Around.under_plainId F.bm_plain _]
  unfold Builtin.«bytes.__new__»
  refine wpAny_bind (wpAny_of_eq (a := true) rfl ?_)
  refine bm_if_false rfl ?_
  refine wpAny_bind (wpAny_of_eq F.bm_sub ?_)
  refine bm_if_false rfl ?_
  refine wpAny_bind (wpAny_of_eq (F.bm_bind _) ?_)
  refine wpAny_bind (wpAny_of_eq (a := ()) rfl ?_)
  refine wpAny_bind (wpAny_of_eq (a := ()) rfl ?_)
  refine bm_if_false rfl ?_
  refine wpAny_bind (wpAny_of_eq (KBy.special_eq look_bb) ?_)
  refine wpAny_bind (wpAny_rule ?_)
  refine wpAny_bind (wpAny_of_eq (a := .type "bytes") rfl ?_)
  refine bm_if_true (by decide) ?_
  exact wpAny_pure h
theorem bytes_same {Q : Value → Shared → Prop} (h : Q (.bytes b t) s) : wpAny (model prog w) A (call (.type "bytes") [.bytes b t]) Q E s := by
  refine callType_codes (Q₁ := fun obj s₁ => s₁.TypeIs obj "bytes" ∧ Q obj s₁) F.bm_called (F.bm_typeCall _) F.entry_object_init (bytes_new ⟨PySem.W.typeIs_bytes _ _ _, h⟩) fun obj s₁ h₁ => ?_
  exact ⟨h₁.1, F.args_object_init_2 obj _, object_init_meets F.bm_called.init.lookup F.bm_called.made (by decide) prog w A.in1 _ s₁ ⟨h₁.1, rfl, h₁.2⟩⟩
end
end

section
open PySem PySem.W PyProof.Rows PySem.Calls
noncomputable def Apart (a b : Addr) : Prop := a ≠ b
theorem Apart.of {a b : Addr} (h : a ≠ b) : Apart a b := h
theorem Apart.ne {a b : Addr} (h : Apart a b) : a ≠ b := h
theorem Apart.ne' {a b : Addr} (h : Apart b a) : a ≠ b := Ne.symm h
noncomputable def Aparts (a : Addr) : List (Addr × Obj) → Prop
  | [] => True
  | q :: r => Apart q.1 a ∧ Aparts a r
theorem aparts_of {a : Addr} : ∀ {l : List (Addr × Obj)}, (∀ q ∈ l, q.1 ≠ a) → Aparts a l
  | [], _ => trivial
  | _ :: _, h => ⟨h _ (.head _), aparts_of fun q hq => h q (.tail _ hq)⟩
noncomputable def AllAparts : List Addr → List (Addr × Obj) → Prop
  | [], _ => True
  | a :: r, l => Aparts a l ∧ AllAparts r l
theorem allAparts_of {l : List (Addr × Obj)} : ∀ {as : List Addr}, (∀ a ∈ as, ∀ q ∈ l, q.1 ≠ a) → AllAparts as l
  | [], _ => trivial
  | _ :: _, h => ⟨aparts_of (h _ (.head _)), allAparts_of fun a ha => h a (.tail _ ha)⟩
noncomputable abbrev mkA (dp un : Nat) (gd : Option (List Code)) (env : Env) (outer : List Env) : Around := { handled := none, depth := dp, frames := some (env :: outer), guards := gd, units := un }
structure Ct (w : World) (d : Nat) (fv : Value) (vs : List Value) (news : List (Addr × Obj)) (T : Type) (val : T → Value) (out : T → List (Addr × Obj)) (fresh : T → List Addr) (fact : T → Prop) : Prop where
  run : ∀ (p : Program) (loose : List Str) (mean : ExcName → Option Value) (mg mb : Str → Option Value) (dp un : Nat) (gd : Option (List Code)) (base g : Heap) (env : Env) (outer : List Env) (s : Shared) (R : Result → Shared → Prop),
    Below (mkA dp un gd env outer) base (env :: outer) g → (∀ b o, g.get? b = some o → s.heap.get? b = some o) → g.objs.size ≤ s.heap.objs.size → (Mine.hd.heap_1 w.params).In g → Top p loose mean mg mb g →
    (∀ q ∈ news, s.heap.get? q.1 = some q.2 ∧ g.get? q.1 = none) → dp + d < recursionLimit → un + 10 * d < cLine →
    (∀ (t : T) h' tk', (∀ b o, g.get? b = some o → h'.get? b = some o) → (∀ q ∈ out t, h'.get? q.1 = some q.2 ∧ g.get? q.1 = none) → (∀ a ∈ fresh t, g.get? a = none) → fact t → R (.ok (.ret (val t))) { s with heap := h', toks := tk' }) →
    codeAny (model PySem.Challenge.rw_pf0262_01.row.prog w) (mkA dp un gd env outer) (.call fv ⟨vs, []⟩) R s

inductive Rst (as : List Addr) : List (Addr × Obj) → List (Addr × Obj) → Prop
  | nil : Rst as [] []
  | drop {q l r} : Rst as l r → Rst as (q :: l) r
  | keep {q l r} : (∀ a ∈ as, q.1 ≠ a) → Rst as l r → Rst as (q :: l) (q :: r)
theorem Rst.drop' {as : List Addr} {q : Addr × Obj} {l r : List (Addr × Obj)} (_ : q.1 ∈ as) (h : Rst as l r) : Rst as (q :: l) r := .drop h
theorem Rst.mem {as : List Addr} {l r : List (Addr × Obj)} (x : Rst as l r) : ∀ q ∈ r, q ∈ l ∧ q.1 ∉ as := by
  induction x with
  | nil => exact fun q h => nomatch h
  | drop _ ih => exact fun q h => ⟨.tail _ (ih q h).1, (ih q h).2⟩
  | keep n _ ih =>
    intro q h
    cases h with
    | head => exact ⟨.head _, fun hm => n _ hm rfl⟩
    | tail _ h => exact ⟨.tail _ (ih q h).1, (ih q h).2⟩

section
variable {w : World} {A A₀ : Around} {s : Shared} {base h₀ g : Heap} {env : Env} {outer : List Env} {L : Addr} {m mg mb : Str → Option Value} {led sub rest news : List (Addr × Obj)} {R : Result → Shared → Prop}
  {p : Program} {loose : List Str} {mean : ExcName → Option Value} {d : Nat} {fv : Value} {vs : List Value} {T : Type} {val : T → Value} {out : T → List (Addr × Obj)} {fresh : T → List Addr} {fact : T → Prop} {prog : Program}

theorem ct_use (C : Ct w d fv vs sub T val out fresh fact) (B : Below A₀ base outer h₀) (F : Fr h₀ L s.heap m) (X : (Mine.hd.heap_1 w.params).In h₀) (N : News h₀ L s.heap led) (TT : Top p loose mean mg mb h₀)
    (hA : A.frames = some (env :: outer)) (hf : env.frame = some L) (hke : env.scope.kind = .function) (hsub : ∀ q ∈ sub, q ∈ led) (hrest : Rst (sub.map (·.1)) led rest)
    (hd : A.depth + d < recursionLimit) (hu : A.units + 10 * d < cLine) (hh : A.handled = none)
    (hk : ∀ (t : T) h' tk', Fr h₀ L h' m → News h₀ L h' (out t ++ rest) → AllAparts (fresh t) rest → fact t → R (.ok (.ret (val t))) { s with heap := h', toks := tk' }) :
    codeAny (model PySem.Challenge.rw_pf0262_01.row.prog w) A (.call fv ⟨vs, []⟩) R s := by
  have NS : News h₀ L s.heap sub := fun q hq => N q (hsub q hq)
  obtain ⟨FG, BG, st, _⟩ := groundX (R := R) B F NS hA hf hke
  have eA : A = mkA A.depth A.units A.guards env outer := by cases A; cases hA; cases hh; rfl
  rw [eA] at BG ⊢
  refine C.run p loose mean mg mb _ _ _ base _ env outer s R BG (fun b o e => of_hideAll _ e) (Nat.le_of_eq (hideAll_size _ _)) (X.keeps st) (TT.keeps st)
    (fun q hq => ⟨(NS q hq).1, hideAll_none _ (List.mem_map_of_mem hq)⟩) hd hu fun t h' tk' kp hn hfr hfa => hk t h' tk' ⟨?_, fun b o e => kp b o (st b o e), F.above⟩ (fun q hq => ?_) (allAparts_of fun a ha q hq e => ?_) hfa
  · obtain ⟨oL, es, ep, hL, r⟩ := FG.ns
    exact ⟨oL, es, ep, kp _ _ hL, r⟩
  · have fresh : ∀ b, (hideAll s.heap (sub.map (·.1))).get? b = none → h₀.get? b = none := fun b e => by
      cases z : h₀.get? b with
      | none => rfl
      | some o => have := st b o z; rw [e] at this; cases this
    rcases List.mem_append.mp hq with hq | hq
    · obtain ⟨h1, h2⟩ := hn q hq
      refine ⟨h1, fun e => ?_, fresh _ h2⟩
      obtain ⟨oL, es, ep, hL, r⟩ := FG.ns
      rw [e, hL] at h2
      cases h2
    · obtain ⟨h1, h2⟩ := hrest.mem q hq
      have n := N q h1
      exact ⟨kp _ _ (hideAll_get _ n.1 h2), n.2⟩
  · obtain ⟨h1, h2⟩ := hrest.mem q hq
    have := hfr a ha
    rw [← e, hideAll_get _ (N q h1).1 h2] at this
    cases this

theorem ct_code {name qual : Str} {params : Arguments} {body : List Stmt} {scope : Scope} {dV kV doc pm cdv ct oc : Value} {an od : Option Addr} {osl : Array (Option Value)} {f : Addr} {args : Args} {binds : List (Str × Value)} {K : Frag}
    (B : Below A base (env :: outer) g) (kg : ∀ b o, g.get? b = some o → s.heap.get? b = some o) (sz : g.objs.size ≤ s.heap.objs.size) (X : K.In g) (TT : Top p loose mean mg mb g)
    (N : ∀ q ∈ news, s.heap.get? q.1 = some q.2 ∧ g.get? q.1 = none)
    (ho : K.lookup f = some ⟨oc, od, .func (fnOf name qual params body scope dV kV doc pm an cdv ct), osl⟩) (hcd : codeIn K cdv qual = true) (hroom : A.depth < recursionLimit)
    (hbind : BindsTo s (fnOf name qual params body scope dV kV doc pm an cdv ct) args binds) (hloc : ∀ y ∈ binds, scope.names.lookup y.1 = some .local)
    (h : ∀ L' h₁, Fr g L' h₁ (fun y => binds.reverse.lookup y) → News g L' h₁ news → (∀ q ∈ news, q.1 < L') →
      wpAny (model prog w) (A.deeper (envOf qual scope L' f cdv)) (execs body (envOf qual scope L' f cdv))
        (fun fl s' => R (.ok (.ret (match fl with | .ret v => v | _ => .none))) s')
        (fun e s' => wpAny (model prog w) (A.deeper (envOf qual scope L' f cdv)) (leaving (envOf qual scope L' f cdv) e) (fun _ s'' => R (.error e) s'') (fun e' s'' => R (.error e') s'') s')
        { s with heap := h₁, toks := s.toks + binds.length })
    (hco : scope.isCoroutine = false) (hgen : scope.isGenerator = false) (hk : scope.kind = .function)
    (hcell : ∀ x ∈ scope.names, x.2 ≠ .cell) : codeAny (model prog w) A (.call (.ref f) args) R s := by
  refine codeAny_call_def (fd := fnOf name qual params body scope dV kV doc pm an cdv ct) (body := body) (binds := binds) hroom (kg _ _ (X _ _ ho)) rfl ((TT.nolimit).keeps kg) (codeRec_of (X.keeps kg) hcd) rfl hbind hcell hloc (fun h₁ hns hk₁ => ?_) hco hgen hk
  exact h s.heap.objs.size h₁ ⟨hns, fun b o e => hk₁ b o (kg b o e), sz⟩ (fun q hq => ⟨hk₁ _ _ (N q hq).1, Nat.ne_of_lt (Heap.lt_size (N q hq).1), (N q hq).2⟩) fun q hq => Heap.lt_size (N q hq).1

theorem ct_codeC {name qual : Str} {params : Arguments} {body : List Stmt} {scope : Scope} {dV kV doc pm cdv ct oc : Value} {an od : Option Addr} {osl : Array (Option Value)} {f : Addr} {args : Args} {binds : List (Str × Value)} {K : Frag}
    (B : Below A base (env :: outer) g) (kg : ∀ b o, g.get? b = some o → s.heap.get? b = some o) (sz : g.objs.size ≤ s.heap.objs.size) (X : K.In g) (TT : Top p loose mean mg mb g)
    (N : ∀ q ∈ news, s.heap.get? q.1 = some q.2 ∧ g.get? q.1 = none)
    (ho : K.lookup f = some ⟨oc, od, .func (fnOf name qual params body scope dV kV doc pm an cdv ct), osl⟩) (hcd : codeIn K cdv qual = true) (hroom : A.depth < recursionLimit)
    (hbind : BindsTo s (fnOf name qual params body scope dV kV doc pm an cdv ct) args binds) (hkind : (binds.all fun y => scope.names.lookup y.1 == some .local || scope.names.lookup y.1 == some .cell) = true)
    (hnd : ((cellsFrom 0 scope.names []).map (·.1)).Nodup)
    (h : ∀ L' h₁ tk cells, Fr g L' h₁ (bindL (envOfC qual scope L' f cdv).kindOf binds fun _ => none) → News g L' h₁ (cells ++ news) →
      CellsAre (bindC (envOfC qual scope L' f cdv).kindOf binds fun _ => none) (cellsFrom (L' + 1) scope.names []) cells → (∀ q ∈ news, q.1 < L') →
      wpAny (model prog w) (A.deeper (envOfC qual scope L' f cdv)) (execs body (envOfC qual scope L' f cdv))
        (fun fl s' => R (.ok (.ret (match fl with | .ret v => v | _ => .none))) s')
        (fun e s' => wpAny (model prog w) (A.deeper (envOfC qual scope L' f cdv)) (leaving (envOfC qual scope L' f cdv) e) (fun _ s'' => R (.error e) s'') (fun e' s'' => R (.error e') s'') s')
        { s with heap := h₁, toks := tk })
    (hco : scope.isCoroutine = false) (hgen : scope.isGenerator = false) (hk : scope.kind = .function) : codeAny (model prog w) A (.call (.ref f) args) R s := by
  refine codeAny_call_function hroom (kg _ _ (X _ _ ho)) rfl hco hgen rfl (codeRec_of (X.keeps kg) hcd) (hbind _ _ _ _ ?_)
  refine wpAny_newFunctionEnv_cells hk (kindsX hkind _) fun env' he s' x => ?_
  subst he
  refine ⟨((TT.nolimit).keeps kg).keeps x.toInCall.keep, codeAny_func ?_⟩
  obtain ⟨h₁, tk, rfl, _⟩ := x.done
  have hk₁ := x.toInCall.keep
  obtain ⟨cells, NC, Y⟩ := Cl.news (h₀ := s.heap) (Nat.le_refl _) fun n c hm => ⟨x.cell n c (lookup_of_mem_nodup (cellsFrom_names scope.names 0 (s.heap.objs.size + 1) [] [] rfl ▸ hnd) hm), x.above n c hm⟩
  refine h s.heap.objs.size h₁ tk cells ⟨x.toInCall.ns, fun b o e => hk₁ b o (kg b o e), sz⟩ (fun q hq => ?_) Y fun q hq => Heap.lt_size (N q hq).1
  rcases List.mem_append.mp hq with hq | hq
  · refine ⟨(NC q hq).1, (NC q hq).2.1, ?_⟩
    cases z : g.get? q.1 with
    | none => rfl
    | some o => have := kg _ _ z; rw [(NC q hq).2.2] at this; cases this
  · exact ⟨hk₁ _ _ (N q hq).1, Nat.ne_of_lt (Heap.lt_size (N q hq).1), (N q hq).2⟩

theorem ct_fin {L' : Addr} {h' : Heap} {m' : Str → Option Value} {n n' : List (Addr × Obj)} {P : Prop} (F : Fr g L' h' m') (N : News g L' h' n) (sub : ∀ q ∈ n', q ∈ n)
    {fr : List Addr} {fa : Prop} (hfr : ∀ a ∈ fr, ∃ o, (a, o) ∈ n) (hfa : fa)
    (hR : (∀ b o, g.get? b = some o → h'.get? b = some o) → (∀ q ∈ n', h'.get? q.1 = some q.2 ∧ g.get? q.1 = none) → (∀ a ∈ fr, g.get? a = none) → fa → P) : P :=
  hR F.keep (fun q hq => ⟨(N q (sub q hq)).1, (N q (sub q hq)).2.2⟩) (fun a ha => let ⟨o, ho⟩ := hfr a ha; (N (a, o) ho).2.2) hfa
end
structure PK where
  (h0 h1 h2 h3 h4 h5 h6 h7 h8 h9 ha : Int)
  (k0 k1 k2 k3 k4 k5 k6 k7 k8 k9 ka : Tok)
noncomputable abbrev pD (K : PK) (lim st wr sent acked lost fin owes eacked code oreset : Value) : Obj :=
  dictOf [⟨K.h0, .str "limit" K.k0, lim⟩, ⟨K.h1, .str "state" K.k1, st⟩, ⟨K.h2, .str "written" K.k2, wr⟩, ⟨K.h3, .str "sent_to" K.k3, sent⟩, ⟨K.h4, .str "acked" K.k4, acked⟩, ⟨K.h5, .str "lost" K.k5, lost⟩,
    ⟨K.h6, .str "is_finished" K.k6, fin⟩, ⟨K.h7, .str "owes_end" K.k7, owes⟩, ⟨K.h8, .str "is_end_acked" K.k8, eacked⟩, ⟨K.h9, .str "reset_code" K.k9, code⟩, ⟨K.ha, .str "owes_reset" K.ka, oreset⟩] 11
end

section
open PySem PySem.W PyProof.Rows PySem.Calls

section
variable {prog : Program} {w : World} {A : Around} {E : Value → Shared → Prop} {s : Shared} {h₀ : Heap} {L a l : Addr} {m : Str → Option Value} {news : List (Addr × Obj)} {name : Str} {scope : Scope} {cd : Value}
theorem for_none {target : Expr} {x : Str} {np pos : Pos} {body : List Stmt} {n : Nat} {Q : Flow → Shared → Prop} (F : Fr h₀ L s.heap m) (N : News h₀ L s.heap news) (hv : m x = some (.ref l)) (hm : (l, listOf #[] n) ∈ news) (hh : A.handled = none)
    (h : ∀ h', Fr h₀ L h' m → News h₀ L h' news → Q .next { s with heap := h' })
    (hk : scope.kind = .function := by rfl) (hl : (envOf name scope L a cd).kindOf x = some .local := by rfl) (hd : (x == ("__debug__" : Str)) = false := by decide) :
    wpAny (model prog w) A (exec (.For target (.Name x np) body [] pos) (envOf name scope L a cd)) Q E s := by
  refine wpAny_For (ld F hv ?_ hk hl hd)
  have hL : s.heap.IsList l #[] := ⟨_, N.get hm, rfl, _, rfl⟩
  refine wpAny_pyIter_list hL ?_
  have hL' := hL.push { cls := .type "list_iterator", data := .fields #[.ref l, .int 0 0] }
  refine codeAny_forLoop_any (fun n s' => s' = { s with heap := s.heap.push { cls := .type "list_iterator", data := .fields #[.ref l, .int 0 0] } }) ?_ 0 rfl
  rintro n s' rfl
  refine wpAny_pyNext_list_end (l := l) (i := 0) hh ⟨_, Heap.get?_push_size _ rfl, rfl, rfl⟩ hL' rfl fun h' he => ?_
  refine wpAny_execs_nil ?_
  have hk : ∀ b o, s.heap.get? b = some o → h'.get? b = some o := fun b o e => he b o (Nat.ne_of_lt (Heap.lt_size e)) (Heap.get?_push_of_some _ e)
  exact h h' (F.keeps hk) fun q hq => ⟨hk _ _ (N q hq).1, (N q hq).2⟩
theorem ite_min (a b : Int) : (if b < a then b else a) = min a b := by
  by_cases h : b < a
  · rw [if_pos h]; omega
  · rw [if_neg h]; omega
theorem ite_max (a b : Int) : (if b > a then b else a) = max a b := by
  by_cases h : b > a
  · rw [if_pos h]; omega
  · rw [if_neg h]; omega
theorem min_is {x y : Int} {t u : Tok} {Q : Value → Shared → Prop} (hh : A.handled = none) (F : Fr h₀ L s.heap m) (N : News h₀ L s.heap news)
    (h : ∀ z v h' tk, z = min x y → Fr h₀ L h' m → News h₀ L h' news → Q (.int z v) { s with heap := h', toks := tk }) :
    wpAny (model prog w) A (call (.builtin "min") [.int x t, .int y u]) Q E s :=
  min_two_N hh F N fun h' tk F' N' => h _ _ h' tk (ite_min x y) F' N'
theorem max_is {x y : Int} {t u : Tok} {Q : Value → Shared → Prop} (hh : A.handled = none) (F : Fr h₀ L s.heap m) (N : News h₀ L s.heap news)
    (h : ∀ z v h' tk, z = max x y → Fr h₀ L h' m → News h₀ L h' news → Q (.int z v) { s with heap := h', toks := tk }) :
    wpAny (model prog w) A (call (.builtin "max") [.int x t, .int y u]) Q E s :=
  max_two_N hh F N fun h' tk F' N' => h _ _ h' tk (ite_max x y) F' N'
theorem min3_is {x y k : Int} {t u r : Tok} {Q : Value → Shared → Prop} (hh : A.handled = none) (F : Fr h₀ L s.heap m) (N : News h₀ L s.heap news)
    (h : ∀ z v h' tk, z = min x (min y k) → Fr h₀ L h' m → News h₀ L h' news → Q (.int z v) { s with heap := h', toks := tk }) :
    wpAny (model prog w) A (call (.builtin "min") [.int x t, .int y u, .int k r]) Q E s :=
  min_three_ints hh fun h' tk hk => by
    have F' := F.keeps hk
    have N' : News h₀ L h' news := fun q hq => ⟨hk _ _ (N q hq).1, (N q hq).2⟩
    by_cases h1 : y < x <;> by_cases h2 : k < y <;> by_cases h3 : k < x <;> simp only [h1, h2, h3, if_true, if_false] <;> exact h _ _ h' tk (by omega) F' N'
theorem cut_is {value slice : PySem.Expr} {b : Array UInt8} {t : Tok} {l u : Value} {lo hi : Option Int} {Q : Value → Shared → Prop} (F : Fr h₀ L s.heap m) (N : News h₀ L s.heap news) (hl : IsPart l lo) (hu : IsPart u hi) (hz : b.size ≤ 16777216)
    (h : ∀ h' t' k, Fr h₀ L h' m → News h₀ L h' news → Q (.bytes (KBy.picked b lo hi) t') { s with heap := h', toks := k })
    (hs : subscripted slice false (.bytes b t) (.ref s.heap.objs.size) = operate [.ref s.heap.objs.size, .bytes b t] (getItem (.bytes b t) (.ref s.heap.objs.size)) := by with_unfolding_all rfl)
    (ht : ∀ r, letTemporaryGo value (.bytes b t) r = pure () := by intro _; with_unfolding_all rfl) :
    wpAny (model prog w) A (subscriptTail value slice (.bytes b t) (.ref s.heap.objs.size)) Q E { s with heap := s.heap.push { cls := .type "slice", data := .fields #[l, u, .none] } } :=
  KBc.slice_K F N rfl hl hu (by rw [KBw.ints_length]; exact hz) (fun h' t' k F' N' _ => h h' t' k F' N') hs ht
end
theorem units_make (A : Around) (C : Addr) (vals : List Value) (kw : List (Str × Value)) : (A.under (.builtin "type.__call__" ⟨.ref C :: vals, kw⟩)).units = A.units + 1 := rfl
theorem fin_int {R : Result → Shared → Prop} {x y : Int} {t : Tok} {s : Shared} (e : y = x) (h : R (.ok (.ret (.int y t))) s) : R (.ok (.ret (.int x t))) s := e ▸ h
theorem fin_bool {R : Result → Shared → Prop} {x y : Bool} {s : Shared} (e : y = x) (h : R (.ok (.ret (.bool y))) s) : R (.ok (.ret (.bool x))) s := e ▸ h
end

section
open PySem PySem.W PyProof.Rows PySem.Calls
noncomputable def stOf (a : Int) : Str := if a = 0 then "ready" else if a = 1 then "send" else if a = 2 then "data_sent" else if a = 3 then "data_recvd" else if a = 4 then "reset_sent" else "reset_recvd"
noncomputable def goneOf (a lim sent : Int) : Int := if a = 0 then 0 else min sent (min lim 4)
noncomputable def codeOf (a : Int) (t : Tok) : Value := if 3 < a then .int 7 t else .none
noncomputable def owesOf (a : Int) (e : Bool) : Bool := if a < 2 then e else false
noncomputable def eackOf (a : Int) : Bool := if a = 3 then true else false
noncomputable def laOf (a : Int) (la : Addr) (n : Nat) : List (Addr × Obj) := if a = 3 then [] else [(la, listOf #[] n)]
structure Plan (a lim : Int) (e : Bool) (sent : Int) : Prop where
  lo : 0 ≤ a
  hi : a ≤ 5
  l2 : 2 ≤ lim
  s1 : 1 ≤ sent
  mid : a = 2 ∨ a = 3 → e = true ∧ 4 ≤ lim ∧ 4 ≤ sent
  one : a = 1 → e = true → min sent (min lim 4) < 4
noncomputable abbrev plO (a lim sent : Int) (e : Bool) (t0 t1 t2 : Tok) (n : Nat) : Obj := { cls := .type "tuple", data := .seq #[.int a t0, .int lim t1, .bool e, .int sent t2] n }
structure MD where
  (K : PK)
  (x dx la ll : Addr)
  (g : Int)
  (n4 n5 : Nat)
  (t1 t2 t3 tc : Tok)
noncomputable abbrev mdO (a lim : Int) (e : Bool) (tl : Tok) (z : MD) : Obj :=
  pD z.K (.int lim tl) (.str (stOf a) z.t1) (.bytes #[97, 98, 99, 100] z.t2) (.int z.g z.t3) (.ref z.la) (.ref z.ll) (.bool e) (.bool (owesOf a e)) (.bool (eackOf a)) (codeOf a z.tc) (.bool false)
noncomputable abbrev mdL (a lim : Int) (e : Bool) (tl : Tok) (z : MD) : List (Addr × Obj) := [(z.x, instObj 192 z.dx), (z.dx, mdO a lim e tl z), (z.ll, listOf #[] z.n5)] ++ laOf a z.la z.n4
noncomputable abbrev mdF (z : MD) : Prop := Apart z.dx z.x ∧ Apart z.dx z.la ∧ Apart z.dx z.ll ∧ Apart z.x z.la ∧ Apart z.x z.ll ∧ Apart z.la z.ll
end

section
open PySem PySem.W PyProof.Rows PySem.Calls

open LCg
theorem ne_apart (a b : Nat) : (@Ne Nat a b) = Apart a b := rfl
theorem ne_apart' (a b : Addr) : (a ≠ b) = Apart a b := rfl
noncomputable def SrcT (h₀ : Heap) (ax : Addr) (its : Array Value) (news : List (Addr × Obj)) : Prop := h₀.IsTuple ax its ∨ ∃ o, (ax, o) ∈ news ∧ o.cls = .type "tuple" ∧ ∃ n, o.data = .seq its n
theorem SrcT.tup {h₀ h : Heap} {L ax : Addr} {its : Array Value} {news : List (Addr × Obj)} (x : SrcT h₀ ax its news) (k : ∀ b o, h₀.get? b = some o → h.get? b = some o) (N : News h₀ L h news) : h.IsTuple ax its := by
  rcases x with ⟨o, e, r⟩ | ⟨o, hm, r⟩
  · exact ⟨o, k _ _ e, r⟩
  · exact ⟨o, (N _ hm).1, r⟩
noncomputable def CompSrcT (prog : Program) (w : World) (A : Around) (h₀ : Heap) (L : Addr) (m : Str → Option Value) (env : Env) (elt : Expr) (x : Str) (scope : Scope) (cl : List (Str × Addr)) (Fin : Shared → List Value → List (Addr × Obj) → Prop) (xv : Value) (s₁ : Shared) : Prop :=
  ∃ ax its news, xv = .ref ax ∧ A.handled = none ∧ Fr h₀ L s₁.heap m ∧ News h₀ L s₁.heap news ∧ SrcT h₀ ax its news ∧ its.size ≤ sizeLine ∧
    ∀ s₂ : Shared, (∃ h, s₂ = { s₁ with heap := h }) → CompRest prog w A h₀ L m env elt x scope cl s₂ (SrcT h₀ ax its) (fun i v => its[i]? = some v) (Fin s₂) its.size 0 [] news
section
variable {prog : Program} {w : World} {A : Around} {E : Value → Shared → Prop} {s : Shared} {h₀ : Heap} {L : Addr} {m : Str → Option Value} {env : Env}
theorem CompSrcT.ledger {elt : Expr} {x : Str} {scope : Scope} {cl : List (Str × Addr)} {Fin : Shared → List Value → List (Addr × Obj) → Prop} {ax : Addr} {its : Array Value} {k : Nat} {news : List (Addr × Obj)} {s₁ : Shared}
    (hh : A.handled = none) (F : Fr h₀ L s₁.heap m) (N : News h₀ L s₁.heap news) (hm : (ax, ({ cls := .type "tuple", data := .seq its k } : Obj)) ∈ news) (hsz : its.size ≤ sizeLine)
    (h : ∀ g, CompRest prog w A h₀ L m env elt x scope cl { s₁ with heap := g } (SrcT h₀ ax its) (fun i v => its[i]? = some v) (Fin { s₁ with heap := g }) its.size 0 [] news) :
    CompSrcT prog w A h₀ L m env elt x scope cl Fin (.ref ax) s₁ := ⟨ax, its, news, rfl, hh, F, N, .inr ⟨_, hm, rfl, _, rfl⟩, hsz, fun _ ⟨g, e⟩ => e ▸ h g⟩
theorem tup_st {ax I : Addr} {its : Array Value} : ∀ i (h h' : Heap) (o : Obj) (nw : List (Addr × Obj)), (h.IsTupleIter I ax i ∧ h.IsTuple ax its) → h.get? I = some o → h'.get? I = some o → (∀ b o, h₀.get? b = some o → h'.get? b = some o) → News h₀ L h' nw → SrcT h₀ ax its nw → (h'.IsTupleIter I ax i ∧ h'.IsTuple ax its) :=
  fun i h h' o nw st e e' k N S => ⟨by obtain ⟨o', q, r⟩ := st.1; rw [e] at q; cases q; exact ⟨o, e', r⟩, S.tup k N⟩
theorem ListComp_T {elt iter : Expr} {x : Str} {px : Pos} {scope : Scope} {cl : List (Str × Addr)} {pos : Pos} {Q : Value → Shared → Prop} (_F₀ : Fr h₀ L s.heap m)
    (hclos : closureFor scope env = pure cl) (hcell : ∀ y ∈ scope.names, y.2 ≠ .cell) (hkind : scope.kind = .function)
    (hnames : ∀ y ∈ scope.names, y.2 = .local → scope.names.lookup y.1 = some .local) (hx : scope.names.lookup x = some .local)
    (h : wpAny (model prog w) A (eval iter env) (CompSrcT prog w A h₀ L m env elt x scope cl (fun s₂ => FinE h₀ L m s₂ Q)) E s)
    (hs : ∀ x, foldedSetIterable iter env x = pure x := by intro _; rfl) :
    wpAny (model prog w) A (eval (.ListComp elt [⟨.Name x px, iter, [], 0⟩] scope pos) env) Q E s := by
  rw [eval_ListComp]
  refine wpAny_comprehension_free (use := none) rfl hs hclos hkind hnames (wpAny_mono h (fun xv s₁ h₁ => ?_) fun _ _ e => e)
  obtain ⟨ax, its, news, rfl, hh, F, N, S, hsz, R⟩ := h₁
  have ht := S.tup F.keep N
  have hlt : ax < s₁.heap.objs.size := by obtain ⟨_, e, _⟩ := ht; exact Heap.lt_size e
  refine wpAny_pyIter_tuple ht ?_
  have up : ∀ b o, s₁.heap.get? b = some o → (s₁.heap.push { cls := .type "tuple_iterator", data := .fields #[.ref ax, .int 0 0] }).get? b = some o := fun b o e => Heap.get?_push_of_some _ e
  refine block_U (Walks.tuple hh s₁.heap.objs.size ax (Nat.ne_of_lt hlt) its) hsz (fun i h st => by obtain ⟨o, e, _⟩ := st.1; exact ⟨o, e⟩) tup_st hcell hkind hx ⟨⟨_, Heap.get?_push_size _ rfl, rfl, rfl⟩, ht.push _⟩ (fun b hb => ?_)
    (F.keeps up) (N.grown up) (Nat.ne_of_lt F.ns.lt) (next_is_new F) (fun p hp => Nat.ne_of_lt (Heap.lt_size (N p hp).1)) S (R _ ⟨_, rfl⟩) ?_
  · show b < (s₁.heap.push _).objs.size
    rw [Heap.size_push]
    rcases List.mem_cons.mp hb with rfl | hb
    · exact Nat.lt_succ_self _
    · rw [List.mem_singleton.mp hb]; exact Nat.lt_succ_of_lt hlt
  · intro D C h tk m' ys news' F' N' o1 hn hC₀ hD₀ hCL hDL hCD offC fin
    refine ⟨m', hn, fun h'' hs'' => fin D h'' tk (F'.change hs'' hCL hC₀) (fun p hp => ?_) o1⟩
    refine ⟨hs''.extBut _ _ ?_ (N' p hp).1, (N' p hp).2⟩
    rcases List.mem_cons.mp hp with rfl | hp
    · exact Ne.symm hCD
    · exact offC p hp
end
end

section
open PySem PySem.W PyProof.Rows PySem.Calls PyProof.V PySem.Spec
inductive SameV : List Value → List Value → List PyData → Prop
  | nil : SameV [] [] []
  | int {x y : Int} {t u : Tok} {r r' : List Value} {d : List PyData} : x = y → SameV r r' d → SameV (.int x t :: r) (.int y u :: r') (.int x :: d)
  | bool {x y : Bool} {r r' : List Value} {d : List PyData} : x = y → SameV r r' d → SameV (.bool x :: r) (.bool y :: r') (.bool x :: d)
theorem SameV.left {xs ys : List Value} {d : List PyData} (h : SameV xs ys d) : CarriedAll xs d := by
  induction h with
  | nil => exact .nil
  | int _ _ ih => exact .cons (.int _ _) ih
  | bool _ _ ih => exact .cons (.bool _) ih
theorem SameV.right {xs ys : List Value} {d : List PyData} (h : SameV xs ys d) : CarriedAll ys d := by
  induction h with
  | nil => exact .nil
  | int e _ ih => subst e; exact .cons (.int _ _) ih
  | bool e _ ih => subst e; exact .cons (.bool _) ih
theorem SameV.lay {xs ys : List Value} {d : List PyData} (h : SameV xs ys d) : PyData.canLayAll0 d = true ∧ PyData.depthAll d = 0 ∧ PyData.eqvAll d d = true := by
  induction h with
  | nil => exact ⟨rfl, rfl, by simp [PyData.eqvAll]⟩
  | int _ _ ih => exact ⟨by simp [PyData.canLayAll0, PyData.canLay0, ih.1], by simp [PyData.depthAll, PyData.depth, ih.2.1], by simp [PyData.eqvAll, PyData.eqv, ih.2.2]⟩
  | bool _ _ ih => exact ⟨by simp [PyData.canLayAll0, PyData.canLay0, ih.1], by simp [PyData.depthAll, PyData.depth, ih.2.1], by simp [PyData.eqvAll, PyData.eqv, ih.2.2]⟩
theorem SameV.shaped {xs ys : List Value} {d : List PyData} (h : SameV xs ys d) : SeqAt.shaped (.list d) = true := by
  simp [SeqAt.shaped, PyData.canLay0, PyData.depth, h.lay.1, h.lay.2.1]
theorem SameV.eqv {xs ys : List Value} {d : List PyData} (h : SameV xs ys d) : PyData.eqv (.list d) (.list d) = true := by
  simp [PyData.eqv, h.lay.2.2]
section
variable {prog : Program} {w : World} {A : Around} {E : Value → Shared → Prop} {s : Shared} {a b : Addr} {xs ys : List Value} {d : List PyData} {Q : Value → Shared → Prop} {h₀ : Heap} {L : Addr} {news : List (Addr × Obj)} {n k : Nat}
theorem lst_of (N : News h₀ L s.heap news) (ha : (a, ({ cls := .type "list", data := .seq xs.toArray n } : Obj)) ∈ news) : s.heap.IsList a xs.toArray := ⟨_, (N _ ha).1, rfl, _, rfl⟩
theorem eq_same (N : News h₀ L s.heap news) (ha : (a, ({ cls := .type "list", data := .seq xs.toArray n } : Obj)) ∈ news) (hb : (b, ({ cls := .type "list", data := .seq ys.toArray k } : Obj)) ∈ news)
    (hs : SameV xs ys d) (hu : A.units + 64 < cLine) (h : Q (.bool true) s) : wpAny (model prog w) A (compareOp .Eq (.ref a) (.ref b)) Q E s :=
  eq_dataH (reads_newData (lst_of N ha) hs.left) (reads_newData (lst_of N hb) hs.right) hs.shaped hs.shaped hu (by rw [hs.eqv]; exact h)
theorem ne_same (N : News h₀ L s.heap news) (ha : (a, ({ cls := .type "list", data := .seq xs.toArray n } : Obj)) ∈ news) (hb : (b, ({ cls := .type "list", data := .seq ys.toArray k } : Obj)) ∈ news)
    (hs : SameV xs ys d) (hu : A.units + 64 < cLine) (h : Q (.bool false) s) : wpAny (model prog w) A (compareOp .NotEq (.ref a) (.ref b)) Q E s :=
  ne_dataH (reads_newData (lst_of N ha) hs.left) (reads_newData (lst_of N hb) hs.right) hs.shaped hs.shaped hu (by rw [hs.eqv]; exact h)
end
end

section
open PySem PySem.W PyProof.Rows PySem.Calls
structure Stop (P : Prop) : Prop where
  out : P
theorem memCons {α : Type} {P : α → Prop} {a : α} {l : List α} (h : P a) (t : ∀ x ∈ l, P x) : ∀ x ∈ a :: l, P x :=
  List.forall_mem_cons.mpr ⟨h, t⟩
theorem opq {P : Prop} (h : ∀ P' : Prop, (P → P') → P') : P := h P id
end

local macro_rules | `(tactic| k_room) => `(tactic| ((try simp only [depth_under_make, depth_under_kw, depth_in1, depth_deeper, depth_caller]); first | omega | (simp only [recursionLimit]; omega)))
local macro_rules | `(tactic| k_ne) => `(tactic| (refine neN ?_; (try dsimp only); first | (refine Apart.ne ?_; with_reducible assumption) | (refine Apart.ne' ?_; with_reducible assumption)))
local macro_rules | `(tactic| walk_at "compareOp NotIn str ref") => `(tactic| (k_here; (with_reducible show wpAny _ _ (compareOp CmpOp.NotIn (Value.str _ _) (Value.ref _)) _ _ _); (with_unfolding_all refine' notin_tuple_strs ?k1 ?k2 ?_; (case k1 => kun_tup); (case k2 => kde_strs); k_whole)))
local macro_rules | `(tactic| walk_at "compareOp In str ref") => `(tactic| (k_here; (with_reducible show wpAny _ _ (compareOp CmpOp.In (Value.str _ _) (Value.ref _)) _ _ _); (with_unfolding_all refine' in_tuple_strs ?k1 ?k2 ?_; (case k1 => kun_tup); (case k2 => kde_strs); k_whole)))
local macro_rules | `(tactic| walk_at "call type:bytes") => `(tactic| (k_here; (with_reducible show wpAny _ _ (call (Value.type "bytes") [Value.bytes _ _]) _ _ _); refine bytes_same ?_))
local macro_rules | `(tactic| walk_at "CT arith") => `(tactic| ((try simp only [Bool.true_bne, Bool.false_bne, Bool.bne_true, Bool.bne_false, Bool.true_beq, Bool.false_beq, Bool.not_not, decide_eq_true_eq, decide_eq_false_iff_not, beq_iff_eq, bne_iff_ne, Bool.not_eq_true, Bool.not_eq_false, Bool.and_eq_true, Bool.or_eq_true, Bool.not_eq_true', Bool.not_eq_false', beq_eq_false_iff_ne, List.size_toArray, List.length_cons, List.length_nil]); omega))
local macro_rules | `(tactic| walk_at "ite") => `(tactic| (k_here; (fail_if_success k_closed); first | (refine' ite_pos ?c ?_; (case c => walk_at "CT arith")) | (refine' ite_neg ?c ?_; (case c => walk_at "CT arith"))))
local macro_rules | `(tactic| k_in) => `(tactic| first | with_reducible assumption | (refine' Frag.In.keeps ?kix ?kif; (case kif => (refine' Fr.keep ?kiy; (case kiy => with_reducible assumption))); (case kix => with_reducible assumption)))

section
open PySem PySem.W PyProof.Rows PySem.Calls
structure CHT where
  (ll tp : Addr)
  (g h : Int)
  (n m : Nat)
  (t1 t3 tl tb : Tok)
  (b : Bool)
end

section
open PySem PySem.W PyProof.Rows PySem.Calls PySem.SeqAt

theorem eqAt_int {A : Around} {s : Shared} {x y : Int} {t u : Tok} (e : x = y) : EqAt A s (.int x t) (.int y u) true := by
  subst e
  have q := (MeetsSeq.EqGives.int x x t u).at A s
  rwa [beq_self_eq_true] at q
theorem eqAt_bytes {A : Around} {s : Shared} {b c : Array UInt8} {t u : Tok} (e : b = c) : EqAt A s (.bytes b t) (.bytes c u) true := fun prog w E Q h => by
  subst e
  unfold eqBool
  refine wpAny_holding ?_
  by_cases hc : (Value.bytes b t == Value.bytes b u) = true
  · rw [if_pos hc]
    exact wpAny_bind (wpAny_rule (wpAny_pure h))
  · rw [if_neg hc]
    refine wpAny_bind (Q := _) (show wpAny (model prog w) A (compareOp .Eq (.bytes b t) (.bytes b u)) _ E s from eq_bytes ?_)
    rw [beq_self_eq_true]
    exact wpAny_truthy_bool h
theorem eqAt_bool {A : Around} {s : Shared} {x y : Bool} (e : x = y) : EqAt A s (.bool x) (.bool y) true := by subst e; exact EqAt.same _
noncomputable abbrev chTup (x : Int) (b : Array UInt8) (c : Bool) (t1 t2 : Tok) (n : Nat) : Obj := { cls := .type "tuple", data := .seq #[.int x t1, .bytes b t2, .bool c] n }
section
variable {prog : Program} {w : World} {A : Around} {E : Value → Shared → Prop} {s : Shared} {a b : Addr} {Q : Value → Shared → Prop} {h₀ : Heap} {L : Addr} {news : List (Addr × Obj)} {n k : Nat} {x y : Int} {b1 b2 : Array UInt8} {c1 c2 : Bool} {t1 t2 u1 u2 : Tok}
theorem ch_pairs (e1 : x = y) (e2 : b1 = b2) (e3 : c1 = c2) : ∀ j (h1 : j < (#[Value.int x t1, .bytes b1 t2, .bool c1] : Array Value).size) (h2 : j < (#[Value.int y u1, .bytes b2 u2, .bool c2] : Array Value).size),
    EqAt A s (#[Value.int x t1, .bytes b1 t2, .bool c1] : Array Value)[j] (#[Value.int y u1, .bytes b2 u2, .bool c2] : Array Value)[j] true
  | 0, _, _ => eqAt_int e1
  | 1, _, _ => eqAt_bytes e2
  | 2, _, _ => eqAt_bool e3
  | _ + 3, h, _ => absurd h (by simp)
theorem ne_chunk (N : News h₀ L s.heap news) (ha : (a, chTup x b1 c1 t1 t2 n) ∈ news) (hb : (b, chTup y b2 c2 u1 u2 k) ∈ news) (e1 : x = y) (e2 : b1 = b2) (e3 : c1 = c2) (hu : A.units + 64 < cLine) (h : Q (.bool false) s) :
    wpAny (model prog w) A (compareOp .NotEq (.ref a) (.ref b)) Q E s :=
  RcNeAt.tuples (e := fun _ => true) ⟨_, (N _ ha).1, rfl, _, rfl⟩ ⟨_, (N _ hb).1, rfl, _, rfl⟩ (by omega) (fun j h1 h2 => ch_pairs e1 e2 e3 j h1 h2) prog w E Q h
theorem eq_chunk (N : News h₀ L s.heap news) (ha : (a, chTup x b1 c1 t1 t2 n) ∈ news) (hb : (b, chTup y b2 c2 u1 u2 k) ∈ news) (e1 : x = y) (e2 : b1 = b2) (e3 : c1 = c2) (hu : A.units + 64 < cLine) (h : Q (.bool true) s) :
    wpAny (model prog w) A (compareOp .Eq (.ref a) (.ref b)) Q E s :=
  eq_tupleAt (e := fun _ => true) ⟨_, (N _ ha).1, rfl, _, rfl⟩ ⟨_, (N _ hb).1, rfl, _, rfl⟩ (by omega) (fun j h1 h2 => ch_pairs e1 e2 e3 j h1 h2) h
end
theorem picked_eq {b : Array UInt8} {x y z v : Int} (h1 : x = z) (h2 : y = v) : KBy.picked b (some x) (some y) = KBy.picked b (some z) (some v) := by subst h1; subst h2; rfl
theorem picked_one {x y : Int} (h1 : x = 0) (h2 : y = 1) : KBy.picked #[97, 98, 99, 100] (some x) (some y) = #[97] := by subst h1; subst h2; decide
theorem picked_nil {x y : Int} (h1 : x = 4) (h2 : y = 4) : KBy.picked #[97, 98, 99, 100] (some x) (some y) = #[] := by subst h1; subst h2; decide
theorem picked_tail {x y z : Int} (h1 : x = z) (h2 : y = 4) (h3 : 0 ≤ x) (h4 : x ≤ 4) : KBy.picked #[97, 98, 99, 100] (some x) (some y) = KBy.picked #[97, 98, 99, 100] (some z) none := by
  subst h1; subst h2
  have : x = 0 ∨ x = 1 ∨ x = 2 ∨ x = 3 ∨ x = 4 := by omega
  rcases this with rfl | rfl | rfl | rfl | rfl <;> decide
end

section
open PySem PySem.W PyProof.Rows PySem.Calls PySem.SeqAt

section
variable {prog : Program} {w : World} {A : Around} {E : Value → Shared → Prop} {s : Shared} {h₀ : Heap} {L l : Addr} {news : List (Addr × Obj)} {n : Nat} {t1 t2 u : Tok} {k p q : Int} {b : Bool} {Q : Value → Shared → Prop}
theorem in2 (N : News h₀ L s.heap news) (hm : (l, ({ cls := .type "tuple", data := .seq #[.int p t1, .int q t2] n } : Obj)) ∈ news) (hb : (p == k || q == k) = b) (h : Q (.bool b) s) :
    wpAny (model prog w) A (compareOp .In (.int k u) (.ref l)) Q E s := by
  have ht : s.heap.IsTuple l #[.int p t1, .int q t2] := ⟨_, (N _ hm).1, rfl, _, rfl⟩
  refine in_tupleAt (fun y => match y with | .int i _ => i == k | _ => false) ht (fun y hy => ?_) ?_
  · have hy : y = .int p t1 ∨ y = .int q t2 := by simpa using hy
    rcases hy with rfl | rfl
    · exact (MeetsSeq.EqGives.int _ _ _ _).at _ _
    · exact (MeetsSeq.EqGives.int _ _ _ _).at _ _
  · have e : (#[Value.int p t1, .int q t2] : Array Value).any (fun y => match y with | .int i _ => i == k | _ => false) = b := by
      rw [← hb]; simp
    first
      | (rw [e]; exact h)
      | (simp only [List.any_toArray, List.any_cons, List.any_nil, Bool.or_false]; rw [hb]; exact h)
end
end

section
open PySem PySem.W PyProof.Rows PySem.Calls
theorem ct_init (w : World) (x dx : Addr) (lim : Int) (t : Tok) (hap : Apart dx x) :
    Ct w 5 (.ref 84) [.ref x, .int lim t] [(x, instObj 192 dx), (dx, dictOf [] 0)] (PK × Addr × Addr × Tok × Tok × Tok) (fun _ => .none)
      (fun z => [(x, instObj 192 dx), (dx, pD z.1 (.int lim t) (.str "ready" z.2.2.2.1) (.bytes #[] z.2.2.2.2.1) (.int 0 z.2.2.2.2.2) (.ref z.2.1) (.ref z.2.2.1) (.bool false) (.bool false) (.bool false) .none (.bool false)),
        (z.2.1, listOf #[] 0), (z.2.2.1, listOf #[] 0)]) (fun z => [z.2.1, z.2.2.1]) (fun z => Apart dx z.2.1 ∧ Apart dx z.2.2.1 ∧ Apart x z.2.1 ∧ Apart x z.2.2.1 ∧ Apart z.2.1 z.2.2.1) := by
  refine Ct.mk ?_
  intro p loose mean mg mb dp un gd base g env outer s R B kg sz X T N hd hu hO
  revert X; k_fill; intro X
  (k_dflt (refine' ct_code ?k1 ?ka ?kb ?k3 ?k5 ?k4 ?k6 ?k7 ?k8 ?k9 ?kB ?_ ?c2 ?c3 ?c4 ?c5; (case k1 => assumption); (case ka => assumption); (case kb => assumption); (case k3 => assumption); (case k5 => assumption); (case k4 => assumption); (case k6 => k_is); (case k7 => k_is); (case k8 => k_room); (case k9 => exact BindsTo.of_eq rfl); (case c5 => decide); (case kB => exact locs rfl); (case c2 => exact rfl); (case c3 => exact rfl); (case c4 => exact rfl); k_whole; intro L' h' F' N' l1; (try k_lt l1); (try dsimp only); (try k_fold)))
  k_steps
  all_goals try dsimp only
  all_goals (refine' ct_fin ?cF ?cN ?cS ?cR ?cA (hO (⟨⟨_, _, _, _, _, _, _, _, _, _, _, _, _, _, _, _, _, _, _, _, _, _⟩, _, _, _, _, _⟩) _ _); (case cF => k_asm); (case cN => k_asm); (case cS => ((try dsimp only); repeat (first | exact List.forall_mem_nil _ | (refine' memCons ?cta ?_; (case cta => k_mem); (try dsimp only))))); (case cR => ((try dsimp only); repeat (first | exact List.forall_mem_nil _ | (intro ctA ctH; cases ctH; done) | (refine' memCons ⟨_, ?cta⟩ ?_; (case cta => k_mem); (try dsimp only))))); (case cA => (repeat' (first | ((try dsimp only); (with_reducible show @Eq Bool _ _); (first | exact rfl | (refine decide_eq_true ?ctc; (case ctc => omega)) | (refine decide_eq_false ?ctc; (case ctc => omega)) | (refine decide_eq_decide.mpr ?ctc; (case ctc => omega)) | (refine (decide_eq_true ?ctc).symm; (case ctc => omega)) | (refine (decide_eq_false ?ctc).symm; (case ctc => omega)) | (refine Bool.eq_iff_iff.mpr ?ctc; (case ctc => ((simp only [decide_eq_true_eq, beq_iff_eq, bne_iff_ne, ne_eq, List.size_toArray, List.length_cons, List.length_nil, true_and, Bool.false_eq_true, false_and, or_false, Bool.or_eq_true, Bool.and_eq_true]); omega))) | (subst_vars; (first | exact rfl | (refine Bool.eq_iff_iff.mpr ?ctc; (case ctc => ((simp only [decide_eq_true_eq, beq_iff_eq, bne_iff_ne, ne_eq, List.size_toArray, List.length_cons, List.length_nil, true_and, Bool.false_eq_true, false_and, or_false, Bool.or_eq_true, Bool.and_eq_true]); omega))) | (simp; done) | (simp; omega))) | (simp; done) | (simp; omega))) | exact True.intro | exact rfl | (intro _; omega) | (intro ctZ; cases ctZ; done) | (dsimp only; done) | ((try dsimp only); first | with_reducible assumption | (refine And.intro ?_ ?_) | (refine Apart.of ?_; k_ne) | exact Or.inl rfl | (refine Or.inr ?_) | exact rfl | omega)))))
end

section
open PySem PySem.W PyProof.Rows PySem.Calls
noncomputable abbrev abcd : Array UInt8 := #[97, 98, 99, 100]
theorem ct_write1 (w : World) (x dx : Addr) (K : PK) (st : Str) (t1 t2 t : Tok) (v0 v3 v4 v5 v7 v8 v9 va : Value) (hap : Apart dx x) (hst : st = "ready" ∨ st = "send") :
    Ct w 5 (.ref 91) [.ref x, .bytes #[120] t] [(x, instObj 192 dx), (dx, pD K v0 (.str st t1) (.bytes abcd t2) v3 v4 v5 (.bool false) v7 v8 v9 va)] Tok (fun _ => .none)
      (fun z => [(x, instObj 192 dx), (dx, pD K v0 (.str st t1) (.bytes #[97, 98, 99, 100, 120] z) v3 v4 v5 (.bool false) v7 v8 v9 va)]) (fun _ => []) (fun _ => True) := by
  rcases hst with rfl | rfl
  all_goals (
  refine Ct.mk ?_
  intro p loose mean mg mb dp un gd base g env outer s R B kg sz X T N hd hu hO
  revert X; k_fill; intro X
  (k_dflt (refine' ct_code ?k1 ?ka ?kb ?k3 ?k5 ?k4 ?k6 ?k7 ?k8 ?k9 ?kB ?_ ?c2 ?c3 ?c4 ?c5; (case k1 => assumption); (case ka => assumption); (case kb => assumption); (case k3 => assumption); (case k5 => assumption); (case k4 => assumption); (case k6 => k_is); (case k7 => k_is); (case k8 => k_room); (case k9 => exact BindsTo.of_eq rfl); (case c5 => decide); (case kB => exact locs rfl); (case c2 => exact rfl); (case c3 => exact rfl); (case c4 => exact rfl); k_whole; intro L' h' F' N' l1; (try k_lt l1); (try dsimp only); (try k_fold)))
  k_steps
  all_goals try dsimp only
  all_goals (refine' ct_fin ?cF ?cN ?cS ?cR ?cA (hO (_) _ _); (case cF => k_asm); (case cN => k_asm); (case cS => ((try dsimp only); repeat (first | exact List.forall_mem_nil _ | (refine' memCons ?cta ?_; (case cta => k_mem); (try dsimp only))))); (case cR => ((try dsimp only); repeat (first | exact List.forall_mem_nil _ | (intro ctA ctH; cases ctH; done) | (refine' memCons ⟨_, ?cta⟩ ?_; (case cta => k_mem); (try dsimp only))))); (case cA => (repeat' (first | ((try dsimp only); (with_reducible show @Eq Bool _ _); (first | exact rfl | (refine decide_eq_true ?ctc; (case ctc => omega)) | (refine decide_eq_false ?ctc; (case ctc => omega)) | (refine decide_eq_decide.mpr ?ctc; (case ctc => omega)) | (refine (decide_eq_true ?ctc).symm; (case ctc => omega)) | (refine (decide_eq_false ?ctc).symm; (case ctc => omega)) | (refine Bool.eq_iff_iff.mpr ?ctc; (case ctc => ((simp only [decide_eq_true_eq, beq_iff_eq, bne_iff_ne, ne_eq, List.size_toArray, List.length_cons, List.length_nil, true_and, Bool.false_eq_true, false_and, or_false, Bool.or_eq_true, Bool.and_eq_true]); omega))) | (subst_vars; (first | exact rfl | (refine Bool.eq_iff_iff.mpr ?ctc; (case ctc => ((simp only [decide_eq_true_eq, beq_iff_eq, bne_iff_ne, ne_eq, List.size_toArray, List.length_cons, List.length_nil, true_and, Bool.false_eq_true, false_and, or_false, Bool.or_eq_true, Bool.and_eq_true]); omega))) | (simp; done) | (simp; omega))) | (simp; done) | (simp; omega))) | exact True.intro | exact rfl | (intro _; omega) | (intro ctZ; cases ctZ; done) | (dsimp only; done) | ((try dsimp only); first | with_reducible assumption | (refine And.intro ?_ ?_) | (refine Apart.of ?_; k_ne) | exact Or.inl rfl | (refine Or.inr ?_) | exact rfl | omega)))))
  )
theorem ct_finishA (w : World) (x dx : Addr) (K : PK) (st : Str) (t1 : Tok) (v0 v2 v3 v4 v5 v7 v8 v9 va : Value) (hap : Apart dx x) (hst : st = "ready" ∨ st = "send") :
    Ct w 5 (.ref 98) [.ref x] [(x, instObj 192 dx), (dx, pD K v0 (.str st t1) v2 v3 v4 v5 (.bool false) v7 v8 v9 va)] Unit (fun _ => .none)
      (fun _ => [(x, instObj 192 dx), (dx, pD K v0 (.str st t1) v2 v3 v4 v5 (.bool true) (.bool true) v8 v9 va)]) (fun _ => []) (fun _ => True) := by
  rcases hst with rfl | rfl
  all_goals (
  refine Ct.mk ?_
  intro p loose mean mg mb dp un gd base g env outer s R B kg sz X T N hd hu hO
  revert X; k_fill; intro X
  (k_dflt (refine' ct_code ?k1 ?ka ?kb ?k3 ?k5 ?k4 ?k6 ?k7 ?k8 ?k9 ?kB ?_ ?c2 ?c3 ?c4 ?c5; (case k1 => assumption); (case ka => assumption); (case kb => assumption); (case k3 => assumption); (case k5 => assumption); (case k4 => assumption); (case k6 => k_is); (case k7 => k_is); (case k8 => k_room); (case k9 => exact BindsTo.of_eq rfl); (case c5 => decide); (case kB => exact locs rfl); (case c2 => exact rfl); (case c3 => exact rfl); (case c4 => exact rfl); k_whole; intro L' h' F' N' l1; (try k_lt l1); (try dsimp only); (try k_fold)))
  k_steps
  all_goals try dsimp only
  all_goals (refine' ct_fin ?cF ?cN ?cS ?cR ?cA (hO (()) _ _); (case cF => k_asm); (case cN => k_asm); (case cS => ((try dsimp only); repeat (first | exact List.forall_mem_nil _ | (refine' memCons ?cta ?_; (case cta => k_mem); (try dsimp only))))); (case cR => ((try dsimp only); repeat (first | exact List.forall_mem_nil _ | (intro ctA ctH; cases ctH; done) | (refine' memCons ⟨_, ?cta⟩ ?_; (case cta => k_mem); (try dsimp only))))); (case cA => (repeat' (first | ((try dsimp only); (with_reducible show @Eq Bool _ _); (first | exact rfl | (refine decide_eq_true ?ctc; (case ctc => omega)) | (refine decide_eq_false ?ctc; (case ctc => omega)) | (refine decide_eq_decide.mpr ?ctc; (case ctc => omega)) | (refine (decide_eq_true ?ctc).symm; (case ctc => omega)) | (refine (decide_eq_false ?ctc).symm; (case ctc => omega)) | (refine Bool.eq_iff_iff.mpr ?ctc; (case ctc => ((simp only [decide_eq_true_eq, beq_iff_eq, bne_iff_ne, ne_eq, List.size_toArray, List.length_cons, List.length_nil, true_and, Bool.false_eq_true, false_and, or_false, Bool.or_eq_true, Bool.and_eq_true]); omega))) | (subst_vars; (first | exact rfl | (refine Bool.eq_iff_iff.mpr ?ctc; (case ctc => ((simp only [decide_eq_true_eq, beq_iff_eq, bne_iff_ne, ne_eq, List.size_toArray, List.length_cons, List.length_nil, true_and, Bool.false_eq_true, false_and, or_false, Bool.or_eq_true, Bool.and_eq_true]); omega))) | (simp; done) | (simp; omega))) | (simp; done) | (simp; omega))) | exact True.intro | exact rfl | (intro _; omega) | (intro ctZ; cases ctZ; done) | (dsimp only; done) | ((try dsimp only); first | with_reducible assumption | (refine And.intro ?_ ?_) | (refine Apart.of ?_; k_ne) | exact Or.inl rfl | (refine Or.inr ?_) | exact rfl | omega)))))
  )
theorem ct_finishB (w : World) (x dx : Addr) (K : PK) (st : Str) (t1 : Tok) (v0 v2 v3 v4 v5 v7 v8 v9 va : Value) (hap : Apart dx x) (hst : st = "ready" ∨ st = "send") :
    Ct w 5 (.ref 98) [.ref x] [(x, instObj 192 dx), (dx, pD K v0 (.str st t1) v2 v3 v4 v5 (.bool true) v7 v8 v9 va)] Unit (fun _ => .none)
      (fun _ => [(x, instObj 192 dx), (dx, pD K v0 (.str st t1) v2 v3 v4 v5 (.bool true) v7 v8 v9 va)]) (fun _ => []) (fun _ => True) := by
  rcases hst with rfl | rfl
  all_goals (
  refine Ct.mk ?_
  intro p loose mean mg mb dp un gd base g env outer s R B kg sz X T N hd hu hO
  revert X; k_fill; intro X
  (k_dflt (refine' ct_code ?k1 ?ka ?kb ?k3 ?k5 ?k4 ?k6 ?k7 ?k8 ?k9 ?kB ?_ ?c2 ?c3 ?c4 ?c5; (case k1 => assumption); (case ka => assumption); (case kb => assumption); (case k3 => assumption); (case k5 => assumption); (case k4 => assumption); (case k6 => k_is); (case k7 => k_is); (case k8 => k_room); (case k9 => exact BindsTo.of_eq rfl); (case c5 => decide); (case kB => exact locs rfl); (case c2 => exact rfl); (case c3 => exact rfl); (case c4 => exact rfl); k_whole; intro L' h' F' N' l1; (try k_lt l1); (try dsimp only); (try k_fold)))
  k_steps
  all_goals try dsimp only
  all_goals (refine' ct_fin ?cF ?cN ?cS ?cR ?cA (hO (()) _ _); (case cF => k_asm); (case cN => k_asm); (case cS => ((try dsimp only); repeat (first | exact List.forall_mem_nil _ | (refine' memCons ?cta ?_; (case cta => k_mem); (try dsimp only))))); (case cR => ((try dsimp only); repeat (first | exact List.forall_mem_nil _ | (intro ctA ctH; cases ctH; done) | (refine' memCons ⟨_, ?cta⟩ ?_; (case cta => k_mem); (try dsimp only))))); (case cA => (repeat' (first | ((try dsimp only); (with_reducible show @Eq Bool _ _); (first | exact rfl | (refine decide_eq_true ?ctc; (case ctc => omega)) | (refine decide_eq_false ?ctc; (case ctc => omega)) | (refine decide_eq_decide.mpr ?ctc; (case ctc => omega)) | (refine (decide_eq_true ?ctc).symm; (case ctc => omega)) | (refine (decide_eq_false ?ctc).symm; (case ctc => omega)) | (refine Bool.eq_iff_iff.mpr ?ctc; (case ctc => ((simp only [decide_eq_true_eq, beq_iff_eq, bne_iff_ne, ne_eq, List.size_toArray, List.length_cons, List.length_nil, true_and, Bool.false_eq_true, false_and, or_false, Bool.or_eq_true, Bool.and_eq_true]); omega))) | (subst_vars; (first | exact rfl | (refine Bool.eq_iff_iff.mpr ?ctc; (case ctc => ((simp only [decide_eq_true_eq, beq_iff_eq, bne_iff_ne, ne_eq, List.size_toArray, List.length_cons, List.length_nil, true_and, Bool.false_eq_true, false_and, or_false, Bool.or_eq_true, Bool.and_eq_true]); omega))) | (simp; done) | (simp; omega))) | (simp; done) | (simp; omega))) | exact True.intro | exact rfl | (intro _; omega) | (intro ctZ; cases ctZ; done) | (dsimp only; done) | ((try dsimp only); first | with_reducible assumption | (refine And.intro ?_ ?_) | (refine Apart.of ?_; k_ne) | exact Or.inl rfl | (refine Or.inr ?_) | exact rfl | omega)))))
  )
end

section
open PySem PySem.W PyProof.Rows PySem.Calls
noncomputable def DKeep (s s' : Shared) : Prop := ∀ b o, s.heap.get? b = some o → ∃ o', s'.heap.get? b = some o' ∧ o'.dict = o.dict
theorem DKeep.same {s s' : Shared} (e : s'.heap = s.heap) : DKeep s s' := fun b o h => ⟨o, by rw [e]; exact h, rfl⟩
theorem DKeep.trans {s₁ s₂ s₃ : Shared} (x : DKeep s₁ s₂) (y : DKeep s₂ s₃) : DKeep s₁ s₃ := fun b o h =>
  let ⟨o₁, h₁, e₁⟩ := x b o h; let ⟨o₂, h₂, e₂⟩ := y b o₁ h₁; ⟨o₂, h₂, e₂.trans e₁⟩
noncomputable def DictOk {α : Type} (t : Sem α) : Prop := ∀ (M : Model) (Γ : Ctx) (Q : α → Pos → Shared → Prop) (E : Value → Pos → Shared → Prop) (p : Pos) (s : Shared),
  Sem.wp M Γ t Q E p s → Sem.wp M Γ t (fun a p' s' => Q a p' s' ∧ DKeep s s') (fun e p' s' => E e p' s' ∧ DKeep s s') p s
theorem DictOk.pure {α : Type} (a : α) : DictOk (Pure.pure a : Sem α) := fun M Γ Q E p s h => by
  rw [Sem.wp_pure'] at h ⊢; exact ⟨h, .same rfl⟩
theorem DictOk.stuck {α : Type} (what : String) : DictOk (unsupported what : Sem α) := fun M Γ Q E p s h => by
  have : False := h
  exact this.elim
theorem DictOk.bind {α β : Type} {t : Sem α} {f : α → Sem β} (ht : DictOk t) (hf : ∀ a, DictOk (f a)) : DictOk (t >>= f) := fun M Γ Q E p s h => by
  rw [Sem.wp_bind'] at h ⊢
  refine Sem.wp_mono M Γ t (fun a p' s' hx => ?_) (fun e p' s' hx => hx) p s (ht M Γ _ _ p s h)
  exact Sem.wp_mono M Γ (f a) (fun b p'' s'' hy => ⟨hy.1, hx.2.trans hy.2⟩) (fun e p'' s'' hy => ⟨hy.1, hx.2.trans hy.2⟩) p' s' (hf a M Γ _ _ p' s' hx.1)
theorem DictOk.load (a : Addr) : DictOk (PySem.load a) := fun M Γ Q E p s h => by
  rw [Sem.wp_cmd_load] at h ⊢; exact let ⟨o, e, q⟩ := h; ⟨o, e, q, .same rfl⟩
theorem DictOk.stack : DictOk PySem.stack := fun M Γ Q E p s h => ⟨h, .same rfl⟩
theorem DictOk.alloc (o : Obj) : DictOk (PySem.alloc o) := fun M Γ Q E p s h => by
  rw [Sem.wp_cmd_alloc] at h ⊢
  exact ⟨h, fun b o' e => ⟨o', Heap.get?_push_of_some _ e, rfl⟩⟩
theorem DictOk.update (a : Addr) (f : Obj → Obj) (hf : ∀ o, o.isFreed = false → (f o).isFreed = false ∧ (f o).dict = o.dict) : DictOk (PySem.update a f) := fun M Γ Q E p s h => by
  rw [Sem.wp_cmd_update] at h ⊢
  refine ⟨h.1, h.2, fun b o e => ?_⟩
  by_cases hb : b = a
  · subst hb
    have hfr := (Heap.get?_some_iff.mp e).2
    have := hf o hfr
    exact ⟨_, Heap.get?_update_self _ e this.1, this.2⟩
  · exact ⟨o, (Heap.get?_update_other _ _ (Ne.symm hb)).trans e, rfl⟩
theorem DictOk.ite {α : Type} {c : Prop} [Decidable c] {a b : Sem α} (ha : DictOk a) (hb : DictOk b) : DictOk (if c then a else b) := by
  split
  · exact ha
  · exact hb
theorem DictOk.at {α : Type} {M : Model} {A : Around} {t : Sem α} {Q : α → Shared → Prop} {E : Value → Shared → Prop} {s : Shared} (hd : DictOk t) (h : wpAny M A t Q E s) :
    wpAny M A t (fun a s' => Q a s' ∧ DKeep s s') (fun e s' => E e s' ∧ DKeep s s') s := fun Γ p hΓ => hd M Γ _ _ p s (h Γ p hΓ)
theorem mapFields_ok (g : Array Value → Array Value) (o : Obj) (h : o.isFreed = false) : (Obj.mapFields g o).isFreed = false ∧ (Obj.mapFields g o).dict = o.dict := by
  obtain ⟨c, d, dt, sl⟩ := o
  cases dt <;> first | exact ⟨rfl, rfl⟩ | exact ⟨h, rfl⟩
theorem ok_field (v : Value) (i : Nat) : DictOk (field v i) := by
  unfold field fieldsOf
  refine .bind ?_ fun vs => ?_
  · cases v <;> first | exact .stuck _ | skip
    refine .bind (.load _) fun o => ?_
    cases o.data <;> first | exact .pure _ | exact .stuck _
  · cases vs[i]? <;> first | exact .pure _ | exact .stuck _
theorem ok_setField (v : Value) (i : Nat) (x : Value) : DictOk (setField v i x) := by
  unfold setField
  cases v <;> first | exact .stuck _ | skip
  dsimp only
  unfold updateField
  refine .bind (.load _) fun o => ?_
  cases o.data <;> first | exact .stuck _ | skip
  dsimp only
  exact .ite (.update _ _ fun o h => mapFields_ok _ o h) (.stuck _)
theorem ok_setFlight (e : Value) (f : Option Addr) : DictOk (setFlight e f) := by
  unfold setFlight
  refine .bind (ok_field _ _) fun tb => ?_
  exact .ite (ok_setField _ _ _) (.pure _)
theorem ok_ready : ∀ l : List Env, DictOk (readyFrames l)
  | [] => by unfold readyFrames; exact .pure _
  | env :: outer => by
    unfold readyFrames
    cases env.frame with
    | none => exact .stuck _
    | some f =>
      dsimp only
      refine .bind (.load _) fun o => ?_
      refine .ite (.pure _) ?_
      refine .bind ?_ fun imp => .bind ?_ fun back => .bind (.update _ _ fun o h => ?_) fun _ => ok_ready outer
      · unfold behindIsImport
        refine .ite (.pure _) (.ite (.pure _) (.bind (ok_field _ _) fun _ => .pure _))
      · cases outer with
        | nil =>
          unfold keptBack
          refine .ite (.pure _) (.bind ?_ fun _ => .pure _)
          unfold underTheClaimsCaller
          exact .bind .stack fun _ => .pure _
        | cons c r => unfold keptBack; exact .pure _
      · obtain ⟨c, d, dt, sl⟩ := o
        cases dt <;> first | exact ⟨rfl, rfl⟩ | exact ⟨h, rfl⟩
theorem ok_noteFrame (e : Value) (env : Env) : DictOk (noteFrame e env) := by
  have key : ∀ (f : Addr) (head : Value) (b : Bool), DictOk (do
      let a ← PySem.frameOf env
      let pl ← entryPlaceOf f b
      let x ← EntryCells.newEntry head a .none (rawInt f) .none pl
      setField e 1 x) := fun f head b => by
    refine .bind ?_ fun a => .bind ?_ fun pl => .bind ?_ fun x => ok_setField _ _ _
    · unfold PySem.frameOf frameObject frameEnvs
      refine .bind (.bind .stack fun _ => .pure _) fun l => .bind ?_ fun o => ?_
      · cases List.dropWhile (fun x => x.frame != env.frame) l with
        | nil => exact .pure _
        | cons c r => exact .bind (ok_ready _) fun _ => .pure _
      · cases o <;> first | exact .pure _ | exact .stuck _
    · unfold entryPlaceOf
      refine .bind .stack fun acts => ?_
      cases List.find? (fun x => x.1.env?.bind (·.frame) == some f) acts with
      | none => exact .pure _
      | some q => exact .pure _
    · unfold EntryCells.newEntry newFields newObj newObjAsIs
      dsimp only
      exact .ite (.bind (.stuck _) fun _ => .bind (.alloc _) fun _ => .pure _) (.bind (.alloc _) fun _ => .pure _)
  unfold noteFrame
  cases env.frame with
  | none => exact .stuck _
  | some f =>
    dsimp only
    refine .bind (ok_field _ _) fun head => ?_
    refine .ite ?_ (key _ _ _)
    refine .bind (ok_field _ _) fun x => .ite (.pure _) ?_
    exact .bind (ok_setField _ _ _) fun _ => key _ _ _
theorem ok_leaving (env : Env) (e : Value) : DictOk (leaving env e) := by
  unfold leaving
  exact .bind (ok_noteFrame _ _) fun _ => ok_setFlight _ _
end

section
open PySem PySem.W PyProof.Rows PySem.Calls
noncomputable abbrev fas (l : List Env) : List Addr := l.filterMap (·.frame)
theorem fas_mem {env : Env} {outer : List Env} {L b : Addr} (hf : env.frame = some L) (h : b ∈ fas (env :: outer)) : b = L ∨ b ∈ fas outer := by
  obtain ⟨e, he, hb⟩ := List.mem_filterMap.mp h
  rcases List.mem_cons.mp he with rfl | he
  · exact .inl (Option.some.inj (hb.symm.trans hf))
  · exact .inr (List.mem_filterMap.mpr ⟨e, he, hb⟩)
theorem fas_self {env : Env} {outer : List Env} {L : Addr} (hf : env.frame = some L) : L ∈ fas (env :: outer) := List.mem_filterMap.mpr ⟨env, .head _, hf⟩
theorem fas_up {env : Env} {outer : List Env} {b : Addr} (h : b ∈ fas outer) : b ∈ fas (env :: outer) := by
  obtain ⟨e, he, hb⟩ := List.mem_filterMap.mp h
  exact List.mem_filterMap.mpr ⟨e, .tail _ he, hb⟩
noncomputable abbrev exO (t dx : Addr) : Obj := { cls := .ref 31, dict := some dx, data := .fields #[.ref t, .none, .none, .none, .bool false, .none] }
noncomputable def QNs (dx : Addr) (o : Obj) : Prop := (∃ es n, o.data = .dict es n) ∧ ∀ h : Heap, h.get? dx = some o → ∃ mA, h.Ns1 dx mA ∧ (∃ t, mA "code" = some (.int 5 t)) ∧ (∃ t, mA "frame_type" = some (.int 0 t))
noncomputable def Flew (base G : Heap) (l : List Env) (e dx : Addr) (news : List (Addr × Obj)) (h : Heap) : Prop :=
  ∃ B a0, base.StaysIn B ∧ (∀ b o, G.get? b = some o → b ∉ fas l → B.get? b = some o) ∧ (∀ q ∈ news, B.get? q.1 = some q.2 ∧ G.get? q.1 = none) ∧
    Heap.FlyingW B l e (.ref 31) a0 h ∧ (∃ oe, h.get? e = some oe ∧ oe.dict = some dx) ∧ G.UpToSlots h ∧ G.get? e = none

section
variable {M : Model} {A : Around} {E : Value → Shared → Prop} {s' : Shared} {base g : Heap} {outer : List Env} {L e dx t : Addr} {m : Str → Option Value} {env : Env} {Q : Unit → Shared → Prop} {news : List (Addr × Obj)}
theorem flew_first (K : Below A base outer g) (F : Fr g L s'.heap m) (N : News g L s'.heap ((e, exO t dx) :: news)) (hne : ∀ q ∈ news, q.1 ≠ e) (hf : env.frame = some L) (hke : env.scope.kind = .function)
    (hQ : ∀ h', Flew base g outer e dx news h' → Q () { s' with heap := h' }) : wpAny M (A.deeper env) (leaving env (.ref e)) Q E s' := by
  have K' := pushX K F hf hke
  have he := (N _ (.head _)).1
  have ge := (N _ (.head _)).2.2
  have sth : base.StaysIn (hideAll s'.heap (e :: fas (env :: outer))) := fun b o q => hideAll_get _ (K'.stays b o q) fun hm => by
    rcases List.mem_cons.mp hm with rfl | hm
    · have := fresh_of_stays K.stays ge; rw [q] at this; cases this
    · rw [(K'.frames.mem hm).1] at q; cases q
  have hin : ∀ env' ∈ (env :: outer), ∀ b, env'.frame = some b → b ∈ (e :: fas (env :: outer)) := fun env' h b hb => .tail _ (List.mem_filterMap.mpr ⟨env', h, hb⟩)
  have nG : ∀ b o, g.get? b = some o → b ∉ fas outer → (hideAll s'.heap (e :: fas (env :: outer))).get? b = some o := fun b o q nm => hideAll_get _ (F.keep b o q) fun hm => by
    rcases List.mem_cons.mp hm with rfl | hm
    · rw [ge] at q; cases q
    · rcases fas_mem hf hm with z | z
      · rw [z, kts_self F] at q; cases q
      · exact nm z
  have nN : ∀ q ∈ news, (hideAll s'.heap (e :: fas (env :: outer))).get? q.1 = some q.2 ∧ g.get? q.1 = none := fun q hq => by
    have n := N q (.tail _ hq)
    refine ⟨hideAll_get _ n.1 fun hm => ?_, n.2.2⟩
    rcases List.mem_cons.mp hm with z | hm
    · exact hne q hq z
    · rcases fas_mem hf hm with z | z
      · exact n.2.1 z
      · obtain ⟨o, ho, _⟩ := (K.frames.mem z).2
        rw [n.2.2] at ho; cases ho
  refine wpAny_mono (DictOk.at (ok_leaving env (.ref e)) (wpAny_leaving_firstW (E := E) (Q := fun _ s₂ => ∃ h', s₂ = { s' with heap := h' } ∧ Heap.LeftW (hideAll s'.heap (e :: fas (env :: outer))) (env :: outer) e (.ref 31) (.ref t) s'.heap h')
    K'.stack (funFrames_hide K'.frames hin) hf he (fun b o q => of_hideAll _ q) (hideAll_none _ (.head _)) rfl rfl rfl fun h' hL => ⟨h', rfl, hL⟩)) (fun _ s₂ hx => ?_) (fun _ _ hx => hx.1)
  obtain ⟨⟨h', rfl, k1, ⟨_, _, k2⟩, k3, k4⟩, hD⟩ := hx
  obtain ⟨oe, hoe, hde⟩ := hD e _ he
  exact hQ h' ⟨_, .ref t, sth, nG, nN, ⟨k1, hideAll_none _ (.head _), k2, k3⟩, ⟨oe, hoe, hde⟩, (Heap.UpToSlots.of_keeps F.keep).trans k4, ge⟩

theorem flew_on {h : Heap} (K : Below A base outer g) (F : Fr g L h m) (R : Flew base g (env :: outer) e dx news s'.heap) (hf : env.frame = some L)
    (hQ : ∀ h', Flew base g outer e dx news h' → Q () { s' with heap := h' }) : wpAny M (A.deeper env) (leaving env (.ref e)) Q E s' := by
  obtain ⟨B, a0, hB, hG, hN, hfl, ⟨oe, hoe, hde⟩, hsm, ge⟩ := R
  refine wpAny_mono (DictOk.at (ok_leaving env (.ref e)) (wpAny_leaves_onW (E := E) (Q := fun _ s₂ => ∃ h', s₂ = { s' with heap := h' } ∧ Heap.FlyingW B outer e (.ref 31) a0 h' ∧ s'.heap.UpToSlots h')
    (Around.frames_deeper K.stack) hf hfl fun h' x1 x2 => ⟨h', rfl, x1, x2⟩)) (fun _ s₂ hx => ?_) (fun _ _ hx => hx.1)
  obtain ⟨⟨h', rfl, x1, x2⟩, hD⟩ := hx
  obtain ⟨oe', hoe', hde'⟩ := hD e _ hoe
  refine hQ h' ⟨B, a0, hB, fun b o q nm => hG b o q fun hm => ?_, hN, x1, ⟨oe', hoe', hde'.trans hde⟩, hsm.trans x2, ge⟩
  rcases fas_mem hf hm with z | z
  · rw [z, kts_self F] at q; cases q
  · exact nm z
end
structure CtE (w : World) (d : Nat) (fv : Value) (vs : List Value) (news : List (Addr × Obj)) : Prop where
  run : ∀ (p : Program) (loose : List Str) (mean : ExcName → Option Value) (mg mb : Str → Option Value) (dp un : Nat) (gd : Option (List Code)) (base g : Heap) (env : Env) (outer : List Env) (s : Shared) (R : Result → Shared → Prop),
    Below (mkA dp un gd env outer) base (env :: outer) g → (∀ b o, g.get? b = some o → s.heap.get? b = some o) → g.objs.size ≤ s.heap.objs.size → (Mine.hd.heap_1 w.params).In g → Top p loose mean mg mb g →
    (∀ q ∈ news, s.heap.get? q.1 = some q.2 ∧ g.get? q.1 = none) → dp + d < recursionLimit → un + 10 * d < cLine →
    (∀ e dx o h' tk', QNs dx o → Flew base g (env :: outer) e dx ((dx, o) :: news) h' → R (.error (.ref e)) { s with heap := h', toks := tk' }) →
    codeAny (model PySem.Challenge.rw_pf0262_01.row.prog w) (mkA dp un gd env outer) (.call fv ⟨vs, []⟩) R s
section
variable {w : World} {A A₀ : Around} {s : Shared} {base h₀ : Heap} {env : Env} {outer : List Env} {L : Addr} {m mg mb : Str → Option Value} {led sub : List (Addr × Obj)} {R : Result → Shared → Prop}
  {p : Program} {loose : List Str} {mean : ExcName → Option Value} {d : Nat} {fv : Value} {vs : List Value}
theorem cte_use (C : CtE w d fv vs sub) (B : Below A₀ base outer h₀) (F : Fr h₀ L s.heap m) (X : (Mine.hd.heap_1 w.params).In h₀) (N : News h₀ L s.heap led) (TT : Top p loose mean mg mb h₀)
    (hA : A.frames = some (env :: outer)) (hf : env.frame = some L) (hke : env.scope.kind = .function) (hsub : ∀ q ∈ sub, q ∈ led)
    (hd : A.depth + d < recursionLimit) (hu : A.units + 10 * d < cLine) (hh : A.handled = none)
    (hk : ∀ e dx o h' tk', QNs dx o → Flew base h₀ (env :: outer) e dx ((dx, o) :: led) h' → h'.Ns L m → R (.error (.ref e)) { s with heap := h', toks := tk' }) :
    codeAny (model PySem.Challenge.rw_pf0262_01.row.prog w) A (.call fv ⟨vs, []⟩) R s := by
  have NS : News h₀ L s.heap sub := fun q hq => N q (hsub q hq)
  obtain ⟨FG, BG, st, _⟩ := groundX (R := R) B F NS hA hf hke
  have eA : A = mkA A.depth A.units A.guards env outer := by cases A; cases hA; cases hh; rfl
  rw [eA] at BG ⊢
  refine C.run p loose mean mg mb _ _ _ base _ env outer s R BG (fun b o e => of_hideAll _ e) (Nat.le_of_eq (hideAll_size _ _)) (X.keeps st) (TT.keeps st)
    (fun q hq => ⟨(NS q hq).1, hideAll_none _ (List.mem_map_of_mem hq)⟩) hd hu fun e dx o h' tk' hq hfl => ?_
  obtain ⟨BB, a0, hB, hG, hN, hfw, hoe, hsm, ge⟩ := hfl
  have up : ∀ b, (hideAll s.heap (sub.map (·.1))).get? b = none → h₀.get? b = none := fun b e => fresh_of_stays st e
  refine hk e dx o h' tk' hq ⟨BB, a0, hB, fun b o e nm => hG b o (st b o e) nm, fun q hq => ?_, hfw, hoe, (Heap.UpToSlots.of_keeps st).trans hsm, up _ ge⟩ (hsm.ns FG.ns)
  rcases List.mem_cons.mp hq with rfl | hq
  · exact ⟨(hN _ (.head _)).1, up _ (hN _ (.head _)).2⟩
  · by_cases hm : q.1 ∈ sub.map (·.1)
    · obtain ⟨q', hq', e'⟩ := List.mem_map.mp hm
      have a := (hN _ (.tail _ hq')).1
      have b := (N _ (hsub q' hq')).1
      rw [e', (N q hq).1] at b
      have b := Option.some.inj b
      rw [e', ← b] at a
      exact ⟨a, (N q hq).2.2⟩
    · refine ⟨hG _ _ (hideAll_get _ (N q hq).1 hm) fun hz => ?_, (N q hq).2.2⟩
      rcases fas_mem hf hz with z | z
      · exact (N q hq).2.1 z
      · obtain ⟨o', ho', _⟩ := (B.frames.mem z).2
        rw [(N q hq).2.2] at ho'; cases ho'
end
end

section
open PySem PySem.W PyProof.Rows PySem.Calls
theorem cls31 (P : Params) : ∃ nm q bs hdct sn sub ab col dd k0 k1 k2 k3 k5, (Mine.hd.heap_1 P).lookup 31 = some (excClassObj nm q 31 30 bs [.type "Exception", .type "BaseException", .type "object"] hdct sn sub ab col dd k0 k1 k2 k3 k5 "Exception.__new__") :=
  ⟨_, _, _, _, _, _, _, _, _, _, _, _, _, _, rfl⟩
section
variable {A : Around} {base g h B : Heap} {outer : List Env} {L : Addr} {m : Str → Option Value} {env : Env}
theorem ground_turn (K : Below A base outer g) (hf : env.frame = some L) (hG : ∀ b o, g.get? b = some o → b ∉ fas (env :: outer) → B.get? b = some o) (hB : B.StaysIn h) (hsm : g.UpToSlots h) (hns : h.Ns L m) (hab : g.objs.size ≤ L) :
    ∃ g', KtsTurn (fas outer) g g' ∧ Fr g' L h m ∧ Below A base outer g' := by
  have nL : ∀ b o, g.get? b = some o → b ≠ L := fun b o e z => absurd (Nat.lt_of_lt_of_le (Heap.lt_size e) hab) (by rw [z]; exact Nat.lt_irrefl _)
  obtain ⟨T, S⟩ := kts_turn_at (h := h) (fs := fas outer) (g := g)
    (fun b hb => by obtain ⟨_, o, ho, _⟩ := K.frames.mem hb; exact ⟨o, ho⟩)
    (fun b o e nm => hB b o (hG b o e fun hm => (fas_mem hf hm).elim (nL b o e) nm))
    (fun b o e hm => by
      obtain ⟨_, o', ho', hd⟩ := K.frames.mem hm
      rw [e] at ho'; cases ho'
      exact hsm b o e hd)
  refine ⟨_, T, ⟨hns, S, by rw [T.size]; exact hab⟩, K.stack, fun b o e => ?_, K.frames.of_keeps fun b o e _ => ?_⟩
  · exact T.other b o (K.stays b o e) fun hm => by rw [(K.frames.mem hm).1] at e; cases e
  · obtain ⟨sl, hs⟩ := T.up e
    exact ⟨_, hs, rfl⟩
end
section
variable {prog : Program} {w : World} {A₀ : Around} {E : Value → Shared → Prop} {s' : Shared} {base g : Heap} {outer : List Env} {L a e dx : Addr} {m : Str → Option Value} {name : Str} {scope : Scope} {cd : Value}
  {n : Str} {b₀ : Stmt} {suite : List Stmt} {pos np : Pos} {rest : List ExceptHandler} {Q : Flow → Shared → Prop} {news : List (Addr × Obj)}
  {p : Program} {loose : List Str} {mean : ExcName → Option Value} {mg mb : Str → Option Value} {x : Str}
theorem caught_Q (K : Below A₀ base outer g) (hns : s'.heap.Ns L m) (hab : g.objs.size ≤ L) (R : Flew base g (envOf name scope L a cd :: outer) e dx news s'.heap)
    (XB : (Mine.hd.heap_1 w.params).In base) (TB : Top p loose mean mg mb base) (ex : nsIn (Mine.hd.heap_1 w.params) mainGlobals x = some (some (.ref 31)))
    (k : ∀ h' g' oe vs tk, KtsTurn (fas outer) g g' → Fr g' L h' (fun y => if y = n then some (.ref e) else m y) → News g' L h' ((e, oe) :: news) → oe.cls = .ref 31 → oe.dict = some dx → oe.data = .fields vs →
      Below A₀ base outer g' → (Mine.hd.heap_1 w.params).In g' → Top p loose mean mg mb g' →
      wpAny (model prog w) ((A₀.deeper (envOf name scope L a cd)).mark (some (.ref e))) (execs (b₀ :: suite) (envOf name scope L a cd))
        (fun f s₄ => wpAny (model prog w) (A₀.deeper (envOf name scope L a cd)) (do bindName (envOf name scope L a cd) n .none; unbindBehindTheSuite (envOf name scope L a cd) n pos) (fun _ s₅ => Q f s₅) E s₄)
        (AsSuiteRaised (model prog w) ((A₀.deeper (envOf name scope L a cd)).mark (some (.ref e))) (envOf name scope L a cd) n pos (notedBy (model prog w) ((A₀.deeper (envOf name scope L a cd)).mark (some (.ref e))) (envOf name scope L a cd) (cameBackBy (model prog w) (A₀.deeper (envOf name scope L a cd)) (envOf name scope L a cd) E)))
        { s' with heap := h', toks := tk })
    (hk : scope.kind = .function := by rfl) (hlo : (envOf name scope L a cd).kindOf n = some .local := by rfl) (hx : (envOf name scope L a cd).kindOf x = some .globalImplicit := by rfl) (hd : (x == ("__debug__" : Str)) = false := by decide) :
    wpAny (model prog w) (A₀.deeper (envOf name scope L a cd)) (noteFrame (.ref e) (envOf name scope L a cd))
      (fun _ s₂ => wpAny (model prog w) (A₀.deeper (envOf name scope L a cd)) (setFlight (.ref e) none) (fun _ s₃ =>
        wpAny (model prog w) (A₀.deeper (envOf name scope L a cd)) (handleBy (.ref e) (envOf name scope L a cd) (.ExceptHandler (some (.Name x np)) (some n) (b₀ :: suite) pos :: rest)) Q E s₃) E s₂) E s' := by
  refine opq fun P' kP => ?_
  obtain ⟨B, a0, hB, hG, hN, hfl, ⟨oe, hoe, hde⟩, hsm, ge⟩ := R
  refine kP ?_
  have hL : B.get? L = none := (hfl.2.2.1.mem (fas_self rfl)).1
  refine wpAny_mono (DictOk.at (ok_noteFrame _ _) (wpAny_looks_onW (E := E) (Q := fun _ s₂ => ∃ h', s₂ = { s' with heap := h' } ∧ Heap.HeldW B (envOf name scope L a cd :: outer) e (.ref 31) a0 L h' ∧ s'.heap.UpToSlots h')
    (Around.frames_deeper K.stack) rfl hfl fun h' x1 x2 => ⟨h', rfl, x1, x2⟩)) (fun _ s₂ hx => ?_) (fun _ _ hx => hx.1)
  obtain ⟨⟨h₄, rfl, hheld₄, hsm₄⟩, hD₄⟩ := hx
  refine wpAny_mono (DictOk.at (ok_setFlight _ _) (wpAny_landsW (E := E) (Q := fun _ s₂ => ∃ h', s₂ = { s' with heap := h' } ∧ Heap.FlyingW B (envOf name scope L a cd :: outer) e (.ref 31) a0 h' ∧ h₄.UpToSlots h')
    hheld₄ fun h' x1 x2 => ⟨h', rfl, x1, x2⟩)) (fun _ s₂ hx => ?_) (fun _ _ hx => hx.1)
  obtain ⟨⟨h₅, rfl, hfl₅, hsm₅⟩, hD₅⟩ := hx
  refine opq fun P' kP => ?_
  have up₅ := hsm₄.trans hsm₅
  obtain ⟨g₅, T₅, F₅, K₅⟩ := ground_turn (env := envOf name scope L a cd) K rfl hG hfl₅.1 (hsm.trans up₅) (up₅.ns hns) hab
  have X₅ := XB.keeps K₅.stays
  have P₅ : TopRead p loose mg mb g₅ := topRead_of (TB.keeps K₅.stays)
  obtain ⟨ob, hob, hobc⟩ := hfl₅.there
  refine kP ?_
  refine wpAny_handleBy_cons (codeAny_handlers_test (name_K F₅ X₅ P₅ ex ?_ hk hx hd)) (by intro q; cases q)
  refine opq fun P' kP => ?_
  obtain ⟨nm, q, bs, hdct, sn, sub, ab, col, dd, k0, k1, k2, k3, k5, hC⟩ := cls31 w.params
  refine kP ?_
  refine wpAny_excMatches_sub_self ((X₅.keeps F₅.keep) _ _ hC) hob hobc (by decide) (codeAny_handlers_suite_as ?_)
  refine wpAny_mono (DictOk.at (ok_setFlight _ _) (lands_againW (Q := fun _ s₂ => ∃ h', s₂ = { s' with heap := h' } ∧ Heap.FlyingW B (envOf name scope L a cd :: outer) e (.ref 31) a0 h' ∧ h₅.UpToSlots h')
    hfl₅ fun h' x1 x2 => ⟨h', rfl, x1, x2⟩)) (fun _ s₂ hx => ?_) (fun _ _ hx => hx.1)
  obtain ⟨⟨h₆, rfl, hfl₆, hsm₆⟩, hD₆⟩ := hx
  refine opq fun P' kP => ?_
  have up₆ := up₅.trans hsm₆
  obtain ⟨g₆, T₆, F₆, K₆⟩ := ground_turn (env := envOf name scope L a cd) K rfl hG hfl₆.1 (hsm.trans up₆) (up₆.ns hns) hab
  obtain ⟨o₁, e₁, d₁⟩ := hD₄ _ _ hoe
  obtain ⟨o₂, e₂, d₂⟩ := hD₅ _ _ e₁
  obtain ⟨o₃, e₃, d₃⟩ := hD₆ _ _ e₂
  obtain ⟨oe', ws, hoe', hoec, hoed, _⟩ := hfl₆.first
  have z : oe' = o₃ := Option.some.inj (hoe'.symm.trans e₃)
  have hdd : oe'.dict = some dx := by rw [z]; exact d₃.trans (d₂.trans (d₁.trans hde))
  have Nl : News g₆ L h₆ news := fun q hq => ⟨hfl₆.1 _ _ (hN q hq).1, (fun z => by have := (hN q hq).1; rw [z, hL] at this; cases this), T₆.none_ _ (hN q hq).2⟩
  have N₆ := News.more F₆ Nl hoe' (fun es n q => by rw [hoed] at q; cases q) (T₆.none_ _ ge)
  exact kP (stN F₆ N₆ (fun h₇ F₇ N₇ => k h₇ g₆ _ _ _ T₆ F₇ N₇ hoec hdd hoed K₆ (XB.keeps K₆.stays) (TB.keeps K₆.stays)) hk hlo)
end
structure CtW (w : World) (d : Nat) (fv : Value) (vs : List Value) (news : List (Addr × Obj)) (T : Type) (val : T → Value) (out : T → List (Addr × Obj)) (fresh : T → List Addr) (fact : T → Prop) : Prop where
  run : ∀ (p : Program) (loose : List Str) (mean : ExcName → Option Value) (mg mb : Str → Option Value) (dp un : Nat) (gd : Option (List Code)) (base g : Heap) (env : Env) (outer : List Env) (s : Shared) (R : Result → Shared → Prop),
    Below (mkA dp un gd env outer) base (env :: outer) g → (∀ b o, g.get? b = some o → s.heap.get? b = some o) → g.objs.size ≤ s.heap.objs.size → (Mine.hd.heap_1 w.params).In g → Top p loose mean mg mb g →
    (Mine.hd.heap_1 w.params).In base → Top p loose mean mg mb base → CodeHd base 230 226 →
    (∀ q ∈ news, s.heap.get? q.1 = some q.2 ∧ g.get? q.1 = none) → dp + d < recursionLimit → un + 10 * d < cLine →
    (∀ (t : T) h' tk' g', KtsTurn (fas (env :: outer)) g g' → (∀ b o, g'.get? b = some o → h'.get? b = some o) → (∀ q ∈ out t, h'.get? q.1 = some q.2 ∧ g'.get? q.1 = none) → (∀ a ∈ fresh t, g'.get? a = none) → fact t → R (.ok (.ret (val t))) { s with heap := h', toks := tk' }) →
    codeAny (model PySem.Challenge.rw_pf0262_01.row.prog w) (mkA dp un gd env outer) (.call fv ⟨vs, []⟩) R s
section
variable {w : World} {A A₀ : Around} {s : Shared} {base h₀ g : Heap} {env : Env} {outer : List Env} {L : Addr} {m mg mb : Str → Option Value} {led sub rest news : List (Addr × Obj)} {R : Result → Shared → Prop}
  {p : Program} {loose : List Str} {mean : ExcName → Option Value} {d : Nat} {fv : Value} {vs : List Value} {T : Type} {val : T → Value} {out : T → List (Addr × Obj)} {fresh : T → List Addr} {fact : T → Prop}
theorem ctw_use (C : CtW w d fv vs sub T val out fresh fact) (B : Below A₀ base outer h₀) (F : Fr h₀ L s.heap m) (X : (Mine.hd.heap_1 w.params).In h₀) (N : News h₀ L s.heap led) (TT : Top p loose mean mg mb h₀)
    (XB : (Mine.hd.heap_1 w.params).In base) (TB : Top p loose mean mg mb base) (HB : CodeHd base 230 226)
    (hA : A.frames = some (env :: outer)) (hf : env.frame = some L) (hke : env.scope.kind = .function) (hsub : ∀ q ∈ sub, q ∈ led) (hrest : Rst (sub.map (·.1)) led rest)
    (hd : A.depth + d < recursionLimit) (hu : A.units + 10 * d < cLine) (hh : A.handled = none)
    (hk : ∀ (t : T) h' tk' g', KtsTurn (fas outer) h₀ g' → Fr g' L h' m → News g' L h' (out t ++ rest) → Below A₀ base outer g' → (Mine.hd.heap_1 w.params).In g' → Top p loose mean mg mb g' → AllAparts (fresh t) rest → fact t → R (.ok (.ret (val t))) { s with heap := h', toks := tk' }) :
    codeAny (model PySem.Challenge.rw_pf0262_01.row.prog w) A (.call fv ⟨vs, []⟩) R s := by
  have NS : News h₀ L s.heap sub := fun q hq => N q (hsub q hq)
  obtain ⟨FG, BG, st, _⟩ := groundX (R := R) B F NS hA hf hke
  have eA : A = mkA A.depth A.units A.guards env outer := by cases A; cases hA; cases hh; rfl
  rw [eA] at BG ⊢
  refine C.run p loose mean mg mb _ _ _ base _ env outer s R BG (fun b o e => of_hideAll _ e) (Nat.le_of_eq (hideAll_size _ _)) (X.keeps st) (TT.keeps st) XB TB HB
    (fun q hq => ⟨(NS q hq).1, hideAll_none _ (List.mem_map_of_mem hq)⟩) hd hu fun t h' tk' g' KT kp hn hfr hfa => ?_
  have up : ∀ b o, h₀.get? b = some o → ∃ sl, h'.get? b = some { o with slots := sl } := fun b o e => let ⟨sl, hs⟩ := KT.up (st b o e); ⟨sl, kp _ _ hs⟩
  have uns : h'.Ns L m := by
    obtain ⟨oL, es, ep, hL, r⟩ := FG.ns
    obtain ⟨sl, hs⟩ := KT.up hL
    exact ⟨_, es, ep, kp _ _ hs, r⟩
  have nL : ∀ b o, h₀.get? b = some o → b ≠ L := fun b o e z => absurd (Nat.lt_of_lt_of_le (Heap.lt_size e) F.above) (by rw [z]; exact Nat.lt_irrefl _)
  obtain ⟨gn, Tn, Fn, Kn⟩ := ground_turn (B := h') (m := m) B hf (fun b o e nm => kp b o (KT.other b o (st b o e) nm)) (fun _ _ e => e) (fun b o e _ => up b o e) uns F.above
  have none_ : ∀ b, g'.get? b = none → gn.get? b = none := fun b e => Tn.none_ b (by
    cases z : h₀.get? b with
    | none => rfl
    | some o => obtain ⟨sl, hs⟩ := KT.up (st b o z); rw [e] at hs; cases hs)
  refine hk t h' tk' gn Tn Fn (fun q hq => ?_) Kn (XB.keeps Kn.stays) (TB.keeps Kn.stays) (allAparts_of fun a ha q hq e => ?_) hfa
  · rcases List.mem_append.mp hq with hq | hq
    · obtain ⟨h1, h2⟩ := hn q hq
      refine ⟨h1, fun e => ?_, none_ _ h2⟩
      obtain ⟨oL, es, ep, hL, r⟩ := FG.ns
      obtain ⟨sl, hs⟩ := KT.up hL
      rw [e, hs] at h2
      cases h2
    · obtain ⟨h1, h2⟩ := hrest.mem q hq
      have n := N q h1
      refine ⟨kp _ _ (KT.other _ _ (hideAll_get _ n.1 h2) fun hz => ?_), n.2.1, Tn.none_ _ n.2.2⟩
      rcases fas_mem hf hz with z | z
      · exact n.2.1 z
      · obtain ⟨o', ho', _⟩ := (B.frames.mem z).2
        rw [n.2.2] at ho'; cases ho'
  · obtain ⟨h1, h2⟩ := hrest.mem q hq
    have := hfr a ha
    obtain ⟨sl, hs⟩ := KT.up (hideAll_get _ (N q h1).1 h2)
    rw [← e, hs] at this
    cases this
theorem ctw_fin {L' : Addr} {h' : Heap} {g₀ : Heap} {fs : List Addr} {m' : Str → Option Value} {n n' : List (Addr × Obj)} {P : Prop} (KT : KtsTurn fs g₀ g) (F : Fr g L' h' m') (N : News g L' h' n) (sub : ∀ q ∈ n', q ∈ n)
    {fr : List Addr} {fa : Prop} (hfr : ∀ a ∈ fr, ∃ o, (a, o) ∈ n) (hfa : fa)
    (hR : ∀ g', KtsTurn fs g₀ g' → (∀ b o, g'.get? b = some o → h'.get? b = some o) → (∀ q ∈ n', h'.get? q.1 = some q.2 ∧ g'.get? q.1 = none) → (∀ a ∈ fr, g'.get? a = none) → fa → P) : P :=
  hR g KT F.keep (fun q hq => ⟨(N q (sub q hq)).1, (N q (sub q hq)).2.2⟩) (fun a ha => let ⟨o, ho⟩ := hfr a ha; (N (a, o) ho).2.2) hfa
theorem Ct.toW (C : Ct w d fv vs news T val out fresh fact) : CtW w d fv vs news T val out fresh fact := by
  refine CtW.mk ?_
  intro p loose mean mg mb dp un gd base g env outer s R B kg sz X T XB TB HB N hd hu hO
  exact C.run p loose mean mg mb dp un gd base g env outer s R B kg sz X T N hd hu fun t h' tk' k1 k2 k3 k4 => hO t h' tk' g .refl k1 k2 k3 k4
end
end

section
open PySem PySem.W PyProof.Rows PySem.Calls
open Builtin Builtin.ObjectAttr
noncomputable abbrev exN (t : Addr) : Obj := { cls := .ref 31, data := .fields #[.ref t, .none, .none, .none, .bool false, .none] }
noncomputable def QM (o : Obj) (mA : Str → Option Value) : Prop := ∃ es n, o.data = .dict es n ∧ StrKeys es ∧ UniqKeys es ∧ ∀ y, nsFind es y = mA y
theorem QM.ns {o : Obj} {mA : Str → Option Value} {h : Heap} {d : Addr} (x : QM o mA) (e : h.get? d = some o) : h.Ns1 d mA := let ⟨es, n, a, b, c, f⟩ := x; ⟨o, es, n, e, a, b, c, f⟩
theorem QM.of {mA : Str → Option Value} {h : Heap} {d : Addr} (x : h.Ns1 d mA) : ∃ o, h.get? d = some o ∧ QM o mA := let ⟨o, es, n, e, a, b, c, f⟩ := x; ⟨o, e, es, n, a, b, c, f⟩
theorem QM.tell {o : Obj} {mA : Str → Option Value} {dx : Addr} (x : QM o mA) {t1 t2 : Tok} (h1 : mA "code" = some (.int 5 t1)) (h2 : mA "frame_type" = some (.int 0 t2)) : QNs dx o :=
  ⟨let ⟨es, n, a, _⟩ := x; ⟨es, n, a⟩, fun _ e => ⟨mA, x.ns e, ⟨t1, h1⟩, ⟨t2, h2⟩⟩⟩
theorem frag_nil (h : Heap) : Frag.In [] h := fun _ _ e => by cases e
theorem type_exc : typeOf (.type "Exception") = pure (.type "type") := by first | rfl | kernel_rfl
theorem find_exc_init : findCls [] (.type "Exception") (.type "type") "__init__" = some (.val (.builtin "Exception.__init__")) := by kernel_rfl
theorem cls31t (P : Params) : ∃ nm q bs sn sub ab col dd k0 k1 k2 k3 k5, (Mine.hd.heap_1 P).lookup 31 = some (excClassObj nm q 31 30 bs [.type "Exception", .type "BaseException", .type "object"] true sn sub ab col dd k0 k1 k2 k3 k5 "Exception.__new__") :=
  ⟨_, _, _, _, _, _, _, _, _, _, _, _, _, rfl⟩
section
variable {prog : Program} {w : World} {A : Around} {E : Value → Shared → Prop} {s : Shared} {h₀ : Heap} {L : Addr} {m : Str → Option Value} {news rest : List (Addr × Obj)}
theorem getm_exc {pl : Sem Bool} {Q : Value × List Value → Shared → Prop} (h : Q (.builtin "Exception.__init__", []) { s with toks := s.toks + 1 }) :
    wpAny (model prog w) A (getMethod (.type "Exception") (Str.ofString "__init__") pl) Q E s := by
  have X := frag_nil s.heap
  have hstub : opaqueClassAbove (.type "Exception") = pure none := by unfold opaqueClassAbove; dsimp only; rw [show Manifest.isStub "Exception" = false by decide +kernel]; rfl
  have L0 : Looks (model prog w) s.heap (typeOf (.type "Exception")) (.type "type") := Looks.of_pure type_exc
  have hg : findIn [] (.type "type") "__getattribute__" = some (some (.builtin "type.__getattribute__")) := type_tga
  unfold getMethod specialOf
  refine wpAny_bind (wpAny_bind (L0.here ((looks_findIn X hg).here ?_)))
  dsimp only
  rw [if_pos canon_tga]
  refine wpAny_bind (wpAny_mono (Q := fun v => Q (v, [])) (E := E) ?_ (fun _ _ z => wpAny_pure z) fun _ _ z => z)
  have LO : Looks (model prog w) s.heap (opaqueClassAbove (.type "Exception")) none := Looks.of_pure hstub
  refine cls_open X LO L0 hg (looks_hook X (r := none) (by rfl)) (by show subIn [] _ _ = _; rfl) find_exc_init ?_
  exact wpAny_pure (by show wpAny _ _ (handedOut (.builtin "Exception.__init__")) _ _ _; rw [handedOut_of (by decide +kernel)]; exact wpAny_pure h)
theorem exc_init {K : Params} {e t : Addr} {v : Value} {Q : Value → Shared → Prop} (F : Fr h₀ L s.heap m) (X : (Mine.hd.heap_1 K).In h₀) (N : News h₀ L s.heap news) (hm : (e, exN t) ∈ news) (hr : Rst [e] news rest)
    (h : ∀ t' h', Fr h₀ L h' m → News h₀ L h' ((e, exN t') :: rest) → Q .none { s with heap := h' }) :
    wpAny (model prog w) A (call (.builtin "Exception.__init__") [.ref e, v]) Q E s := by
  obtain ⟨hh, g, d, tk, os⟩ := s
  have FB := PySem.F.excBase_Exception
  obtain ⟨nm, q, bs, sn, sub, ab, col, dd, k0, k1, k2, k3, k5, hC₀⟩ := cls31t K
  have hC := (X.keeps F.keep) _ _ hC₀
  obtain ⟨he, heL, he0⟩ := N _ hm
  refine wpAny_call (codeAny_call_builtin FB.init.plain FB.initEntry (wpAny_check_init_sub FB hC he rfl ?_))
  wp_walk
  have hes : e ≠ hh.objs.size := Nat.ne_of_lt (Heap.lt_size he)
  have he1 := Heap.get?_push_of_some { cls := .type "tuple", data := .seq #[v] } he
  refine h hh.objs.size _ ?_ ?_
  · have F1 := F.push { cls := .type "tuple", data := .seq #[v] }
    obtain ⟨oL, a1, a2, hL, a3⟩ := F1.ns
    exact ⟨⟨oL, a1, a2, (Heap.get?_update_other _ _ heL).trans hL, a3⟩, fun b o' e' => (Heap.get?_update_other _ _ (fun z => by rw [← z, he0] at e'; cases e')).trans (F1.keep b o' e'), F1.above⟩
  · intro p hp
    rcases List.mem_cons.mp hp with rfl | hp
    · exact ⟨by rw [Heap.get?_update_self _ he1 rfl]; rfl, heL, he0⟩
    · obtain ⟨h1, h2⟩ := hr.mem p hp
      have n := N p h1
      exact ⟨(Heap.get?_update_other _ _ (fun z => h2 (by simp [← z]))).trans (Heap.get?_push_of_some _ n.1), n.2⟩
end
end

section
open PySem PySem.W PyProof.Rows PySem.Calls
open Builtin Builtin.ObjectAttr

theorem ok30 (P : Params) : nsOkIn (Mine.hd.heap_1 P) 30 = true := by kernel_rfl
theorem sa30 (P : Params) : nsIn (Mine.hd.heap_1 P) 30 "__setattr__" = some none := by kernel_rfl
section
variable {prog : Program} {w : World} {A : Around} {E : Value → Shared → Prop} {s : Shared} {h₀ : Heap} {L : Addr} {m : Str → Option Value} {news rest : List (Addr × Obj)}
theorem exc_set1 {K : Params} {e t : Addr} {name : Str} {v : Value} {Q : Unit → Shared → Prop} (F : Fr h₀ L s.heap m) (X : (Mine.hd.heap_1 K).In h₀) (N : News h₀ L s.heap news) (hm : (e, exN t) ∈ news) (hr : Rst [e] news rest)
    (hq2 : nsIn (Mine.hd.heap_1 K) 30 name = some none)
    (hB : typeLookup (.type "Exception") name = pure none)
    (h : ∀ dx o h' tk', Fr h₀ L h' m → News h₀ L h' ((e, exO t dx) :: (dx, o) :: rest) → QM o (fun y => if y = name then some v else none) → Apart dx e → AllAparts [dx] rest → Q () { s with heap := h', toks := tk' }) :
    wpAny (model prog w) A (setAttr (.ref e) name v) Q E s := by
  obtain ⟨hh, g, d, tk, os⟩ := s
  have SF := PySem.F.store_Exception
  refine opq fun P' kP => ?_
  obtain ⟨nm, q, bs, sn, sub, ab, col, dd, k0, k1, k2, k3, k5, hC₀⟩ := cls31t K
  have XH := X.keeps F.keep
  have hC := XH _ _ hC₀
  have hn : hh.Ns 30 (hh.nsMap 30) := .of_isNs (isNs_of_in XH (ok30 K))
  have hns : hh.nsMap 30 "__setattr__" = none := nsMap_none_of_in XH (ok30 K) (sa30 K)
  have hna : hh.nsMap 30 name = none := nsMap_none_of_in XH (ok30 K) hq2
  obtain ⟨hx', heL, he0⟩ := N _ hm
  obtain ⟨o0, ho0, hx⟩ : ∃ o0, o0 = exN t ∧ hh.get? e = some o0 := ⟨_, rfl, hx'⟩
  have hc : o0.cls = .ref 31 := by rw [ho0]
  have hdn : o0.dict = none := by rw [ho0]
  have hod : o0.data = .fields #[.ref t, .none, .none, .none, .bool false, .none] := by rw [ho0]
  have hosl : o0.slots = #[] := by rw [ho0]
  have hfr : o0.isFreed = false := by rw [ho0]; rfl
  have hpass := SF.passes (.ref e)
  have f3 := SF.slot.bind (.ref e)
  refine kP ?_
  unfold setAttr callSpecial? specialOf
  repeat (any_goals (first | assumption | (with_reducible refine wpAny_loadPart_at hx ?_; rw [hc]) | (with_reducible refine wpAny_typeLookup_exc hC hn SF.mro SF.slot.lookup ?_; rw [hns]) | wp_step))
  show codeAny _ _ (.call (.builtin "object.__setattr__") ⟨[.ref e, .str name tk, v], []⟩) _ _
  refine codeAny_call_builtin SF.slot.plain SF.entry ?_
  with_reducible refine wpAny_check_sa SF hC hx hc ?_
  unfold Builtin.«object.__setattr__»
  repeat (first | rw [refuse_eq] | (rw [refuseLoop_ref, hpass]) | (with_reducible refine wpAny_loadPart_at hx ?_; rw [hc]) | with_reducible refine wpAny_mroOf_exc hC ?_ | (with_reducible refine wpAny_typeLookup_exc hC hn SF.mro hB ?_; rw [hna]) | wp_step)
  rw [hdn, if_neg (by simp [typeHasDict])]
  split
  · rename_i hcd
    cases hcd
  split
  · rename_i c hcd
    rw [hod] at hcd
    cases hcd
  have hx₁ : (hh.push { cls := .type "dict", data := .dict #[] }).get? e = some o0 := Heap.get?_push_of_some _ hx
  have hes : e ≠ hh.objs.size := Nat.ne_of_lt (Heap.lt_size hx)
  refine wpAny_bind (wpAny_alloc' ?_)
  refine wpAny_bind (wpAny_update' hx₁ ?_)
  refine wpAny_pure ?_
  have hgd : ((hh.push { cls := .type "dict", data := .dict #[] }).update e fun o => { cls := o.cls, dict := some hh.objs.size, data := o.data, slots := o.slots }).get? hh.objs.size
      = some { cls := .type "dict", data := .dict #[] } := (Heap.get?_update_ne _ _ _ _ hes.symm).trans (Heap.get?_push_at rfl rfl)
  have hnd : ((hh.push { cls := .type "dict", data := .dict #[] }).update e fun o => { cls := o.cls, dict := some hh.objs.size, data := o.data, slots := o.slots }).Ns hh.objs.size (fun _ => none) :=
    ⟨_, #[], _, hgd, rfl, fun e he => absurd he (by simp), fun _ => rfl⟩
  show wpAny _ _ (storeInDict hh.objs.size (.str name _) name v) _ _ _
  unfold storeInDict newKeyGuard
  refine wpAny_bind (wpAny_pure (wpAny_bind (wpAny_nsSet1 (Heap.Ns1.of_empty hnd) fun h' hn' hs => ?_)))
  obtain ⟨oD, esD, epD, hoD, hdD, hcD⟩ := hn'.count (Within.cons name v Within.nil)
  refine wpAny_bind (wpAny_lookBehind hoD (by rw [hdD]; exact pastItsLine_dict (Nat.le_trans hcD (by rw [List.length_cons, List.length_nil, sizeLine_eq]; omega))) ?_)
  obtain ⟨o, ho, hqm⟩ := QM.of hn'
  have hgE : h'.get? e = some (exO t hh.objs.size) := by
    have q := (hs.2 e hes).trans (Heap.get?_update_self (fun o => { cls := o.cls, dict := some hh.objs.size, data := o.data, slots := o.slots }) hx₁ (by rw [ho0]; rfl))
    rw [q, ho0]
  have other : ∀ b ob, b ≠ e → hh.get? b = some ob → h'.get? b = some ob := fun b ob hb hq =>
    (hs.2 b (Nat.ne_of_lt (Heap.lt_size hq))).trans ((Heap.get?_update_ne _ _ _ _ hb).trans (Heap.get?_push_of_some _ hq))
  have hs0 : h₀.get? hh.objs.size = none := by
    cases z : h₀.get? hh.objs.size with
    | none => rfl
    | some o' => exact absurd (Heap.lt_size (F.keep _ _ z)) (Nat.lt_irrefl _)
  have fin : Q () ⟨h', g, d, tk + 1 + 1, os⟩ := by
    refine h hh.objs.size o h' _ ?_ ?_ hqm (Apart.of hes.symm) (allAparts_of fun a ha p hp => ?_)
    · obtain ⟨oL, a1, a2, hL, a3⟩ := F.ns
      exact ⟨⟨oL, a1, a2, other _ _ (Ne.symm heL) hL, a3⟩, fun b o' e' => other b o' (fun z => by rw [z, he0] at e'; cases e') (F.keep b o' e'), F.above⟩
    · intro p hp
      rcases List.mem_cons.mp hp with rfl | hp
      · exact ⟨hgE, heL, he0⟩
      rcases List.mem_cons.mp hp with rfl | hp
      · exact ⟨ho, fun z => by have z : hh.objs.size = L := z; have := F.ns.lt; rw [← z] at this; exact Nat.lt_irrefl _ this, hs0⟩
      · obtain ⟨h1, h2⟩ := hr.mem p hp
        have n := N p h1
        exact ⟨other _ _ (fun z => h2 (by simp [z])) n.1, n.2⟩
    · rw [List.mem_singleton.mp ha]
      exact Nat.ne_of_lt (Heap.lt_size (N p (hr.mem p hp).1).1)
  repeat (any_goals (first | assumption | wp_step))
theorem exc_set2 {K : Params} {e t dx : Addr} {o : Obj} {mA : Str → Option Value} {name : Str} {v : Value} {ns : List Str} {Q : Unit → Shared → Prop} (F : Fr h₀ L s.heap m) (X : (Mine.hd.heap_1 K).In h₀) (N : News h₀ L s.heap news) (hm : (e, exO t dx) ∈ news)
    (hm2 : (dx, o) ∈ news) (hqm : QM o mA) (hne : Apart dx e) (hr : Rst [dx] news rest)
    (hq2 : nsIn (Mine.hd.heap_1 K) 30 name = some none)
    (hB : typeLookup (.type "Exception") name = pure none) (hw : Within mA ns) (hsz : ns.length ≤ 20)
    (h : ∀ o' h' tk', Fr h₀ L h' m → News h₀ L h' ((dx, o') :: rest) → QM o' (fun y => if y = name then some v else mA y) → Q () { s with heap := h', toks := tk' }) :
    wpAny (model prog w) A (setAttr (.ref e) name v) Q E s := by
  obtain ⟨hh, g, d, tk, os⟩ := s
  have SF := PySem.F.store_Exception
  obtain ⟨nm, q, bs, sn, sub, ab, col, dd, k0, k1, k2, k3, k5, hC₀⟩ := cls31t K
  have XH := X.keeps F.keep
  have hC := XH _ _ hC₀
  have hn : hh.Ns 30 (hh.nsMap 30) := .of_isNs (isNs_of_in XH (ok30 K))
  obtain ⟨hx, heL, he0⟩ := N _ hm
  obtain ⟨hd, hdL, hd0⟩ := N _ hm2
  have hxC : e ≠ 31 := fun z => by have := X _ _ hC₀; rw [← z, he0] at this; cases this
  refine store_attr SF hC hn (nsMap_none_of_in XH (ok30 K) (sa30 K)) (nsMap_none_of_in XH (ok30 K) hq2) hB hxC ⟨_, hx, rfl, (fun c z => by cases z), .inr ⟨dx, rfl, hne.ne, hqm.ns hd⟩⟩ (fun h' tk' I' hk hsame => ?_) hw (Nat.le_trans hsz (by rw [sizeLine_eq]; omega))
  obtain ⟨o1, ho1, _, _, ⟨hz, _⟩ | ⟨d1, hd1, hne1, hns1⟩⟩ := I'
  · obtain ⟨o2, ho2, _, _, _, hdd⟩ := hsame _ hx
    rw [ho1] at ho2
    cases ho2
    rw [hdd dx rfl] at hz
    cases hz
  obtain ⟨o2, ho2, c2, da2, sl2, hdd⟩ := hsame _ hx
  rw [ho1] at ho2
  cases ho2
  have e1 : d1 = dx := Option.some.inj (hd1.symm.trans (hdd dx rfl))
  subst e1
  obtain ⟨o', ho', hqm'⟩ := QM.of hns1
  have hgE : h'.get? e = some (exO t d1) := by
    rw [ho1]
    obtain ⟨oc, od, oda, osl⟩ := o1
    dsimp only at c2 da2 sl2 hd1
    subst c2 da2 sl2 hd1
    rfl
  have other : ∀ b ob, b ≠ e → b ≠ d1 → hh.get? b = some ob → h'.get? b = some ob := fun b ob hb hb2 hq => hk b ob hb (fun o₀ dx' h1 h2 => by rw [hx] at h1; cases h1; cases h2; exact hb2) hq
  refine h o' h' tk' ?_ ?_ hqm'
  · obtain ⟨oL, a1, a2, hL, a3⟩ := F.ns
    exact ⟨⟨oL, a1, a2, other _ _ (Ne.symm heL) (Ne.symm hdL) hL, a3⟩, fun b o' e' => other b o' (fun z => by rw [z, he0] at e'; cases e') (fun z => by rw [z, hd0] at e'; cases e') (F.keep b o' e'), F.above⟩
  · intro p hp
    rcases List.mem_cons.mp hp with rfl | hp
    · exact ⟨ho', hdL, hd0⟩
    · obtain ⟨h1, h2⟩ := hr.mem p hp
      have n := N p h1
      by_cases z : p.1 = e
      · have e2 : p.2 = exO t d1 := by have := n.1; rw [z, hx] at this; exact (Option.some.inj this).symm
        exact ⟨by rw [z, e2]; exact hgE, n.2⟩
      · exact ⟨other _ _ z (fun y => h2 (by simp [y])) n.1, n.2⟩
end
end

section
open PySem PySem.W PyProof.Rows PySem.Calls
local macro_rules | `(tactic| walk_at "getMethod type:Exception") => `(tactic| (k_here; refine Stop.out ?_))
local macro_rules | `(tactic| walk_at "call builtin:Exception.__init__") => `(tactic| (k_here; refine Stop.out ?_))
local macro_rules | `(tactic| walk_at "setAttr ref") => `(tactic| (k_here; refine Stop.out ?_))
theorem ct_qinit (w : World) (e t : Addr) (t1 t2 t3 : Tok) (tx : Str) (htx : tx = "no more can be written" ∨ tx = "no end can be written") (hap : Apart e t) :
    Ct w 6 (.ref 28) [.ref e, .int 5 t1, .int 0 t2, .str tx t3] [(e, exN t)] (Addr × Addr × Obj) (fun _ => .none)
      (fun z => [(e, exO z.1 z.2.1), (z.2.1, z.2.2)]) (fun z => [z.2.1]) (fun z => QNs z.2.1 z.2.2 ∧ Apart z.2.1 e) := by
  rcases htx with rfl | rfl
  all_goals (
  refine Ct.mk ?_
  intro p loose mean mg mb dp un gd base g env outer s R B kg sz X T N hd hu hO
  revert X; k_fill; intro X
  (k_dflt (refine' ct_code ?k1 ?ka ?kb ?k3 ?k5 ?k4 ?k6 ?k7 ?k8 ?k9 ?kB ?_ ?c2 ?c3 ?c4 ?c5; (case k1 => assumption); (case ka => assumption); (case kb => assumption); (case k3 => assumption); (case k5 => assumption); (case k4 => assumption); (case k6 => k_is); (case k7 => k_is); (case k8 => k_room); (case k9 => exact BindsTo.of_eq rfl); (case c5 => decide); (case kB => exact locs rfl); (case c2 => exact rfl); (case c3 => exact rfl); (case c4 => exact rfl); k_whole; intro L' h' F' N' l1; (try k_lt l1); (try dsimp only); (try k_fold)))
  k_steps
  repeat (any_goals (refine Stop.mk ?_; first | (k_dflt (refine' getm_exc ?_); (try dsimp only)) | (k_dflt (refine' exc_init ?Fz1 ?Xz1 ?Nz1 ?mz1 ?rz1 ?_; (case Fz1 => k_asm); (case Xz1 => k_asm); (case Nz1 => k_asm); (case mz1 => k_mem); (case rz1 => (repeat ((try ((with_reducible show List _); rotate_left)); first | exact Rst.nil | (refine' Rst.drop' ?ctm ?_; (case ctm => k_mem)) | (refine' Rst.keep ?ctn ?_; (case ctn => (repeat (first | exact List.forall_mem_nil _ | (refine' memCons ?cta ?_; (case cta => k_ne)))))) | (refine' Rst.drop ?_))))); intro t' h' F' N'; (try k_sweep)) | (k_dflt (refine' exc_set1 ?Fz2 ?Xz2 ?Nz2 ?mz2 ?rz2 ?bz2 ?cz2 ?_; (case Fz2 => k_asm); (case Xz2 => k_asm); (case Nz2 => k_asm); (case mz2 => k_mem); (case rz2 => (repeat ((try ((with_reducible show List _); rotate_left)); first | exact Rst.nil | (refine' Rst.drop' ?ctm ?_; (case ctm => k_mem)) | (refine' Rst.keep ?ctn ?_; (case ctn => (repeat (first | exact List.forall_mem_nil _ | (refine' memCons ?cta ?_; (case cta => k_ne)))))) | (refine' Rst.drop ?_)))); (case bz2 => k_is); (case cz2 => (rw [typeLookup_type, builtinLookup_eq_fast]; kernel_rfl))); intro dx' o' h' tk' F' N' hQM hap' hall'; (try simp only [AllAparts, Aparts, and_true] at hall'); (try k_sweep); (repeat ((rename And _ _ => hAnd9); (have hA9 := hAnd9.1); (have hB9 := hAnd9.2); (clear hAnd9)))) | (k_dflt (refine' exc_set2 ?Fz3 ?Xz3 ?Nz3 ?mz3 ?m2z3 ?qz3 ?nz3 ?rz3 ?bz3 ?cz3 ?wiz3 ?szz3 ?_; (case Fz3 => k_asm); (case Xz3 => k_asm); (case Nz3 => k_asm); (case mz3 => k_mem); (case qz3 => with_reducible assumption); (case m2z3 => k_mem); (case nz3 => with_reducible assumption); (case rz3 => (repeat ((try ((with_reducible show List _); rotate_left)); first | exact Rst.nil | (refine' Rst.drop' ?ctm ?_; (case ctm => k_mem)) | (refine' Rst.keep ?ctn ?_; (case ctn => (repeat (first | exact List.forall_mem_nil _ | (refine' memCons ?cta ?_; (case cta => k_ne)))))) | (refine' Rst.drop ?_)))); (case bz3 => k_is); (case cz3 => (rw [typeLookup_type, builtinLookup_eq_fast]; kernel_rfl)); (case wiz3 => within_ways); (case szz3 => decide)); intro o' h' tk' F' N' hQM; (try k_sweep))); (try k_steps))
  all_goals try dsimp only
  all_goals (refine' ct_fin ?cF ?cN ?cS ?cR ?cA (hO (⟨_, _, _⟩) _ _); (case cF => k_asm); (case cN => k_asm); (case cS => ((try dsimp only); repeat (first | exact List.forall_mem_nil _ | (refine' memCons ?cta ?_; (case cta => k_mem); (try dsimp only))))); (case cR => ((try dsimp only); repeat (first | exact List.forall_mem_nil _ | (intro ctA ctH; cases ctH; done) | (refine' memCons ⟨_, ?cta⟩ ?_; (case cta => k_mem); (try dsimp only))))); (case cA => (repeat' (first | (((try dsimp only); (with_reducible show QNs _ _); refine' QM.tell ?ctq ?ct1 ?ct2; (case ctq => with_reducible assumption); (case ct1 => first | rfl | with_unfolding_all rfl); (case ct2 => first | rfl | with_unfolding_all rfl))) | ((try dsimp only); (with_reducible show @Eq Bool _ _); (first | exact rfl | (refine decide_eq_true ?ctc; (case ctc => omega)) | (refine decide_eq_false ?ctc; (case ctc => omega)) | (refine decide_eq_decide.mpr ?ctc; (case ctc => omega)) | (refine (decide_eq_true ?ctc).symm; (case ctc => omega)) | (refine (decide_eq_false ?ctc).symm; (case ctc => omega)) | (refine Bool.eq_iff_iff.mpr ?ctc; (case ctc => ((simp only [decide_eq_true_eq, beq_iff_eq, bne_iff_ne, ne_eq, List.size_toArray, List.length_cons, List.length_nil, true_and, Bool.false_eq_true, false_and, or_false, Bool.or_eq_true, Bool.and_eq_true]); omega))) | (subst_vars; (first | exact rfl | (refine Bool.eq_iff_iff.mpr ?ctc; (case ctc => ((simp only [decide_eq_true_eq, beq_iff_eq, bne_iff_ne, ne_eq, List.size_toArray, List.length_cons, List.length_nil, true_and, Bool.false_eq_true, false_and, or_false, Bool.or_eq_true, Bool.and_eq_true]); omega))) | (simp; done) | (simp; omega))) | (simp; done) | (simp; omega))) | exact True.intro | exact rfl | (intro _; omega) | (intro ctZ; cases ctZ; done) | (dsimp only; done) | ((try dsimp only); first | with_reducible assumption | (refine And.intro ?_ ?_) | (refine Apart.of ?_; k_ne) | exact Or.inl rfl | (refine Or.inr ?_) | exact rfl | omega)))))
  )
end

section
open PySem PySem.W PyProof.Rows PySem.Calls

theorem Rst.all {as : List Addr} : ∀ {l : List (Addr × Obj)}, (∀ q ∈ l, ∀ a ∈ as, q.1 ≠ a) → Rst as l l
  | [], _ => .nil
  | _ :: _, h => .keep (h _ (.head _)) (Rst.all fun q hq => h q (.tail _ hq))
theorem Flew.sub {base G h : Heap} {l : List Env} {e dx : Addr} {n n' : List (Addr × Obj)} (R : Flew base G l e dx n h) (s : ∀ q ∈ n', q ∈ n) : Flew base G l e dx n' h :=
  let ⟨B, a0, a, b, c, r⟩ := R; ⟨B, a0, a, b, fun q hq => c q (s q hq), r⟩
noncomputable def Raised31 (E : Value → Shared → Prop) (v : Value) (s₁ : Shared) : Prop :=
  ∃ nm q bs hdct sn sub ab col dd k0 k1 k2 k3 k5 e t dx, v = .ref e ∧ s₁.heap.get? 31 = some (excClassObj nm q 31 30 bs [.type "Exception", .type "BaseException", .type "object"] hdct sn sub ab col dd k0 k1 k2 k3 k5 "Exception.__new__") ∧
      s₁.heap.get? e = some (exO t dx) ∧ E (.ref e) s₁
section
variable {M : Model} {A : Around} {E : Value → Shared → Prop} {s : Shared} {env : Env}
theorem raiseStmt_q {x : Sem Value} {Q : Flow → Shared → Prop} (hh : A.handled = none) (h : wpAny M A x (Raised31 E) E s) : wpAny M A (raiseStmt env (some x) none) Q E s := by
  unfold raiseStmt
  refine wpAny_bind (wpAny_mono h (fun v s₁ h₁ => ?_) fun _ _ x => x)
  obtain ⟨nm, q, bs, hdct, sn, sub, ab, col, dd, k0, k1, k2, k3, k5, e, t, dx, rfl, hC, he, hE⟩ := h₁
  have hcB : (Value.ref 31 :: [Value.type "Exception", .type "BaseException", .type "object"]).contains (.type "BaseException") = true := by decide
  obtain ⟨hp, g, d, tk, os⟩ := s₁
  repeat (first | with_reducible refine wpAny_loadPart_at he ?_ | with_reducible refine wpAny_loadPart_at hC ?_ | (with_reducible refine wpAny_isSubtype_exc hC ?_; rw [hcB]) | wp_step)
  exact wpAny_raiseNew_none hh hE
end
noncomputable def RaiseQ (prog : Program) (w : World) (A : Around) (E : Value → Shared → Prop) (vs : List Value) (s : Shared) : Prop :=
  (∃ nm q bs hdct sn sub ab col dd k0 k1 k2 k3 k5, s.heap.get? 31 = some (excClassObj nm q 31 30 bs [.type "Exception", .type "BaseException", .type "object"] hdct sn sub ab col dd k0 k1 k2 k3 k5 "Exception.__new__")) ∧
  wpAny (model prog w) A (call (.ref 31) vs) (fun r s' => ∃ e t dx, r = .ref e ∧ s'.heap.get? e = some (exO t dx) ∧ (∀ o, s.heap.get? 31 = some o → s'.heap.get? 31 = some o) ∧ E (.ref e) s') E s
section
variable {prog : Program} {w : World} {A : Around} {E : Value → Shared → Prop} {s : Shared} {env : Env}
theorem raise_q {x : Str} {np cpos pos : Pos} {e₀ : Expr} {rest : List Expr} {Q : Flow → Shared → Prop} (hh : A.handled = none)
    (h : wpAny (model prog w) A (eval (.Name x np) env) (fun f s₁ => f = .ref 31 ∧ wpAny (model prog w) A (spliced (backTo cpos (starEach (e₀ :: rest) env))) (fun vs s₂ => RaiseQ prog w A E vs s₂) E s₁) E s)
    (he : starEach (e₀ :: rest) env = (false, eval e₀ env) :: starEach rest env := by rfl) (hplain : (backTo cpos (starEach rest env)).any (·.1) = false := by rfl) :
    wpAny (model prog w) A (exec (.Raise (some (.Call (.Name x np) (e₀ :: rest) [] cpos)) none pos) env) Q E s := by
  rw [arm_exec_Raise]
  have key : wpAny (model prog w) A (do
      let v ← eval (.Call (.Name x np) (e₀ :: rest) [] cpos) env
      standAt pos
      pure v) (Raised31 E) E s := by
    refine wpAny_bind (wpAny_mono (wpAny_Call_ofName (wpAny_mono h (fun f s₁ h₁ => ?_) fun _ _ y => y)) (fun v s₃ h₃ => wpAny_bind (wpAny_standAt (wpAny_pure h₃))) fun _ _ y => y)
    obtain ⟨rfl, h₁⟩ := h₁
    unfold callWith
    rw [he] at h₁ ⊢
    refine wpAny_bind (wpAny_holding (Calls.evalArgs_plain (wpAny_mono h₁ (fun vs s₂ h₂ => wpAny_bind (wpAny_standAt ?_)) fun _ _ y => y)))
    obtain ⟨⟨nm, q, bs, hdct, sn, sub, ab, col, dd, k0, k1, k2, k3, k5, hC⟩, h₂⟩ := h₂
    obtain ⟨hp, g, d, tk, os⟩ := s₂
    have hst : ((backTo cpos ((false, eval e₀ env) :: starEach rest env)).any (fun x => x.fst) || ([] : List (Option Str × Sem Value)).any fun x => x.fst.isNone) = false := by
      show ((false || (backTo cpos (starEach rest env)).any (·.1)) || false) = false
      rw [hplain]; rfl
    refine wpAny_bind (wpAny_keeperOf_exc hC ?_)
    have hst' : ((backTo cpos ((false, eval e₀ env) :: starEach rest env)).any (fun x => x.fst) || (backToKw cpos (keywordEach [] env)).any fun x => x.fst.isNone) = false := hst
    rw [hst']
    show wpAny _ _ (call (.ref 31) vs [] >>= fun r => do holding [r] point; pure r) _ _ _
    refine wpAny_bind (wpAny_mono h₂ (fun r s' hr => wpAny_bind (wpAny_holding (wpAny_point (wpAny_pure ?_)))) fun _ _ y => y)
    obtain ⟨e, t, dx, rfl, hx, hk, hE⟩ := hr
    exact ⟨nm, q, bs, hdct, sn, sub, ab, col, dd, k0, k1, k2, k3, k5, e, t, dx, rfl, hk _ hC, hx, hE⟩
  exact wpAny_bind (wpAny_standAt (raiseStmt_q hh key))
end
end

section
open PySem PySem.W PyProof.Rows PySem.Calls

theorem init30 (P : Params) : nsIn (Mine.hd.heap_1 P) 30 "__init__" = some (some (.ref 28)) := by kernel_rfl
theorem fun28 (P : Params) : ∃ o, (Mine.hd.heap_1 P).lookup 28 = some o ∧ o.cls = .type "function" := ⟨_, rfl, rfl⟩
theorem ns_some_of {K : Frag} {h : Heap} {N : Addr} {mg : Str → Option Value} {n : Str} {v : Value} (X : K.In h) (G : h.Ns N mg) (e : nsIn K N n = some (some v)) : mg n = some v := by
  obtain ⟨o, es, ep, ho, hd, _, hf⟩ := G
  rw [← hf]
  unfold nsIn at e
  split at e
  · rename_i es' _ _ q
    have z := X _ _ q
    rw [ho] at z
    cases z
    cases hd
    split at e
    · rename_i en he
      unfold nsFind findBy
      rw [← Array.find?_toList, he]
      have e := Option.some.inj e
      have e := Option.some.inj e
      rw [← e]
      rfl
    · split at e <;> cases e
  · cases e
section
variable {w : World} {A A₀ : Around} {E : Value → Shared → Prop} {s : Shared} {base h₀ : Heap} {env : Env} {outer : List Env} {L : Addr} {m mg mb : Str → Option Value} {led : List (Addr × Obj)}
  {p : Program} {loose : List Str} {mean : ExcName → Option Value}
theorem RaiseQ.intro {t1 t2 t3 : Tok} {tx : Str} (B : Below A₀ base outer h₀) (F : Fr h₀ L s.heap m) (X : (Mine.hd.heap_1 w.params).In h₀) (N : News h₀ L s.heap led) (TT : Top p loose mean mg mb h₀)
    (hA : A.frames = some (env :: outer)) (hf : env.frame = some L) (hke : env.scope.kind = .function) (htx : tx = "no more can be written" ∨ tx = "no end can be written")
    (hd : A.depth + 8 < recursionLimit) (hu : A.units + 80 < cLine) (hh : A.handled = none)
    (hk : ∀ e t dx o h' tk', Fr h₀ L h' m → News h₀ L h' ((e, exO t dx) :: (dx, o) :: led) → QNs dx o → (∀ q ∈ (dx, o) :: led, q.1 ≠ e) → E (.ref e) { s with heap := h', toks := tk' }) :
    RaiseQ PySem.Challenge.rw_pf0262_01.row.prog w A E [.int 5 t1, .int 0 t2, .str tx t3] s := by
  obtain ⟨hp, g, d, tk, os⟩ := s
  obtain ⟨nm, q, bs, hdct, sn, sub, ab, col, dd, k0, k1, k2, k3, k5, hC₀⟩ := cls31 w.params
  have XH := X.keeps F.keep
  have hC := XH _ _ hC₀
  obtain ⟨oI, hI, hIc⟩ := fun28 w.params
  have hn : hp.Ns 30 (hp.nsMap 30) := .of_isNs (isNs_of_in XH (ok30 _))
  refine ⟨⟨nm, q, bs, hdct, sn, sub, ab, col, dd, k0, k1, k2, k3, k5, hC⟩, ?_⟩
  refine wpAny_call_exc_init PySem.F.excBase_Exception hC hn (ns_some_of XH hn (init30 _)) (XH _ _ hI) hIc fun h' e hm => ?_
  obtain ⟨t, he, _, _⟩ := hm.there
  have F1 := F.keeps hm.keeps
  have h0e : h₀.get? e = none := by
    cases z : h₀.get? e with
    | none => rfl
    | some o => have := F.keep _ _ z; rw [hm.new] at this; cases this
  have heL : e ≠ L := fun z => by obtain ⟨oL, _, _, hL, _⟩ := F.ns; rw [← z, hm.new] at hL; cases hL
  have N1 : News h₀ L h' ((e, exN t) :: led) := fun q hq => by
    rcases List.mem_cons.mp hq with rfl | hq
    · exact ⟨he, heL, h0e⟩
    · exact ⟨hm.keeps _ _ (N q hq).1, (N q hq).2⟩
  have ne1 : ∀ q ∈ led, q.1 ≠ e := fun q hq z => by have := (N q hq).1; rw [z, hm.new] at this; cases this
  have het : e ≠ t := fun z => by
    have h1 := hm.there
    obtain ⟨t', h1, h2, h3⟩ := h1
    have : t' = t := by rw [h1] at he; cases he; rfl
    subst this
    rw [← z, h1] at h3
    cases h3
  refine wpAny_call ?_
  refine ct_use (ct_qinit w e t t1 t2 t3 tx htx (Apart.of het)) (B := B) (F := F1) (X := X) (N := N1) (TT := TT) (rest := led) hA hf hke (fun q hq => by rw [List.mem_singleton.mp hq]; exact .head _)
    (.drop' (by simp) (Rst.all fun q hq a ha => by rw [List.map_cons, List.map_nil, List.mem_singleton] at ha; rw [ha]; exact ne1 q hq)) (by show A.depth + 1 + 6 < _; omega) (by show A.units + 1 + 10 * 6 < _; omega) hh
    fun z h'' tk'' F2 N2 ha hz => ?_
  refine ⟨rfl, e, z.1, z.2.1, rfl, (N2 _ (.head _)).1, fun o ho => ?_, hk e z.1 z.2.1 z.2.2 h'' tk'' F2 N2 hz.1 fun q hq => ?_⟩
  · exact (hC.symm.trans ho) ▸ (X.keeps F2.keep) _ _ hC₀
  · rcases List.mem_cons.mp hq with rfl | hq
    · exact hz.2.ne
    · exact ne1 q hq
end
end

section
open PySem PySem.W PyProof.Rows PySem.Calls
local macro_rules | `(tactic| walk_at "exec Raise some none") => `(tactic| (k_here; refine Stop.out ?_))
local macro_rules | `(tactic| walk_at "RaiseQ") => `(tactic| (k_here; refine Stop.out ?_))
local macro_rules | `(tactic| walk_at "leaving ref") => `(tactic| (k_here; refine Stop.out ?_))
local macro_rules | `(tactic| walk_at "no such step") => `(tactic| fail "no such step")
theorem er_write (w : World) (x dx : Addr) (K : PK) (st : Str) (t1 : Tok) (vm v0 v2 v3 v4 v5 v6 v7 v8 v9 va : Value) (hst : st = "data_sent" ∨ st = "data_recvd" ∨ st = "reset_sent" ∨ st = "reset_recvd") :
    CtE w 12 (.ref 91) [.ref x, vm] [(x, instObj 192 dx), (dx, pD K v0 (.str st t1) v2 v3 v4 v5 v6 v7 v8 v9 va)] := by
  rcases hst with rfl | rfl | rfl | rfl
  all_goals (
  refine CtE.mk ?_
  intro p loose mean mg mb dp un gd base g env outer s R B kg sz X T N hd hu hO
  revert X; k_fill; intro X
  (k_dflt (refine' ct_code ?k1 ?ka ?kb ?k3 ?k5 ?k4 ?k6 ?k7 ?k8 ?k9 ?kB ?_ ?c2 ?c3 ?c4 ?c5; (case k1 => assumption); (case ka => assumption); (case kb => assumption); (case k3 => assumption); (case k5 => assumption); (case k4 => assumption); (case k6 => k_is); (case k7 => k_is); (case k8 => k_room); (case k9 => exact BindsTo.of_eq rfl); (case c5 => decide); (case kB => exact locs rfl); (case c2 => exact rfl); (case c3 => exact rfl); (case c4 => exact rfl); k_whole; intro L' h' F' N' l1; (try k_lt l1); (try dsimp only); (try k_fold)))
  k_steps
  repeat (any_goals (refine Stop.mk ?_; first | ((with_reducible show wpAny _ _ (exec (Stmt.Raise (some (Expr.Call (Expr.Name _ _) (_ :: _) [] _)) none _) _) _ _ _); k_dflt (refine' raise_q ?hhz0 ?_ ?hez0 ?hpz0; (case hhz0 => (first | assumption | (with_unfolding_all assumption) | exact rfl)); (case hez0 => exact rfl); (case hpz0 => exact rfl))) | (k_dflt (refine' RaiseQ.intro ?Bz1 ?Fz1 ?Xz1 ?Nz1 ?Tz1 ?Az1 ?fz1 ?kz1 ?tz1 ?dz1 ?uz1 ?hz1 ?_; (case Az1 => exact rfl); (case fz1 => exact rfl); (case kz1 => exact rfl); (case Bz1 => k_asm); (case Fz1 => k_asm); (case Xz1 => k_asm); (case Nz1 => k_asm); (case Tz1 => k_asm); (case tz1 => first | exact Or.inl rfl | exact Or.inr rfl); (case dz1 => k_room); (case uz1 => (((try simp only [units_in1, units_deeper, units_caller, Around.mark_units, units_make]); first | omega | (simp only [cLine_is]; omega)))); (case hz1 => (first | assumption | (with_unfolding_all assumption) | exact rfl))); intro e' t' dx' o' h' tk' F' N' hQ' hne'; (try k_sweep)) | (k_dflt (refine' flew_first ?Kz2 ?Fz2 ?Nz2 ?nez2 ?fz2 ?kz2 ?_; (case Kz2 => k_asm); (case Fz2 => k_asm); (case Nz2 => k_asm); (case nez2 => with_reducible assumption); (case fz2 => exact rfl); (case kz2 => exact rfl)); intro h' R')); (try k_steps))
  all_goals exact hO _ _ _ _ _ (by with_reducible assumption) (by with_reducible assumption)
  )
theorem er_write1 (w : World) (x dx : Addr) (K : PK) (st : Str) (t1 : Tok) (vm v0 v2 v3 v4 v5 v7 v8 v9 va : Value) (hst : st = "ready" ∨ st = "send") :
    CtE w 12 (.ref 91) [.ref x, vm] [(x, instObj 192 dx), (dx, pD K v0 (.str st t1) v2 v3 v4 v5 (.bool true) v7 v8 v9 va)] := by
  rcases hst with rfl | rfl
  all_goals (
  refine CtE.mk ?_
  intro p loose mean mg mb dp un gd base g env outer s R B kg sz X T N hd hu hO
  revert X; k_fill; intro X
  (k_dflt (refine' ct_code ?k1 ?ka ?kb ?k3 ?k5 ?k4 ?k6 ?k7 ?k8 ?k9 ?kB ?_ ?c2 ?c3 ?c4 ?c5; (case k1 => assumption); (case ka => assumption); (case kb => assumption); (case k3 => assumption); (case k5 => assumption); (case k4 => assumption); (case k6 => k_is); (case k7 => k_is); (case k8 => k_room); (case k9 => exact BindsTo.of_eq rfl); (case c5 => decide); (case kB => exact locs rfl); (case c2 => exact rfl); (case c3 => exact rfl); (case c4 => exact rfl); k_whole; intro L' h' F' N' l1; (try k_lt l1); (try dsimp only); (try k_fold)))
  k_steps
  repeat (any_goals (refine Stop.mk ?_; first | ((with_reducible show wpAny _ _ (exec (Stmt.Raise (some (Expr.Call (Expr.Name _ _) (_ :: _) [] _)) none _) _) _ _ _); k_dflt (refine' raise_q ?hhz0 ?_ ?hez0 ?hpz0; (case hhz0 => (first | assumption | (with_unfolding_all assumption) | exact rfl)); (case hez0 => exact rfl); (case hpz0 => exact rfl))) | (k_dflt (refine' RaiseQ.intro ?Bz1 ?Fz1 ?Xz1 ?Nz1 ?Tz1 ?Az1 ?fz1 ?kz1 ?tz1 ?dz1 ?uz1 ?hz1 ?_; (case Az1 => exact rfl); (case fz1 => exact rfl); (case kz1 => exact rfl); (case Bz1 => k_asm); (case Fz1 => k_asm); (case Xz1 => k_asm); (case Nz1 => k_asm); (case Tz1 => k_asm); (case tz1 => first | exact Or.inl rfl | exact Or.inr rfl); (case dz1 => k_room); (case uz1 => (((try simp only [units_in1, units_deeper, units_caller, Around.mark_units, units_make]); first | omega | (simp only [cLine_is]; omega)))); (case hz1 => (first | assumption | (with_unfolding_all assumption) | exact rfl))); intro e' t' dx' o' h' tk' F' N' hQ' hne'; (try k_sweep)) | (k_dflt (refine' flew_first ?Kz2 ?Fz2 ?Nz2 ?nez2 ?fz2 ?kz2 ?_; (case Kz2 => k_asm); (case Fz2 => k_asm); (case Nz2 => k_asm); (case nez2 => with_reducible assumption); (case fz2 => exact rfl); (case kz2 => exact rfl)); intro h' R')); (try k_steps))
  all_goals exact hO _ _ _ _ _ (by with_reducible assumption) (by with_reducible assumption)
  )
theorem er_finish (w : World) (x dx : Addr) (K : PK) (st : Str) (t1 : Tok) (v0 v2 v3 v4 v5 v6 v7 v8 v9 va : Value) (hst : st = "data_sent" ∨ st = "data_recvd" ∨ st = "reset_sent" ∨ st = "reset_recvd") :
    CtE w 12 (.ref 98) [.ref x] [(x, instObj 192 dx), (dx, pD K v0 (.str st t1) v2 v3 v4 v5 v6 v7 v8 v9 va)] := by
  rcases hst with rfl | rfl | rfl | rfl
  all_goals (
  refine CtE.mk ?_
  intro p loose mean mg mb dp un gd base g env outer s R B kg sz X T N hd hu hO
  revert X; k_fill; intro X
  (k_dflt (refine' ct_code ?k1 ?ka ?kb ?k3 ?k5 ?k4 ?k6 ?k7 ?k8 ?k9 ?kB ?_ ?c2 ?c3 ?c4 ?c5; (case k1 => assumption); (case ka => assumption); (case kb => assumption); (case k3 => assumption); (case k5 => assumption); (case k4 => assumption); (case k6 => k_is); (case k7 => k_is); (case k8 => k_room); (case k9 => exact BindsTo.of_eq rfl); (case c5 => decide); (case kB => exact locs rfl); (case c2 => exact rfl); (case c3 => exact rfl); (case c4 => exact rfl); k_whole; intro L' h' F' N' l1; (try k_lt l1); (try dsimp only); (try k_fold)))
  k_steps
  repeat (any_goals (refine Stop.mk ?_; first | ((with_reducible show wpAny _ _ (exec (Stmt.Raise (some (Expr.Call (Expr.Name _ _) (_ :: _) [] _)) none _) _) _ _ _); k_dflt (refine' raise_q ?hhz0 ?_ ?hez0 ?hpz0; (case hhz0 => (first | assumption | (with_unfolding_all assumption) | exact rfl)); (case hez0 => exact rfl); (case hpz0 => exact rfl))) | (k_dflt (refine' RaiseQ.intro ?Bz1 ?Fz1 ?Xz1 ?Nz1 ?Tz1 ?Az1 ?fz1 ?kz1 ?tz1 ?dz1 ?uz1 ?hz1 ?_; (case Az1 => exact rfl); (case fz1 => exact rfl); (case kz1 => exact rfl); (case Bz1 => k_asm); (case Fz1 => k_asm); (case Xz1 => k_asm); (case Nz1 => k_asm); (case Tz1 => k_asm); (case tz1 => first | exact Or.inl rfl | exact Or.inr rfl); (case dz1 => k_room); (case uz1 => (((try simp only [units_in1, units_deeper, units_caller, Around.mark_units, units_make]); first | omega | (simp only [cLine_is]; omega)))); (case hz1 => (first | assumption | (with_unfolding_all assumption) | exact rfl))); intro e' t' dx' o' h' tk' F' N' hQ' hne'; (try k_sweep)) | (k_dflt (refine' flew_first ?Kz2 ?Fz2 ?Nz2 ?nez2 ?fz2 ?kz2 ?_; (case Kz2 => k_asm); (case Fz2 => k_asm); (case Nz2 => k_asm); (case nez2 => with_reducible assumption); (case fz2 => exact rfl); (case kz2 => exact rfl)); intro h' R')); (try k_steps))
  all_goals exact hO _ _ _ _ _ (by with_reducible assumption) (by with_reducible assumption)
  )
end

section
open PySem PySem.W PyProof.Rows PySem.Calls

section
variable {prog : Program} {w : World} {A : Around} {s : Shared} {K : Frag} {base g : Heap} {m mg mb : Str → Option Value} {news : List (Addr × Obj)} {p : Program} {loose : List Str} {mean : ExcName → Option Value}
theorem ct_lam {env : Env} {outer : List Env} {R : Result → Shared → Prop} {name qual : Str} {params : Arguments} {body : Expr} {scope : Scope} {cl : List (Str × Addr)} {pm ctv : Value} {c' : Addr} {f : Addr} {args : Args} {binds : List (Str × Value)} {oc : Obj} {vs : Array Value} {t : Tok}
    (B : Below A base (env :: outer) g) (kg : ∀ b o, g.get? b = some o → s.heap.get? b = some o) (sz : g.objs.size ≤ s.heap.objs.size) (TT : Top p loose mean mg mb g)
    (N : ∀ q ∈ news, s.heap.get? q.1 = some q.2 ∧ g.get? q.1 = none)
    (ho : (f, kla_obj name qual params body scope cl pm c' ctv) ∈ news) (hoc : (c', oc) ∈ news) (hd : oc.data = .fields vs) (hv : vs[1]? = some (.str qual t)) (hroom : A.depth < recursionLimit)
    (hbind : bindArgs (kla_fn name qual params body scope cl pm (.ref c') ctv) args = pure binds) (hloc : ∀ y ∈ binds, scope.names.lookup y.1 = some .local)
    (h : ∀ L' h₁, Fr g L' h₁ (fun y => binds.reverse.lookup y) → News g L' h₁ news → (∀ q ∈ news, q.1 < L') →
      wpAny (model prog w) (A.deeper (envX qual scope L' f (.ref c') cl)) (eval body (envX qual scope L' f (.ref c') cl))
        (fun v s' => R (.ok (.ret v)) s')
        (fun e s' => wpAny (model prog w) (A.deeper (envX qual scope L' f (.ref c') cl)) (leaving (envX qual scope L' f (.ref c') cl) e) (fun _ s'' => R (.error e) s'') (fun e' s'' => R (.error e') s'') s')
        { s with heap := h₁, toks := s.toks + binds.length })
    (hco : scope.isCoroutine = false) (hgen : scope.isGenerator = false) (hk : scope.kind = .function)
    (hcell : ∀ x ∈ scope.names, x.2 ≠ .cell) : codeAny (model prog w) A (.call (.ref f) args) R s := by
  refine kla_callFunE hroom (N _ ho).1 rfl hco hgen rfl ⟨c', oc, vs, t, rfl, (N _ hoc).1, hd, hv⟩ ?_
  rw [hbind]
  refine wpAny_pure (wpAny_newFunctionEnv hcell hloc (fun h₁ hns hsb => ⟨((TT.nolimit).keeps kg).fresh _ hsb, ?_⟩) hk)
  show codeAny _ _ (.expr body (envX qual scope s.heap.objs.size f (.ref c') cl)) _ _
  have hk₁ : ∀ b o, s.heap.get? b = some o → h₁.get? b = some o := fun b o e => hsb.extBut b o (Nat.ne_of_lt (Heap.lt_size e)) (Heap.get?_push_of_some _ e)
  exact kla_codeExpr (h s.heap.objs.size h₁ ⟨hns, fun b o e => hk₁ b o (kg b o e), sz⟩
    (fun q hq => ⟨hk₁ _ _ (N q hq).1, Nat.ne_of_lt (Heap.lt_size (N q hq).1), (N q hq).2⟩) fun q hq => Heap.lt_size (N q hq).1)
end
noncomputable abbrev lamBody (p1 p2 p3 p4 : Pos) : Expr := .Call (.Attribute (.Name "part" p1) "write" p2) [.Constant (.bytes [120]) 0 p3] [] p4
noncomputable abbrev lamScope : Scope := { kind := .function, names := [("part", .free)], isGenerator := false, isCoroutine := false }
noncomputable abbrev lamPars : Arguments := { posonlyargs := [], args := [], vararg := none, kwonlyargs := [], kw_defaults := [], kwarg := none, defaults := [] }
end

section
open PySem PySem.W PyProof.Rows PySem.Calls
open Builtin Builtin.ObjectAttr

theorem ga30 (P : Params) : nsIn (Mine.hd.heap_1 P) 30 "__getattribute__" = some none := by kernel_rfl
theorem gh30 (P : Params) : nsIn (Mine.hd.heap_1 P) 30 "__getattr__" = some none := by kernel_rfl
section
variable {prog : Program} {w : World} {A : Around} {E : Value → Shared → Prop} {h : Heap} {g : Array GenState} {d : Drawn} {tk : Nat} {os : OsState} {a dx : Addr} {o : Obj}
  {nm q : Str} {bs : List Value} {sn : List Str} {sub : List Value} {ab : Bool} {col : Option Bool} {dd : Option Addr} {k0 k1 k2 k3 k5 : Option Value} {mN mA : Str → Option Value} {name : Str} {v : Value}
theorem exc_get_entry {t : Tok} {Q : Fin → Shared → Prop} (hC : h.get? 31 = some (excClassObj nm q 31 30 bs [.type "Exception", .type "BaseException", .type "object"] true sn sub ab col dd k0 k1 k2 k3 k5 "Exception.__new__"))
    (hn : h.Ns 30 mN) (hna : mN name = none) (hB : typeLookup (.type "Exception") name = pure none) (hx : h.get? a = some o) (hc : o.cls = .ref 31) (hdx : o.dict = some dx) (hnc : ∀ c, o.data ≠ .cls c) (hns : h.Ns dx mA) (hv : mA name = some v)
    (hh : handedOut v = pure v) (hq : Q (.done (.ret v)) ⟨h, g, d, tk, os⟩) :
    wpAny (model prog w) A (Builtin.«object.__getattribute__» ⟨[.ref a, .str name t], []⟩) Q E ⟨h, g, d, tk, os⟩ := by
  have hmro := PySem.F.excBase_Exception.mroIs
  unfold Builtin.«object.__getattribute__»
  repeat (first | (with_reducible refine wpAny_loadPart_at hx ?_; rw [hc]) | (with_reducible refine wpAny_typeLookup_exc hC hn hmro hB ?_; rw [hna]) | wp_step)
  split
  · rename_i c hcd
    exact absurd hcd (hnc c)
  unfold instanceDict
  repeat (first | (with_reducible refine wpAny_loadPart_at hx ?_; rw [hc]) | with_reducible refine wpAny_loadPart_at hC ?_ | wp_step)
  rw [hdx]
  repeat (first | (with_reducible refine wpAny_nsGet hns ?_; rw [hv]) | wp_step)
  exact hq
theorem exc_get {expr : Bool} {Q : Value → Shared → Prop} (hC : h.get? 31 = some (excClassObj nm q 31 30 bs [.type "Exception", .type "BaseException", .type "object"] true sn sub ab col dd k0 k1 k2 k3 k5 "Exception.__new__"))
    (hn : h.Ns 30 mN) (hg1 : mN "__getattribute__" = none) (hg2 : mN "__getattr__" = none) (hna : mN name = none) (hB : typeLookup (.type "Exception") name = pure none) (hx : h.get? a = some o) (hc : o.cls = .ref 31) (hdx : o.dict = some dx) (hnc : ∀ c, o.data ≠ .cls c)
    (hns : h.Ns dx mA) (hv : mA name = some v) (hh : handedOut v = pure v) (hq : Q v ⟨h, g, d, tk + 1, os⟩) :
    wpAny (model prog w) A (getAttr (.ref a) name expr) Q E ⟨h, g, d, tk, os⟩ := by
  have FB := PySem.F.attrBase_Exception
  have f3 := FB.ga.bind (.ref a)
  have hx0 : (expr && onTheHeap (Value.builtin "BaseException.__getattribute__")) = false := by cases expr <;> rfl
  have hx2 : (Value.builtin "BaseException.__getattribute__" == Value.builtin "object.__getattribute__") = false := by decide +kernel
  have hx1 : (onTheHeap (Value.ref 31) && Value.builtin "BaseException.__getattribute__" == Value.builtin "object.__getattribute__") = false := by rw [hx2]; rfl
  unfold getAttr getAttrBy
  repeat (any_goals (first | assumption | (with_reducible refine wpAny_loadPart_at hx ?_; rw [hc]) | (with_reducible refine wpAny_typeLookup_exc hC hn FB.mro FB.ga.lookup ?_; rw [hg1]) | (with_reducible refine wpAny_typeLookup_exc hC hn FB.mro FB.noGetattr ?_; rw [hg2]) | wp_step))
  show codeAny _ _ (.call (.builtin "BaseException.__getattribute__") ⟨[.ref a, .str name tk], []⟩) _ _
  refine codeAny_call_builtin FB.ga.plain F.entry_bexc_ga ?_
  with_reducible refine wpAny_check_ga_own FB hC .base hx hc ?_
  refine exc_get_entry hC hn hna hB hx hc hdx hnc hns hv hh ?_
  repeat (any_goals (first | assumption | (rw [hh]) | wp_step))
end
end

section
open PySem PySem.W PyProof.Rows PySem.Calls

section
variable {prog : Program} {w : World} {A : Around} {E : Value → Shared → Prop} {s : Shared} {h₀ : Heap} {L : Addr} {m : Str → Option Value} {news : List (Addr × Obj)} {K : Params} {e dx : Addr} {oe o : Obj} {vs : Array Value}
theorem exc_code {expr : Bool} {Q : Value → Shared → Prop} (F : Fr h₀ L s.heap m) (X : (Mine.hd.heap_1 K).In h₀) (N : News h₀ L s.heap news) (hm : (e, oe) ∈ news) (hm2 : (dx, o) ∈ news) (hc : oe.cls = .ref 31) (hdx : oe.dict = some dx) (hd : oe.data = .fields vs) (hq : QNs dx o)
    (h : ∀ t, Q (.int 5 t) { s with toks := s.toks + 1 }) : wpAny (model prog w) A (getAttr (.ref e) "code" expr) Q E s := by
  obtain ⟨nm, q, bs, sn, sub, ab, col, dd, k0, k1, k2, k3, k5, hC₀⟩ := cls31t K
  have XH := X.keeps F.keep
  have hn : s.heap.Ns 30 (s.heap.nsMap 30) := .of_isNs (isNs_of_in XH (ok30 K))
  obtain ⟨mA, hns, ⟨t, ht⟩, _⟩ := hq.2 s.heap (N _ hm2).1
  exact exc_get (XH _ _ hC₀) hn (nsMap_none_of_in XH (ok30 K) (ga30 K)) (nsMap_none_of_in XH (ok30 K) (gh30 K)) (nsMap_none_of_in XH (ok30 K) (by kernel_rfl))
    (by rw [typeLookup_type, builtinLookup_eq_fast]; kernel_rfl) (N _ hm).1 hc hdx (fun c z => by rw [hd] at z; cases z) hns.ns ht rfl (h t)
theorem exc_frame {expr : Bool} {Q : Value → Shared → Prop} (F : Fr h₀ L s.heap m) (X : (Mine.hd.heap_1 K).In h₀) (N : News h₀ L s.heap news) (hm : (e, oe) ∈ news) (hm2 : (dx, o) ∈ news) (hc : oe.cls = .ref 31) (hdx : oe.dict = some dx) (hd : oe.data = .fields vs) (hq : QNs dx o)
    (h : ∀ t, Q (.int 0 t) { s with toks := s.toks + 1 }) : wpAny (model prog w) A (getAttr (.ref e) "frame_type" expr) Q E s := by
  obtain ⟨nm, q, bs, sn, sub, ab, col, dd, k0, k1, k2, k3, k5, hC₀⟩ := cls31t K
  have XH := X.keeps F.keep
  have hn : s.heap.Ns 30 (s.heap.nsMap 30) := .of_isNs (isNs_of_in XH (ok30 K))
  obtain ⟨mA, hns, _, ⟨t, ht⟩⟩ := hq.2 s.heap (N _ hm2).1
  exact exc_get (XH _ _ hC₀) hn (nsMap_none_of_in XH (ok30 K) (ga30 K)) (nsMap_none_of_in XH (ok30 K) (gh30 K)) (nsMap_none_of_in XH (ok30 K) (by kernel_rfl))
    (by rw [typeLookup_type, builtinLookup_eq_fast]; kernel_rfl) (N _ hm).1 hc hdx (fun c z => by rw [hd] at z; cases z) hns.ns ht rfl (h t)
end
noncomputable def LamE (p1 p2 p3 p4 : Pos) : Prop := ∀ env : Env, ∃ pl : Sem Bool, eval (lamBody p1 p2 p3 p4) env = (do
      let ov ← eval (.Name "part" p1) env
      standAt p2.atName
      let (f, first) ← holding [ov] (getMethod ov "write" pl)
      callWith p4 f first (backTo p4 (starEach [.Constant (.bytes [120]) 0 p3] env)) [])
end

section
open PySem PySem.W PyProof.Rows PySem.Calls
local macro_rules | `(tactic| walk_at "leaving ref") => `(tactic| (k_here; refine Stop.out ?_))
local macro_rules | `(tactic| walk_at "eval Name") => `(tactic| (k_here; k_dflt (refine' nameX_F ?N ?c ?m ?d ?_ ?a ?b; (case a => rfl); (case b => rfl); (case N => k_asm); (case c => rfl); (case m => k_mem); (case d => k_asm); k_whole)))
local macro_rules | `(tactic| walk_at "call ref") => `(tactic| (k_here; refine Stop.out ?_))
local macro_rules | `(tactic| walk_at "no such step") => `(tactic| fail "no such step")
local macro_rules | `(tactic| walk_at "no such step") => `(tactic| fail "no such step")
theorem er_lam (w : World) (f c' cell x dx : Addr) (K : PK) (pm ctv : Value) (qual : Str) (oc co : Obj) (vs : Array Value) (t : Tok) (p1 p2 p3 p4 : Pos) (st : Str) (t1 : Tok) (v0 v2 v3 v4 v5 v6 v7 v8 v9 va : Value)
    (hE : LamE p1 p2 p3 p4) (hoc : oc.data = .fields vs) (hv : vs[1]? = some (.str qual t)) (hco : co.data = .cell (some (.ref x))) (hst : st = "data_sent" ∨ st = "data_recvd" ∨ st = "reset_sent" ∨ st = "reset_recvd") :
    CtE w 20 (.ref f) [] [(f, kla_obj "<lambda>" qual lamPars (lamBody p1 p2 p3 p4) lamScope [("part", cell)] pm c' ctv), (c', oc), (cell, co), (x, instObj 192 dx), (dx, pD K v0 (.str st t1) v2 v3 v4 v5 v6 v7 v8 v9 va)] := by
  dsimp only [LamE, lamBody, lamPars, lamScope] at hE ⊢
  refine CtE.mk ?_
  intro p loose mean mg mb dp un gd base g env outer s R B kg sz X T N hd hu hO
  revert X; k_fill; intro X
  (k_dflt (refine' ct_lam ?k1 ?ka ?kb ?k5 ?k4 ?k6 ?k7 ?k7a ?k7b ?k8 ?k9 ?kB ?_ ?c2 ?c3 ?c4 ?c5; (case k1 => assumption); (case ka => assumption); (case kb => assumption); (case k5 => assumption); (case k4 => assumption); (case k6 => k_mem); (case k7 => k_mem); (case k7a => assumption); (case k7b => assumption); (case k8 => k_room); (case k9 => exact rfl); (case c5 => decide); (case kB => exact locs rfl); (case c2 => exact rfl); (case c3 => exact rfl); (case c4 => exact rfl); k_whole; intro L' h' F' N' l1; (try k_lt l1); (try dsimp only); (try k_fold)))
  refine Exists.elim (hE _) fun pl he => MethodCall_ (pl := pl) ?_ he
  k_steps
  repeat (any_goals (refine Stop.mk ?_; first | ((with_reducible show wpAny _ _ (call (Value.ref 91) [Value.ref _, Value.bytes _ _]) _ _ _); refine wpAny_call ?_; k_dflt (refine' cte_use (er_write (hst := ?phst) ..) ?cB ?cF ?cX ?cN ?cT ?cA ?cG ?cK ?cs ?cd ?cu ?ch ?_; (case cA => exact rfl); (case cG => exact rfl); (case cK => exact rfl); (case cF => k_asm); (case cB => k_asm); (case cX => k_asm); (case cN => k_asm); (case cT => k_asm); (case cs => ((try dsimp only); repeat (first | exact List.forall_mem_nil _ | (refine' memCons ?cta ?_; (case cta => k_mem); (try dsimp only))))); (case phst => (repeat' (first | ((try dsimp only); (with_reducible show @Eq Bool _ _); (first | exact rfl | (refine decide_eq_true ?ctc; (case ctc => omega)) | (refine decide_eq_false ?ctc; (case ctc => omega)) | (refine decide_eq_decide.mpr ?ctc; (case ctc => omega)) | (refine (decide_eq_true ?ctc).symm; (case ctc => omega)) | (refine (decide_eq_false ?ctc).symm; (case ctc => omega)) | (refine Bool.eq_iff_iff.mpr ?ctc; (case ctc => ((simp only [decide_eq_true_eq, beq_iff_eq, bne_iff_ne, ne_eq, List.size_toArray, List.length_cons, List.length_nil, true_and, Bool.false_eq_true, false_and, or_false, Bool.or_eq_true, Bool.and_eq_true]); omega))) | (subst_vars; (first | exact rfl | (refine Bool.eq_iff_iff.mpr ?ctc; (case ctc => ((simp only [decide_eq_true_eq, beq_iff_eq, bne_iff_ne, ne_eq, List.size_toArray, List.length_cons, List.length_nil, true_and, Bool.false_eq_true, false_and, or_false, Bool.or_eq_true, Bool.and_eq_true]); omega))) | (simp; done) | (simp; omega))) | (simp; done) | (simp; omega))) | exact True.intro | exact rfl | (intro _; omega) | (intro ctZ; cases ctZ; done) | (dsimp only; done) | ((try dsimp only); first | with_reducible assumption | (refine And.intro ?_ ?_) | (refine Apart.of ?_; k_ne) | exact Or.inl rfl | (refine Or.inr ?_) | exact rfl | omega)))); (case cd => k_room); (case cu => (((try simp only [units_in1, units_deeper, units_caller, Around.mark_units, units_make]); first | omega | (simp only [cLine_is]; omega)))); (case ch => (first | assumption | (with_unfolding_all assumption) | exact rfl))); intro e' dx' o' h' tk' hQ' R' hns'; (try dsimp only)) | (k_dflt (refine' flew_on ?Kz0 ?Fz0 ?Rz0 ?fz0 ?_; (case Rz0 => with_reducible assumption); (case Kz0 => k_asm); (case Fz0 => k_asm); (case fz0 => exact rfl)); intro h' R')); (try k_steps))
  all_goals exact hO _ _ _ _ _ (by with_reducible assumption) (by with_reducible assumption)
theorem er_lam1 (w : World) (f c' cell x dx : Addr) (K : PK) (pm ctv : Value) (qual : Str) (oc co : Obj) (vs : Array Value) (t : Tok) (p1 p2 p3 p4 : Pos) (st : Str) (t1 : Tok) (v0 v2 v3 v4 v5 v7 v8 v9 va : Value)
    (hE : LamE p1 p2 p3 p4) (hoc : oc.data = .fields vs) (hv : vs[1]? = some (.str qual t)) (hco : co.data = .cell (some (.ref x))) (hst : st = "ready" ∨ st = "send") :
    CtE w 20 (.ref f) [] [(f, kla_obj "<lambda>" qual lamPars (lamBody p1 p2 p3 p4) lamScope [("part", cell)] pm c' ctv), (c', oc), (cell, co), (x, instObj 192 dx), (dx, pD K v0 (.str st t1) v2 v3 v4 v5 (.bool true) v7 v8 v9 va)] := by
  dsimp only [LamE, lamBody, lamPars, lamScope] at hE ⊢
  refine CtE.mk ?_
  intro p loose mean mg mb dp un gd base g env outer s R B kg sz X T N hd hu hO
  revert X; k_fill; intro X
  (k_dflt (refine' ct_lam ?k1 ?ka ?kb ?k5 ?k4 ?k6 ?k7 ?k7a ?k7b ?k8 ?k9 ?kB ?_ ?c2 ?c3 ?c4 ?c5; (case k1 => assumption); (case ka => assumption); (case kb => assumption); (case k5 => assumption); (case k4 => assumption); (case k6 => k_mem); (case k7 => k_mem); (case k7a => assumption); (case k7b => assumption); (case k8 => k_room); (case k9 => exact rfl); (case c5 => decide); (case kB => exact locs rfl); (case c2 => exact rfl); (case c3 => exact rfl); (case c4 => exact rfl); k_whole; intro L' h' F' N' l1; (try k_lt l1); (try dsimp only); (try k_fold)))
  refine Exists.elim (hE _) fun pl he => MethodCall_ (pl := pl) ?_ he
  k_steps
  repeat (any_goals (refine Stop.mk ?_; first | ((with_reducible show wpAny _ _ (call (Value.ref 91) [Value.ref _, Value.bytes _ _]) _ _ _); refine wpAny_call ?_; k_dflt (refine' cte_use (er_write1 (hst := ?phst) ..) ?cB ?cF ?cX ?cN ?cT ?cA ?cG ?cK ?cs ?cd ?cu ?ch ?_; (case cA => exact rfl); (case cG => exact rfl); (case cK => exact rfl); (case cF => k_asm); (case cB => k_asm); (case cX => k_asm); (case cN => k_asm); (case cT => k_asm); (case cs => ((try dsimp only); repeat (first | exact List.forall_mem_nil _ | (refine' memCons ?cta ?_; (case cta => k_mem); (try dsimp only))))); (case phst => (repeat' (first | ((try dsimp only); (with_reducible show @Eq Bool _ _); (first | exact rfl | (refine decide_eq_true ?ctc; (case ctc => omega)) | (refine decide_eq_false ?ctc; (case ctc => omega)) | (refine decide_eq_decide.mpr ?ctc; (case ctc => omega)) | (refine (decide_eq_true ?ctc).symm; (case ctc => omega)) | (refine (decide_eq_false ?ctc).symm; (case ctc => omega)) | (refine Bool.eq_iff_iff.mpr ?ctc; (case ctc => ((simp only [decide_eq_true_eq, beq_iff_eq, bne_iff_ne, ne_eq, List.size_toArray, List.length_cons, List.length_nil, true_and, Bool.false_eq_true, false_and, or_false, Bool.or_eq_true, Bool.and_eq_true]); omega))) | (subst_vars; (first | exact rfl | (refine Bool.eq_iff_iff.mpr ?ctc; (case ctc => ((simp only [decide_eq_true_eq, beq_iff_eq, bne_iff_ne, ne_eq, List.size_toArray, List.length_cons, List.length_nil, true_and, Bool.false_eq_true, false_and, or_false, Bool.or_eq_true, Bool.and_eq_true]); omega))) | (simp; done) | (simp; omega))) | (simp; done) | (simp; omega))) | exact True.intro | exact rfl | (intro _; omega) | (intro ctZ; cases ctZ; done) | (dsimp only; done) | ((try dsimp only); first | with_reducible assumption | (refine And.intro ?_ ?_) | (refine Apart.of ?_; k_ne) | exact Or.inl rfl | (refine Or.inr ?_) | exact rfl | omega)))); (case cd => k_room); (case cu => (((try simp only [units_in1, units_deeper, units_caller, Around.mark_units, units_make]); first | omega | (simp only [cLine_is]; omega)))); (case ch => (first | assumption | (with_unfolding_all assumption) | exact rfl))); intro e' dx' o' h' tk' hQ' R' hns'; (try dsimp only)) | (k_dflt (refine' flew_on ?Kz0 ?Fz0 ?Rz0 ?fz0 ?_; (case Rz0 => with_reducible assumption); (case Kz0 => k_asm); (case Fz0 => k_asm); (case fz0 => exact rfl)); intro h' R')); (try k_steps))
  all_goals exact hO _ _ _ _ _ (by with_reducible assumption) (by with_reducible assumption)
theorem ct_lamO (w : World) (f c' cell x dx : Addr) (K : PK) (pm ctv : Value) (qual : Str) (oc co : Obj) (vs : Array Value) (t : Tok) (p1 p2 p3 p4 : Pos) (st : Str) (t1 t2 : Tok) (v0 v3 v4 v5 v7 v8 v9 va : Value)
    (hE : LamE p1 p2 p3 p4) (hoc : oc.data = .fields vs) (hv : vs[1]? = some (.str qual t)) (hco : co.data = .cell (some (.ref x))) (hst : st = "ready" ∨ st = "send")
    (hap : Apart dx x) (h1 : Apart f x) (h2 : Apart f dx) (h3 : Apart c' x) (h4 : Apart c' dx) (h5 : Apart cell x) (h6 : Apart cell dx) :
    Ct w 20 (.ref f) [] [(f, kla_obj "<lambda>" qual lamPars (lamBody p1 p2 p3 p4) lamScope [("part", cell)] pm c' ctv), (c', oc), (cell, co), (x, instObj 192 dx), (dx, pD K v0 (.str st t1) (.bytes abcd t2) v3 v4 v5 (.bool false) v7 v8 v9 va)] Tok (fun _ => .none)
      (fun z => [(f, kla_obj "<lambda>" qual lamPars (lamBody p1 p2 p3 p4) lamScope [("part", cell)] pm c' ctv), (c', oc), (cell, co), (x, instObj 192 dx), (dx, pD K v0 (.str st t1) (.bytes #[97, 98, 99, 100, 120] z) v3 v4 v5 (.bool false) v7 v8 v9 va)]) (fun _ => []) (fun _ => True) := by
  dsimp only [LamE, lamBody, lamPars, lamScope] at hE ⊢
  refine Ct.mk ?_
  intro p loose mean mg mb dp un gd base g env outer s R B kg sz X T N hd hu hO
  revert X; k_fill; intro X
  (k_dflt (refine' ct_lam ?k1 ?ka ?kb ?k5 ?k4 ?k6 ?k7 ?k7a ?k7b ?k8 ?k9 ?kB ?_ ?c2 ?c3 ?c4 ?c5; (case k1 => assumption); (case ka => assumption); (case kb => assumption); (case k5 => assumption); (case k4 => assumption); (case k6 => k_mem); (case k7 => k_mem); (case k7a => assumption); (case k7b => assumption); (case k8 => k_room); (case k9 => exact rfl); (case c5 => decide); (case kB => exact locs rfl); (case c2 => exact rfl); (case c3 => exact rfl); (case c4 => exact rfl); k_whole; intro L' h' F' N' l1; (try k_lt l1); (try dsimp only); (try k_fold)))
  refine Exists.elim (hE _) fun pl he => MethodCall_ (pl := pl) ?_ he
  k_steps
  repeat (any_goals (refine Stop.mk ?_; first | ((with_reducible show wpAny _ _ (call (Value.ref 91) [Value.ref _, Value.bytes _ _]) _ _ _); refine wpAny_call ?_; k_dflt (refine' ct_use (ct_write1 (hap := ?phap) (hst := ?phst) ..) ?cB ?cF ?cX ?cN ?cT ?cA ?cG ?cK ?cs ?cr ?cd ?cu ?ch ?_; (case cA => exact rfl); (case cG => exact rfl); (case cK => exact rfl); (case cF => k_asm); (case cB => k_asm); (case cX => k_asm); (case cN => k_asm); (case cT => k_asm); (case cs => ((try dsimp only); repeat (first | exact List.forall_mem_nil _ | (refine' memCons ?cta ?_; (case cta => k_mem); (try dsimp only))))); (case phap => (repeat' (first | ((try dsimp only); (with_reducible show @Eq Bool _ _); (first | exact rfl | (refine decide_eq_true ?ctc; (case ctc => omega)) | (refine decide_eq_false ?ctc; (case ctc => omega)) | (refine decide_eq_decide.mpr ?ctc; (case ctc => omega)) | (refine (decide_eq_true ?ctc).symm; (case ctc => omega)) | (refine (decide_eq_false ?ctc).symm; (case ctc => omega)) | (refine Bool.eq_iff_iff.mpr ?ctc; (case ctc => ((simp only [decide_eq_true_eq, beq_iff_eq, bne_iff_ne, ne_eq, List.size_toArray, List.length_cons, List.length_nil, true_and, Bool.false_eq_true, false_and, or_false, Bool.or_eq_true, Bool.and_eq_true]); omega))) | (subst_vars; (first | exact rfl | (refine Bool.eq_iff_iff.mpr ?ctc; (case ctc => ((simp only [decide_eq_true_eq, beq_iff_eq, bne_iff_ne, ne_eq, List.size_toArray, List.length_cons, List.length_nil, true_and, Bool.false_eq_true, false_and, or_false, Bool.or_eq_true, Bool.and_eq_true]); omega))) | (simp; done) | (simp; omega))) | (simp; done) | (simp; omega))) | exact True.intro | exact rfl | (intro _; omega) | (intro ctZ; cases ctZ; done) | (dsimp only; done) | ((try dsimp only); first | with_reducible assumption | (refine And.intro ?_ ?_) | (refine Apart.of ?_; k_ne) | exact Or.inl rfl | (refine Or.inr ?_) | exact rfl | omega)))); (case phst => (repeat' (first | ((try dsimp only); (with_reducible show @Eq Bool _ _); (first | exact rfl | (refine decide_eq_true ?ctc; (case ctc => omega)) | (refine decide_eq_false ?ctc; (case ctc => omega)) | (refine decide_eq_decide.mpr ?ctc; (case ctc => omega)) | (refine (decide_eq_true ?ctc).symm; (case ctc => omega)) | (refine (decide_eq_false ?ctc).symm; (case ctc => omega)) | (refine Bool.eq_iff_iff.mpr ?ctc; (case ctc => ((simp only [decide_eq_true_eq, beq_iff_eq, bne_iff_ne, ne_eq, List.size_toArray, List.length_cons, List.length_nil, true_and, Bool.false_eq_true, false_and, or_false, Bool.or_eq_true, Bool.and_eq_true]); omega))) | (subst_vars; (first | exact rfl | (refine Bool.eq_iff_iff.mpr ?ctc; (case ctc => ((simp only [decide_eq_true_eq, beq_iff_eq, bne_iff_ne, ne_eq, List.size_toArray, List.length_cons, List.length_nil, true_and, Bool.false_eq_true, false_and, or_false, Bool.or_eq_true, Bool.and_eq_true]); omega))) | (simp; done) | (simp; omega))) | (simp; done) | (simp; omega))) | exact True.intro | exact rfl | (intro _; omega) | (intro ctZ; cases ctZ; done) | (dsimp only; done) | ((try dsimp only); first | with_reducible assumption | (refine And.intro ?_ ?_) | (refine Apart.of ?_; k_ne) | exact Or.inl rfl | (refine Or.inr ?_) | exact rfl | omega)))); (case cr => ((try simp only [List.map_cons, List.map_nil]); (repeat ((try ((with_reducible show List _); rotate_left)); first | exact Rst.nil | (refine' Rst.drop' ?ctm ?_; (case ctm => k_mem)) | (refine' Rst.keep ?ctn ?_; (case ctn => (repeat (first | exact List.forall_mem_nil _ | (refine' memCons ?cta ?_; (case cta => k_ne)))))) | (refine' Rst.drop ?_))))); (case cd => k_room); (case cu => (((try simp only [units_in1, units_deeper, units_caller, Around.mark_units, units_make]); first | omega | (simp only [cLine_is]; omega)))); (case ch => (first | assumption | (with_unfolding_all assumption) | exact rfl))); rintro z1 h' tk' F' N' hX' hY'; (try dsimp only at N' hX' hY'); (try dsimp only); (try simp only [List.cons_append, List.nil_append, List.append_nil] at N'); (try simp only [AllAparts, Aparts, and_true] at hX'); (try k_sweep); (repeat ((rename And _ _ => hAnd9); (have hA9 := hAnd9.1); (have hB9 := hAnd9.2); (clear hAnd9)))) | (k_dflt (refine' flew_on ?Kz0 ?Fz0 ?Rz0 ?fz0 ?_; (case Rz0 => with_reducible assumption); (case Kz0 => k_asm); (case Fz0 => k_asm); (case fz0 => exact rfl)); intro h' R')); (try k_steps))
  all_goals try dsimp only
  all_goals (refine' ct_fin ?cF ?cN ?cS ?cR ?cA (hO (_) _ _); (case cF => k_asm); (case cN => k_asm); (case cS => ((try dsimp only); repeat (first | exact List.forall_mem_nil _ | (refine' memCons ?cta ?_; (case cta => k_mem); (try dsimp only))))); (case cR => ((try dsimp only); repeat (first | exact List.forall_mem_nil _ | (intro ctA ctH; cases ctH; done) | (refine' memCons ⟨_, ?cta⟩ ?_; (case cta => k_mem); (try dsimp only))))); (case cA => (repeat' (first | ((try dsimp only); (with_reducible show @Eq Bool _ _); (first | exact rfl | (refine decide_eq_true ?ctc; (case ctc => omega)) | (refine decide_eq_false ?ctc; (case ctc => omega)) | (refine decide_eq_decide.mpr ?ctc; (case ctc => omega)) | (refine (decide_eq_true ?ctc).symm; (case ctc => omega)) | (refine (decide_eq_false ?ctc).symm; (case ctc => omega)) | (refine Bool.eq_iff_iff.mpr ?ctc; (case ctc => ((simp only [decide_eq_true_eq, beq_iff_eq, bne_iff_ne, ne_eq, List.size_toArray, List.length_cons, List.length_nil, true_and, Bool.false_eq_true, false_and, or_false, Bool.or_eq_true, Bool.and_eq_true]); omega))) | (subst_vars; (first | exact rfl | (refine Bool.eq_iff_iff.mpr ?ctc; (case ctc => ((simp only [decide_eq_true_eq, beq_iff_eq, bne_iff_ne, ne_eq, List.size_toArray, List.length_cons, List.length_nil, true_and, Bool.false_eq_true, false_and, or_false, Bool.or_eq_true, Bool.and_eq_true]); omega))) | (simp; done) | (simp; omega))) | (simp; done) | (simp; omega))) | exact True.intro | exact rfl | (intro _; omega) | (intro ctZ; cases ctZ; done) | (dsimp only; done) | ((try dsimp only); first | with_reducible assumption | (refine And.intro ?_ ?_) | (refine Apart.of ?_; k_ne) | exact Or.inl rfl | (refine Or.inr ?_) | exact rfl | omega)))))
end

local macro_rules | `(tactic| walk_at "getAttr ref") => `(tactic| (k_here; (with_reducible show wpAny _ _ (getAttr (Value.ref _) (Str.ofString "code") _) _ _ _); refine Stop.out ?_))
local macro_rules | `(tactic| walk_at "getAttr ref") => `(tactic| (k_here; (with_reducible show wpAny _ _ (getAttr (Value.ref _) (Str.ofString "frame_type") _) _ _ _); refine Stop.out ?_))
local macro_rules | `(tactic| walk_at "noteFrame ref") => `(tactic| (k_here; refine Stop.out ?_))
local macro_rules | `(tactic| walk_at "call ref") => `(tactic| (k_here; refine Stop.out ?_))
local macro_rules | `(tactic| walk_at "no such step") => `(tactic| fail "no such step")
local macro_rules | `(tactic| walk_at "no such step") => `(tactic| fail "no such step")

section
open PySem PySem.W PyProof.Rows PySem.Calls
theorem told_lam (w : World) (f c' cell x dx : Addr) (K : PK) (pm ctv : Value) (qual : Str) (oc co : Obj) (vs : Array Value) (t : Tok) (p1 p2 p3 p4 : Pos) (st : Str) (t1 : Tok) (v0 v2 v3 v4 v5 v6 v7 v8 v9 va : Value)
    (hE : LamE p1 p2 p3 p4) (hoc : oc.data = .fields vs) (hv : vs[1]? = some (.str qual t)) (hco : co.data = .cell (some (.ref x))) (hst : st = "data_sent" ∨ st = "data_recvd" ∨ st = "reset_sent" ∨ st = "reset_recvd") :
    CtW w 30 (.ref 224) [.ref f] [(f, kla_obj "<lambda>" qual lamPars (lamBody p1 p2 p3 p4) lamScope [("part", cell)] pm c' ctv), (c', oc), (cell, co), (x, instObj 192 dx), (dx, pD K v0 (.str st t1) v2 v3 v4 v5 v6 v7 v8 v9 va)] (Addr × Tok × Tok × Tok × Nat) (fun z => .ref z.1)
      (fun z => [(z.1, { cls := .type "tuple", data := .seq #[.str "refused" z.2.1, .int 5 z.2.2.1, .int 0 z.2.2.2.1] z.2.2.2.2 }), (cell, co), (x, instObj 192 dx), (dx, pD K v0 (.str st t1) v2 v3 v4 v5 v6 v7 v8 v9 va)]) (fun z => [z.1]) (fun z => Apart cell z.1 ∧ Apart x z.1 ∧ Apart dx z.1) := by
  refine CtW.mk ?_
  intro p loose mean mg mb dp un gd base g env outer s R B kg sz X T XB TB HB N hd hu hO
  revert X XB; k_fill; intro X XB
  (k_dflt (refine' ct_code ?k1 ?ka ?kb ?k3 ?k5 ?k4 ?k6 ?k7 ?k8 ?k9 ?kB ?_ ?c2 ?c3 ?c4 ?c5; (case k1 => assumption); (case ka => assumption); (case kb => assumption); (case k3 => assumption); (case k5 => assumption); (case k4 => assumption); (case k6 => k_is); (case k7 => k_is); (case k8 => k_room); (case k9 => exact BindsTo.of_eq rfl); (case c5 => decide); (case kB => exact locs rfl); (case c2 => exact rfl); (case c3 => exact rfl); (case c4 => exact rfl); k_whole; intro L' h' F' N' l1; (try k_lt l1); (try dsimp only); (try k_fold)))
  k_steps
  repeat (any_goals (refine Stop.mk ?_; first | ((with_reducible show wpAny _ _ (call (Value.ref _) []) _ _ _); refine wpAny_call ?_; k_dflt (refine' cte_use (er_lam (hE := ?phE) (hoc := ?phoc) (hv := ?phv) (hco := ?phco) (hst := ?phst) ..) ?cB ?cF ?cX ?cN ?cT ?cA ?cG ?cK ?cs ?cd ?cu ?ch ?_; (case cA => exact rfl); (case cG => exact rfl); (case cK => exact rfl); (case cF => k_asm); (case cB => k_asm); (case cX => k_asm); (case cN => k_asm); (case cT => k_asm); (case cs => ((try dsimp only); repeat (first | exact List.forall_mem_nil _ | (refine' memCons ?cta ?_; (case cta => k_mem); (try dsimp only))))); (case phE => with_reducible assumption); (case phoc => with_reducible assumption); (case phv => with_reducible assumption); (case phco => with_reducible assumption); (case phst => with_reducible assumption); (case cd => k_room); (case cu => (((try simp only [units_in1, units_deeper, units_caller, Around.mark_units, units_make]); first | omega | (simp only [cLine_is]; omega)))); (case ch => (first | assumption | (with_unfolding_all assumption) | exact rfl))); intro e' dx' o' h' tk' hQ' R' hns'; (try dsimp only)) | ((with_reducible show wpAny _ _ (getAttr (Value.ref _) (Str.ofString "code") _) _ _ _); k_dflt (refine' exc_code ?Fz0 ?Xz0 ?Nz0 ?mz0 ?m2z0 ?cz0 ?dz0 ?vz0 ?qz0 ?_; (case Fz0 => k_asm); (case Xz0 => k_asm); (case Nz0 => k_asm); (case cz0 => with_reducible assumption); (case dz0 => with_reducible assumption); (case vz0 => with_reducible assumption); (case qz0 => with_reducible assumption); (case mz0 => k_mem); (case m2z0 => k_mem)); intro t') | ((with_reducible show wpAny _ _ (getAttr (Value.ref _) (Str.ofString "frame_type") _) _ _ _); k_dflt (refine' exc_frame ?Fz1 ?Xz1 ?Nz1 ?mz1 ?m2z1 ?cz1 ?dz1 ?vz1 ?qz1 ?_; (case Fz1 => k_asm); (case Xz1 => k_asm); (case Nz1 => k_asm); (case cz1 => with_reducible assumption); (case dz1 => with_reducible assumption); (case vz1 => with_reducible assumption); (case qz1 => with_reducible assumption); (case mz1 => k_mem); (case m2z1 => k_mem)); intro t') | (k_dflt (refine' caught_Q ?Kz2 ?hnz2 ?haz2 ?Rz2 ?XBz2 ?TBz2 ?exz2 ?_ ?h1z2 ?h2z2 ?h3z2 ?h4z2; (case Rz2 => with_reducible assumption); (case Kz2 => k_asm); (case hnz2 => with_reducible assumption); (case haz2 => exact Fr.above (by k_asm)); (case XBz2 => with_reducible assumption); (case TBz2 => with_reducible assumption); (case exz2 => k_is); (case h1z2 => exact rfl); (case h2z2 => exact rfl); (case h3z2 => exact rfl); (case h4z2 => decide)); intro h' g' oe' vs' tk' KT' F' N' hc' hd' hv' B' X' T')); (try k_steps))
  all_goals try dsimp only
  all_goals (refine' ctw_fin ?cT ?cF ?cN ?cS ?cR ?cA (hO (⟨_, _, _, _, _⟩) _ _); (case cF => k_asm); (case cN => k_asm); (case cT => (repeat (first | with_reducible assumption | exact KtsTurn.refl | (refine' KtsTurn.trans ?cta ?_; (case cta => with_reducible assumption))))); (case cS => ((try dsimp only); repeat (first | exact List.forall_mem_nil _ | (refine' memCons ?cta ?_; (case cta => k_mem); (try dsimp only))))); (case cR => ((try dsimp only); repeat (first | exact List.forall_mem_nil _ | (intro ctA ctH; cases ctH; done) | (refine' memCons ⟨_, ?cta⟩ ?_; (case cta => k_mem); (try dsimp only))))); (case cA => (repeat' (first | ((try dsimp only); (with_reducible show @Eq Bool _ _); (first | exact rfl | (refine decide_eq_true ?ctc; (case ctc => omega)) | (refine decide_eq_false ?ctc; (case ctc => omega)) | (refine decide_eq_decide.mpr ?ctc; (case ctc => omega)) | (refine (decide_eq_true ?ctc).symm; (case ctc => omega)) | (refine (decide_eq_false ?ctc).symm; (case ctc => omega)) | (refine Bool.eq_iff_iff.mpr ?ctc; (case ctc => ((simp only [decide_eq_true_eq, beq_iff_eq, bne_iff_ne, ne_eq, List.size_toArray, List.length_cons, List.length_nil, true_and, Bool.false_eq_true, false_and, or_false, Bool.or_eq_true, Bool.and_eq_true]); omega))) | (subst_vars; (first | exact rfl | (refine Bool.eq_iff_iff.mpr ?ctc; (case ctc => ((simp only [decide_eq_true_eq, beq_iff_eq, bne_iff_ne, ne_eq, List.size_toArray, List.length_cons, List.length_nil, true_and, Bool.false_eq_true, false_and, or_false, Bool.or_eq_true, Bool.and_eq_true]); omega))) | (simp; done) | (simp; omega))) | (simp; done) | (simp; omega))) | exact True.intro | exact rfl | (intro _; omega) | (intro ctZ; cases ctZ; done) | (dsimp only; done) | ((try dsimp only); first | with_reducible assumption | (refine And.intro ?_ ?_) | (refine Apart.of ?_; k_ne) | exact Or.inl rfl | (refine Or.inr ?_) | exact rfl | omega)))))
theorem told_lam1 (w : World) (f c' cell x dx : Addr) (K : PK) (pm ctv : Value) (qual : Str) (oc co : Obj) (vs : Array Value) (t : Tok) (p1 p2 p3 p4 : Pos) (st : Str) (t1 : Tok) (v0 v2 v3 v4 v5 v7 v8 v9 va : Value)
    (hE : LamE p1 p2 p3 p4) (hoc : oc.data = .fields vs) (hv : vs[1]? = some (.str qual t)) (hco : co.data = .cell (some (.ref x))) (hst : st = "ready" ∨ st = "send") :
    CtW w 30 (.ref 224) [.ref f] [(f, kla_obj "<lambda>" qual lamPars (lamBody p1 p2 p3 p4) lamScope [("part", cell)] pm c' ctv), (c', oc), (cell, co), (x, instObj 192 dx), (dx, pD K v0 (.str st t1) v2 v3 v4 v5 (.bool true) v7 v8 v9 va)] (Addr × Tok × Tok × Tok × Nat) (fun z => .ref z.1)
      (fun z => [(z.1, { cls := .type "tuple", data := .seq #[.str "refused" z.2.1, .int 5 z.2.2.1, .int 0 z.2.2.2.1] z.2.2.2.2 }), (cell, co), (x, instObj 192 dx), (dx, pD K v0 (.str st t1) v2 v3 v4 v5 (.bool true) v7 v8 v9 va)]) (fun z => [z.1]) (fun z => Apart cell z.1 ∧ Apart x z.1 ∧ Apart dx z.1) := by
  refine CtW.mk ?_
  intro p loose mean mg mb dp un gd base g env outer s R B kg sz X T XB TB HB N hd hu hO
  revert X XB; k_fill; intro X XB
  (k_dflt (refine' ct_code ?k1 ?ka ?kb ?k3 ?k5 ?k4 ?k6 ?k7 ?k8 ?k9 ?kB ?_ ?c2 ?c3 ?c4 ?c5; (case k1 => assumption); (case ka => assumption); (case kb => assumption); (case k3 => assumption); (case k5 => assumption); (case k4 => assumption); (case k6 => k_is); (case k7 => k_is); (case k8 => k_room); (case k9 => exact BindsTo.of_eq rfl); (case c5 => decide); (case kB => exact locs rfl); (case c2 => exact rfl); (case c3 => exact rfl); (case c4 => exact rfl); k_whole; intro L' h' F' N' l1; (try k_lt l1); (try dsimp only); (try k_fold)))
  k_steps
  repeat (any_goals (refine Stop.mk ?_; first | ((with_reducible show wpAny _ _ (call (Value.ref _) []) _ _ _); refine wpAny_call ?_; k_dflt (refine' cte_use (er_lam1 (hE := ?phE) (hoc := ?phoc) (hv := ?phv) (hco := ?phco) (hst := ?phst) ..) ?cB ?cF ?cX ?cN ?cT ?cA ?cG ?cK ?cs ?cd ?cu ?ch ?_; (case cA => exact rfl); (case cG => exact rfl); (case cK => exact rfl); (case cF => k_asm); (case cB => k_asm); (case cX => k_asm); (case cN => k_asm); (case cT => k_asm); (case cs => ((try dsimp only); repeat (first | exact List.forall_mem_nil _ | (refine' memCons ?cta ?_; (case cta => k_mem); (try dsimp only))))); (case phE => with_reducible assumption); (case phoc => with_reducible assumption); (case phv => with_reducible assumption); (case phco => with_reducible assumption); (case phst => with_reducible assumption); (case cd => k_room); (case cu => (((try simp only [units_in1, units_deeper, units_caller, Around.mark_units, units_make]); first | omega | (simp only [cLine_is]; omega)))); (case ch => (first | assumption | (with_unfolding_all assumption) | exact rfl))); intro e' dx' o' h' tk' hQ' R' hns'; (try dsimp only)) | ((with_reducible show wpAny _ _ (getAttr (Value.ref _) (Str.ofString "code") _) _ _ _); k_dflt (refine' exc_code ?Fz0 ?Xz0 ?Nz0 ?mz0 ?m2z0 ?cz0 ?dz0 ?vz0 ?qz0 ?_; (case Fz0 => k_asm); (case Xz0 => k_asm); (case Nz0 => k_asm); (case cz0 => with_reducible assumption); (case dz0 => with_reducible assumption); (case vz0 => with_reducible assumption); (case qz0 => with_reducible assumption); (case mz0 => k_mem); (case m2z0 => k_mem)); intro t') | ((with_reducible show wpAny _ _ (getAttr (Value.ref _) (Str.ofString "frame_type") _) _ _ _); k_dflt (refine' exc_frame ?Fz1 ?Xz1 ?Nz1 ?mz1 ?m2z1 ?cz1 ?dz1 ?vz1 ?qz1 ?_; (case Fz1 => k_asm); (case Xz1 => k_asm); (case Nz1 => k_asm); (case cz1 => with_reducible assumption); (case dz1 => with_reducible assumption); (case vz1 => with_reducible assumption); (case qz1 => with_reducible assumption); (case mz1 => k_mem); (case m2z1 => k_mem)); intro t') | (k_dflt (refine' caught_Q ?Kz2 ?hnz2 ?haz2 ?Rz2 ?XBz2 ?TBz2 ?exz2 ?_ ?h1z2 ?h2z2 ?h3z2 ?h4z2; (case Rz2 => with_reducible assumption); (case Kz2 => k_asm); (case hnz2 => with_reducible assumption); (case haz2 => exact Fr.above (by k_asm)); (case XBz2 => with_reducible assumption); (case TBz2 => with_reducible assumption); (case exz2 => k_is); (case h1z2 => exact rfl); (case h2z2 => exact rfl); (case h3z2 => exact rfl); (case h4z2 => decide)); intro h' g' oe' vs' tk' KT' F' N' hc' hd' hv' B' X' T')); (try k_steps))
  all_goals try dsimp only
  all_goals (refine' ctw_fin ?cT ?cF ?cN ?cS ?cR ?cA (hO (⟨_, _, _, _, _⟩) _ _); (case cF => k_asm); (case cN => k_asm); (case cT => (repeat (first | with_reducible assumption | exact KtsTurn.refl | (refine' KtsTurn.trans ?cta ?_; (case cta => with_reducible assumption))))); (case cS => ((try dsimp only); repeat (first | exact List.forall_mem_nil _ | (refine' memCons ?cta ?_; (case cta => k_mem); (try dsimp only))))); (case cR => ((try dsimp only); repeat (first | exact List.forall_mem_nil _ | (intro ctA ctH; cases ctH; done) | (refine' memCons ⟨_, ?cta⟩ ?_; (case cta => k_mem); (try dsimp only))))); (case cA => (repeat' (first | ((try dsimp only); (with_reducible show @Eq Bool _ _); (first | exact rfl | (refine decide_eq_true ?ctc; (case ctc => omega)) | (refine decide_eq_false ?ctc; (case ctc => omega)) | (refine decide_eq_decide.mpr ?ctc; (case ctc => omega)) | (refine (decide_eq_true ?ctc).symm; (case ctc => omega)) | (refine (decide_eq_false ?ctc).symm; (case ctc => omega)) | (refine Bool.eq_iff_iff.mpr ?ctc; (case ctc => ((simp only [decide_eq_true_eq, beq_iff_eq, bne_iff_ne, ne_eq, List.size_toArray, List.length_cons, List.length_nil, true_and, Bool.false_eq_true, false_and, or_false, Bool.or_eq_true, Bool.and_eq_true]); omega))) | (subst_vars; (first | exact rfl | (refine Bool.eq_iff_iff.mpr ?ctc; (case ctc => ((simp only [decide_eq_true_eq, beq_iff_eq, bne_iff_ne, ne_eq, List.size_toArray, List.length_cons, List.length_nil, true_and, Bool.false_eq_true, false_and, or_false, Bool.or_eq_true, Bool.and_eq_true]); omega))) | (simp; done) | (simp; omega))) | (simp; done) | (simp; omega))) | exact True.intro | exact rfl | (intro _; omega) | (intro ctZ; cases ctZ; done) | (dsimp only; done) | ((try dsimp only); first | with_reducible assumption | (refine And.intro ?_ ?_) | (refine Apart.of ?_; k_ne) | exact Or.inl rfl | (refine Or.inr ?_) | exact rfl | omega)))))
theorem told_lamO (w : World) (f c' cell x dx : Addr) (K : PK) (pm ctv : Value) (qual : Str) (oc co : Obj) (vs : Array Value) (t : Tok) (p1 p2 p3 p4 : Pos) (st : Str) (t1 t2 : Tok) (v0 v3 v4 v5 v7 v8 v9 va : Value)
    (hE : LamE p1 p2 p3 p4) (hoc : oc.data = .fields vs) (hv : vs[1]? = some (.str qual t)) (hco : co.data = .cell (some (.ref x))) (hst : st = "ready" ∨ st = "send")
    (hap : Apart dx x) (h1 : Apart f x) (h2 : Apart f dx) (h3 : Apart c' x) (h4 : Apart c' dx) (h5 : Apart cell x) (h6 : Apart cell dx) :
    CtW w 30 (.ref 224) [.ref f] [(f, kla_obj "<lambda>" qual lamPars (lamBody p1 p2 p3 p4) lamScope [("part", cell)] pm c' ctv), (c', oc), (cell, co), (x, instObj 192 dx), (dx, pD K v0 (.str st t1) (.bytes abcd t2) v3 v4 v5 (.bool false) v7 v8 v9 va)] Tok (fun _ => .none)
      (fun z => [(cell, co), (x, instObj 192 dx), (dx, pD K v0 (.str st t1) (.bytes #[97, 98, 99, 100, 120] z) v3 v4 v5 (.bool false) v7 v8 v9 va)]) (fun _ => []) (fun _ => True) := by
  refine CtW.mk ?_
  intro p loose mean mg mb dp un gd base g env outer s R B kg sz X T XB TB HB N hd hu hO
  revert X XB; k_fill; intro X XB
  (k_dflt (refine' ct_code ?k1 ?ka ?kb ?k3 ?k5 ?k4 ?k6 ?k7 ?k8 ?k9 ?kB ?_ ?c2 ?c3 ?c4 ?c5; (case k1 => assumption); (case ka => assumption); (case kb => assumption); (case k3 => assumption); (case k5 => assumption); (case k4 => assumption); (case k6 => k_is); (case k7 => k_is); (case k8 => k_room); (case k9 => exact BindsTo.of_eq rfl); (case c5 => decide); (case kB => exact locs rfl); (case c2 => exact rfl); (case c3 => exact rfl); (case c4 => exact rfl); k_whole; intro L' h' F' N' l1; (try k_lt l1); (try dsimp only); (try k_fold)))
  k_steps
  repeat (any_goals (refine Stop.mk ?_; first | ((with_reducible show wpAny _ _ (call (Value.ref _) []) _ _ _); refine wpAny_call ?_; k_dflt (refine' ct_use (ct_lamO (hE := ?phE) (hoc := ?phoc) (hv := ?phv) (hco := ?phco) (hst := ?phst) (hap := ?phap) (h1 := ?ph1) (h2 := ?ph2) (h3 := ?ph3) (h4 := ?ph4) (h5 := ?ph5) (h6 := ?ph6) ..) ?cB ?cF ?cX ?cN ?cT ?cA ?cG ?cK ?cs ?cr ?cd ?cu ?ch ?_; (case cA => exact rfl); (case cG => exact rfl); (case cK => exact rfl); (case cF => k_asm); (case cB => k_asm); (case cX => k_asm); (case cN => k_asm); (case cT => k_asm); (case cs => ((try dsimp only); repeat (first | exact List.forall_mem_nil _ | (refine' memCons ?cta ?_; (case cta => k_mem); (try dsimp only))))); (case phE => with_reducible assumption); (case phoc => with_reducible assumption); (case phv => with_reducible assumption); (case phco => with_reducible assumption); (case phst => with_reducible assumption); (case phap => with_reducible assumption); (case ph1 => with_reducible assumption); (case ph2 => with_reducible assumption); (case ph3 => with_reducible assumption); (case ph4 => with_reducible assumption); (case ph5 => with_reducible assumption); (case ph6 => with_reducible assumption); (case cr => ((try simp only [List.map_cons, List.map_nil]); (repeat ((try ((with_reducible show List _); rotate_left)); first | exact Rst.nil | (refine' Rst.drop' ?ctm ?_; (case ctm => k_mem)) | (refine' Rst.keep ?ctn ?_; (case ctn => (repeat (first | exact List.forall_mem_nil _ | (refine' memCons ?cta ?_; (case cta => k_ne)))))) | (refine' Rst.drop ?_))))); (case cd => k_room); (case cu => (((try simp only [units_in1, units_deeper, units_caller, Around.mark_units, units_make]); first | omega | (simp only [cLine_is]; omega)))); (case ch => (first | assumption | (with_unfolding_all assumption) | exact rfl))); rintro z1 h' tk' F' N' hX' hY'; (try dsimp only at N' hX' hY'); (try dsimp only); (try simp only [List.cons_append, List.nil_append, List.append_nil] at N'); (try simp only [AllAparts, Aparts, and_true] at hX'); (try k_sweep); (repeat ((rename And _ _ => hAnd9); (have hA9 := hAnd9.1); (have hB9 := hAnd9.2); (clear hAnd9)))) | ((with_reducible show wpAny _ _ (getAttr (Value.ref _) (Str.ofString "code") _) _ _ _); k_dflt (refine' exc_code ?Fz0 ?Xz0 ?Nz0 ?mz0 ?m2z0 ?cz0 ?dz0 ?vz0 ?qz0 ?_; (case Fz0 => k_asm); (case Xz0 => k_asm); (case Nz0 => k_asm); (case cz0 => with_reducible assumption); (case dz0 => with_reducible assumption); (case vz0 => with_reducible assumption); (case qz0 => with_reducible assumption); (case mz0 => k_mem); (case m2z0 => k_mem)); intro t') | ((with_reducible show wpAny _ _ (getAttr (Value.ref _) (Str.ofString "frame_type") _) _ _ _); k_dflt (refine' exc_frame ?Fz1 ?Xz1 ?Nz1 ?mz1 ?m2z1 ?cz1 ?dz1 ?vz1 ?qz1 ?_; (case Fz1 => k_asm); (case Xz1 => k_asm); (case Nz1 => k_asm); (case cz1 => with_reducible assumption); (case dz1 => with_reducible assumption); (case vz1 => with_reducible assumption); (case qz1 => with_reducible assumption); (case mz1 => k_mem); (case m2z1 => k_mem)); intro t') | (k_dflt (refine' caught_Q ?Kz2 ?hnz2 ?haz2 ?Rz2 ?XBz2 ?TBz2 ?exz2 ?_ ?h1z2 ?h2z2 ?h3z2 ?h4z2; (case Rz2 => with_reducible assumption); (case Kz2 => k_asm); (case hnz2 => with_reducible assumption); (case haz2 => exact Fr.above (by k_asm)); (case XBz2 => with_reducible assumption); (case TBz2 => with_reducible assumption); (case exz2 => k_is); (case h1z2 => exact rfl); (case h2z2 => exact rfl); (case h3z2 => exact rfl); (case h4z2 => decide)); intro h' g' oe' vs' tk' KT' F' N' hc' hd' hv' B' X' T')); (try k_steps))
  all_goals try dsimp only
  all_goals (refine' ctw_fin ?cT ?cF ?cN ?cS ?cR ?cA (hO (_) _ _); (case cF => k_asm); (case cN => k_asm); (case cT => (repeat (first | with_reducible assumption | exact KtsTurn.refl | (refine' KtsTurn.trans ?cta ?_; (case cta => with_reducible assumption))))); (case cS => ((try dsimp only); repeat (first | exact List.forall_mem_nil _ | (refine' memCons ?cta ?_; (case cta => k_mem); (try dsimp only))))); (case cR => ((try dsimp only); repeat (first | exact List.forall_mem_nil _ | (intro ctA ctH; cases ctH; done) | (refine' memCons ⟨_, ?cta⟩ ?_; (case cta => k_mem); (try dsimp only))))); (case cA => (repeat' (first | ((try dsimp only); (with_reducible show @Eq Bool _ _); (first | exact rfl | (refine decide_eq_true ?ctc; (case ctc => omega)) | (refine decide_eq_false ?ctc; (case ctc => omega)) | (refine decide_eq_decide.mpr ?ctc; (case ctc => omega)) | (refine (decide_eq_true ?ctc).symm; (case ctc => omega)) | (refine (decide_eq_false ?ctc).symm; (case ctc => omega)) | (refine Bool.eq_iff_iff.mpr ?ctc; (case ctc => ((simp only [decide_eq_true_eq, beq_iff_eq, bne_iff_ne, ne_eq, List.size_toArray, List.length_cons, List.length_nil, true_and, Bool.false_eq_true, false_and, or_false, Bool.or_eq_true, Bool.and_eq_true]); omega))) | (subst_vars; (first | exact rfl | (refine Bool.eq_iff_iff.mpr ?ctc; (case ctc => ((simp only [decide_eq_true_eq, beq_iff_eq, bne_iff_ne, ne_eq, List.size_toArray, List.length_cons, List.length_nil, true_and, Bool.false_eq_true, false_and, or_false, Bool.or_eq_true, Bool.and_eq_true]); omega))) | (simp; done) | (simp; omega))) | (simp; done) | (simp; omega))) | exact True.intro | exact rfl | (intro _; omega) | (intro ctZ; cases ctZ; done) | (dsimp only; done) | ((try dsimp only); first | with_reducible assumption | (refine And.intro ?_ ?_) | (refine Apart.of ?_; k_ne) | exact Or.inl rfl | (refine Or.inr ?_) | exact rfl | omega)))))
end

section
open PySem PySem.W PyProof.Rows PySem.Calls
theorem told_metE (w : World) (q x dx : Addr) (K : PK) (st : Str) (t1 : Tok) (v0 v2 v3 v4 v5 v7 v8 v9 va : Value) (v6 : Value) (hst : st = "data_sent" ∨ st = "data_recvd" ∨ st = "reset_sent" ∨ st = "reset_recvd") (hap : Apart dx x) (h1 : Apart q x) (h2 : Apart q dx) :
    CtW w 30 (.ref 224) [.ref q] [(q, methodObj (.ref 98) (.ref x)), (x, instObj 192 dx), (dx, pD K v0 (.str st t1) v2 v3 v4 v5 v6 v7 v8 v9 va)] (Addr × Tok × Tok × Tok × Nat) (fun z => .ref z.1)
      (fun z => [(z.1, { cls := .type "tuple", data := .seq #[.str "refused" z.2.1, .int 5 z.2.2.1, .int 0 z.2.2.2.1] z.2.2.2.2 }), (x, instObj 192 dx), (dx, pD K v0 (.str st t1) v2 v3 v4 v5 v6 v7 v8 v9 va)]) (fun z => [z.1]) (fun z => Apart x z.1 ∧ Apart dx z.1) := by
  refine CtW.mk ?_
  intro p loose mean mg mb dp un gd base g env outer s R B kg sz X T XB TB HB N hd hu hO
  revert X XB; k_fill; intro X XB
  (k_dflt (refine' ct_code ?k1 ?ka ?kb ?k3 ?k5 ?k4 ?k6 ?k7 ?k8 ?k9 ?kB ?_ ?c2 ?c3 ?c4 ?c5; (case k1 => assumption); (case ka => assumption); (case kb => assumption); (case k3 => assumption); (case k5 => assumption); (case k4 => assumption); (case k6 => k_is); (case k7 => k_is); (case k8 => k_room); (case k9 => exact BindsTo.of_eq rfl); (case c5 => decide); (case kB => exact locs rfl); (case c2 => exact rfl); (case c3 => exact rfl); (case c4 => exact rfl); k_whole; intro L' h' F' N' l1; (try k_lt l1); (try dsimp only); (try k_fold)))
  k_steps
  repeat (any_goals (refine Stop.mk ?_; first | ((with_reducible show wpAny _ _ (call (Value.ref _) []) _ _ _); k_dflt (refine' call_meth ?cmN ?cmq ?_; (case cmN => k_asm); (case cmq => k_mem)); k_dflt (refine' cte_use (er_finish (hst := ?phst) ..) ?cB ?cF ?cX ?cN ?cT ?cA ?cG ?cK ?cs ?cd ?cu ?ch ?_; (case cA => exact rfl); (case cG => exact rfl); (case cK => exact rfl); (case cF => k_asm); (case cB => k_asm); (case cX => k_asm); (case cN => k_asm); (case cT => k_asm); (case cs => ((try dsimp only); repeat (first | exact List.forall_mem_nil _ | (refine' memCons ?cta ?_; (case cta => k_mem); (try dsimp only))))); (case phst => (repeat' (first | ((try dsimp only); (with_reducible show @Eq Bool _ _); (first | exact rfl | (refine decide_eq_true ?ctc; (case ctc => omega)) | (refine decide_eq_false ?ctc; (case ctc => omega)) | (refine decide_eq_decide.mpr ?ctc; (case ctc => omega)) | (refine (decide_eq_true ?ctc).symm; (case ctc => omega)) | (refine (decide_eq_false ?ctc).symm; (case ctc => omega)) | (refine Bool.eq_iff_iff.mpr ?ctc; (case ctc => ((simp only [decide_eq_true_eq, beq_iff_eq, bne_iff_ne, ne_eq, List.size_toArray, List.length_cons, List.length_nil, true_and, Bool.false_eq_true, false_and, or_false, Bool.or_eq_true, Bool.and_eq_true]); omega))) | (subst_vars; (first | exact rfl | (refine Bool.eq_iff_iff.mpr ?ctc; (case ctc => ((simp only [decide_eq_true_eq, beq_iff_eq, bne_iff_ne, ne_eq, List.size_toArray, List.length_cons, List.length_nil, true_and, Bool.false_eq_true, false_and, or_false, Bool.or_eq_true, Bool.and_eq_true]); omega))) | (simp; done) | (simp; omega))) | (simp; done) | (simp; omega))) | exact True.intro | exact rfl | (intro _; omega) | (intro ctZ; cases ctZ; done) | (dsimp only; done) | ((try dsimp only); first | with_reducible assumption | (refine And.intro ?_ ?_) | (refine Apart.of ?_; k_ne) | exact Or.inl rfl | (refine Or.inr ?_) | exact rfl | omega)))); (case cd => k_room); (case cu => (((try simp only [units_in1, units_deeper, units_caller, Around.mark_units, units_make]); first | omega | (simp only [cLine_is]; omega)))); (case ch => (first | assumption | (with_unfolding_all assumption) | exact rfl))); intro e' dx' o' h' tk' hQ' R' hns'; (try dsimp only)) | ((with_reducible show wpAny _ _ (getAttr (Value.ref _) (Str.ofString "code") _) _ _ _); k_dflt (refine' exc_code ?Fz0 ?Xz0 ?Nz0 ?mz0 ?m2z0 ?cz0 ?dz0 ?vz0 ?qz0 ?_; (case Fz0 => k_asm); (case Xz0 => k_asm); (case Nz0 => k_asm); (case cz0 => with_reducible assumption); (case dz0 => with_reducible assumption); (case vz0 => with_reducible assumption); (case qz0 => with_reducible assumption); (case mz0 => k_mem); (case m2z0 => k_mem)); intro t') | ((with_reducible show wpAny _ _ (getAttr (Value.ref _) (Str.ofString "frame_type") _) _ _ _); k_dflt (refine' exc_frame ?Fz1 ?Xz1 ?Nz1 ?mz1 ?m2z1 ?cz1 ?dz1 ?vz1 ?qz1 ?_; (case Fz1 => k_asm); (case Xz1 => k_asm); (case Nz1 => k_asm); (case cz1 => with_reducible assumption); (case dz1 => with_reducible assumption); (case vz1 => with_reducible assumption); (case qz1 => with_reducible assumption); (case mz1 => k_mem); (case m2z1 => k_mem)); intro t') | (k_dflt (refine' caught_Q ?Kz2 ?hnz2 ?haz2 ?Rz2 ?XBz2 ?TBz2 ?exz2 ?_ ?h1z2 ?h2z2 ?h3z2 ?h4z2; (case Rz2 => with_reducible assumption); (case Kz2 => k_asm); (case hnz2 => with_reducible assumption); (case haz2 => exact Fr.above (by k_asm)); (case XBz2 => with_reducible assumption); (case TBz2 => with_reducible assumption); (case exz2 => k_is); (case h1z2 => exact rfl); (case h2z2 => exact rfl); (case h3z2 => exact rfl); (case h4z2 => decide)); intro h' g' oe' vs' tk' KT' F' N' hc' hd' hv' B' X' T')); (try k_steps))
  all_goals try dsimp only
  all_goals (refine' ctw_fin ?cT ?cF ?cN ?cS ?cR ?cA (hO (⟨_, _, _, _, _⟩) _ _); (case cF => k_asm); (case cN => k_asm); (case cT => (repeat (first | with_reducible assumption | exact KtsTurn.refl | (refine' KtsTurn.trans ?cta ?_; (case cta => with_reducible assumption))))); (case cS => ((try dsimp only); repeat (first | exact List.forall_mem_nil _ | (refine' memCons ?cta ?_; (case cta => k_mem); (try dsimp only))))); (case cR => ((try dsimp only); repeat (first | exact List.forall_mem_nil _ | (intro ctA ctH; cases ctH; done) | (refine' memCons ⟨_, ?cta⟩ ?_; (case cta => k_mem); (try dsimp only))))); (case cA => (repeat' (first | ((try dsimp only); (with_reducible show @Eq Bool _ _); (first | exact rfl | (refine decide_eq_true ?ctc; (case ctc => omega)) | (refine decide_eq_false ?ctc; (case ctc => omega)) | (refine decide_eq_decide.mpr ?ctc; (case ctc => omega)) | (refine (decide_eq_true ?ctc).symm; (case ctc => omega)) | (refine (decide_eq_false ?ctc).symm; (case ctc => omega)) | (refine Bool.eq_iff_iff.mpr ?ctc; (case ctc => ((simp only [decide_eq_true_eq, beq_iff_eq, bne_iff_ne, ne_eq, List.size_toArray, List.length_cons, List.length_nil, true_and, Bool.false_eq_true, false_and, or_false, Bool.or_eq_true, Bool.and_eq_true]); omega))) | (subst_vars; (first | exact rfl | (refine Bool.eq_iff_iff.mpr ?ctc; (case ctc => ((simp only [decide_eq_true_eq, beq_iff_eq, bne_iff_ne, ne_eq, List.size_toArray, List.length_cons, List.length_nil, true_and, Bool.false_eq_true, false_and, or_false, Bool.or_eq_true, Bool.and_eq_true]); omega))) | (simp; done) | (simp; omega))) | (simp; done) | (simp; omega))) | exact True.intro | exact rfl | (intro _; omega) | (intro ctZ; cases ctZ; done) | (dsimp only; done) | ((try dsimp only); first | with_reducible assumption | (refine And.intro ?_ ?_) | (refine Apart.of ?_; k_ne) | exact Or.inl rfl | (refine Or.inr ?_) | exact rfl | omega)))))
theorem told_metA (w : World) (q x dx : Addr) (K : PK) (st : Str) (t1 : Tok) (v0 v2 v3 v4 v5 v7 v8 v9 va : Value) (hst : st = "ready" ∨ st = "send") (hap : Apart dx x) (h1 : Apart q x) (h2 : Apart q dx) :
    CtW w 30 (.ref 224) [.ref q] [(q, methodObj (.ref 98) (.ref x)), (x, instObj 192 dx), (dx, pD K v0 (.str st t1) v2 v3 v4 v5 (.bool false) v7 v8 v9 va)] Unit (fun _ => .none)
      (fun _ => [(x, instObj 192 dx), (dx, pD K v0 (.str st t1) v2 v3 v4 v5 (.bool true) (.bool true) v8 v9 va)]) (fun _ => []) (fun _ => True) := by
  refine CtW.mk ?_
  intro p loose mean mg mb dp un gd base g env outer s R B kg sz X T XB TB HB N hd hu hO
  revert X XB; k_fill; intro X XB
  (k_dflt (refine' ct_code ?k1 ?ka ?kb ?k3 ?k5 ?k4 ?k6 ?k7 ?k8 ?k9 ?kB ?_ ?c2 ?c3 ?c4 ?c5; (case k1 => assumption); (case ka => assumption); (case kb => assumption); (case k3 => assumption); (case k5 => assumption); (case k4 => assumption); (case k6 => k_is); (case k7 => k_is); (case k8 => k_room); (case k9 => exact BindsTo.of_eq rfl); (case c5 => decide); (case kB => exact locs rfl); (case c2 => exact rfl); (case c3 => exact rfl); (case c4 => exact rfl); k_whole; intro L' h' F' N' l1; (try k_lt l1); (try dsimp only); (try k_fold)))
  k_steps
  repeat (any_goals (refine Stop.mk ?_; first | ((with_reducible show wpAny _ _ (call (Value.ref _) []) _ _ _); k_dflt (refine' call_meth ?cmN ?cmq ?_; (case cmN => k_asm); (case cmq => k_mem)); k_dflt (refine' ct_use (ct_finishA (hap := ?phap) (hst := ?phst) ..) ?cB ?cF ?cX ?cN ?cT ?cA ?cG ?cK ?cs ?cr ?cd ?cu ?ch ?_; (case cA => exact rfl); (case cG => exact rfl); (case cK => exact rfl); (case cF => k_asm); (case cB => k_asm); (case cX => k_asm); (case cN => k_asm); (case cT => k_asm); (case cs => ((try dsimp only); repeat (first | exact List.forall_mem_nil _ | (refine' memCons ?cta ?_; (case cta => k_mem); (try dsimp only))))); (case phap => (repeat' (first | ((try dsimp only); (with_reducible show @Eq Bool _ _); (first | exact rfl | (refine decide_eq_true ?ctc; (case ctc => omega)) | (refine decide_eq_false ?ctc; (case ctc => omega)) | (refine decide_eq_decide.mpr ?ctc; (case ctc => omega)) | (refine (decide_eq_true ?ctc).symm; (case ctc => omega)) | (refine (decide_eq_false ?ctc).symm; (case ctc => omega)) | (refine Bool.eq_iff_iff.mpr ?ctc; (case ctc => ((simp only [decide_eq_true_eq, beq_iff_eq, bne_iff_ne, ne_eq, List.size_toArray, List.length_cons, List.length_nil, true_and, Bool.false_eq_true, false_and, or_false, Bool.or_eq_true, Bool.and_eq_true]); omega))) | (subst_vars; (first | exact rfl | (refine Bool.eq_iff_iff.mpr ?ctc; (case ctc => ((simp only [decide_eq_true_eq, beq_iff_eq, bne_iff_ne, ne_eq, List.size_toArray, List.length_cons, List.length_nil, true_and, Bool.false_eq_true, false_and, or_false, Bool.or_eq_true, Bool.and_eq_true]); omega))) | (simp; done) | (simp; omega))) | (simp; done) | (simp; omega))) | exact True.intro | exact rfl | (intro _; omega) | (intro ctZ; cases ctZ; done) | (dsimp only; done) | ((try dsimp only); first | with_reducible assumption | (refine And.intro ?_ ?_) | (refine Apart.of ?_; k_ne) | exact Or.inl rfl | (refine Or.inr ?_) | exact rfl | omega)))); (case phst => (repeat' (first | ((try dsimp only); (with_reducible show @Eq Bool _ _); (first | exact rfl | (refine decide_eq_true ?ctc; (case ctc => omega)) | (refine decide_eq_false ?ctc; (case ctc => omega)) | (refine decide_eq_decide.mpr ?ctc; (case ctc => omega)) | (refine (decide_eq_true ?ctc).symm; (case ctc => omega)) | (refine (decide_eq_false ?ctc).symm; (case ctc => omega)) | (refine Bool.eq_iff_iff.mpr ?ctc; (case ctc => ((simp only [decide_eq_true_eq, beq_iff_eq, bne_iff_ne, ne_eq, List.size_toArray, List.length_cons, List.length_nil, true_and, Bool.false_eq_true, false_and, or_false, Bool.or_eq_true, Bool.and_eq_true]); omega))) | (subst_vars; (first | exact rfl | (refine Bool.eq_iff_iff.mpr ?ctc; (case ctc => ((simp only [decide_eq_true_eq, beq_iff_eq, bne_iff_ne, ne_eq, List.size_toArray, List.length_cons, List.length_nil, true_and, Bool.false_eq_true, false_and, or_false, Bool.or_eq_true, Bool.and_eq_true]); omega))) | (simp; done) | (simp; omega))) | (simp; done) | (simp; omega))) | exact True.intro | exact rfl | (intro _; omega) | (intro ctZ; cases ctZ; done) | (dsimp only; done) | ((try dsimp only); first | with_reducible assumption | (refine And.intro ?_ ?_) | (refine Apart.of ?_; k_ne) | exact Or.inl rfl | (refine Or.inr ?_) | exact rfl | omega)))); (case cr => ((try simp only [List.map_cons, List.map_nil]); (repeat ((try ((with_reducible show List _); rotate_left)); first | exact Rst.nil | (refine' Rst.drop' ?ctm ?_; (case ctm => k_mem)) | (refine' Rst.keep ?ctn ?_; (case ctn => (repeat (first | exact List.forall_mem_nil _ | (refine' memCons ?cta ?_; (case cta => k_ne)))))) | (refine' Rst.drop ?_))))); (case cd => k_room); (case cu => (((try simp only [units_in1, units_deeper, units_caller, Around.mark_units, units_make]); first | omega | (simp only [cLine_is]; omega)))); (case ch => (first | assumption | (with_unfolding_all assumption) | exact rfl))); rintro z1 h' tk' F' N' hX' hY'; (try dsimp only at N' hX' hY'); (try dsimp only); (try simp only [List.cons_append, List.nil_append, List.append_nil] at N'); (try simp only [AllAparts, Aparts, and_true] at hX'); (try k_sweep); (repeat ((rename And _ _ => hAnd9); (have hA9 := hAnd9.1); (have hB9 := hAnd9.2); (clear hAnd9)))) | ((with_reducible show wpAny _ _ (getAttr (Value.ref _) (Str.ofString "code") _) _ _ _); k_dflt (refine' exc_code ?Fz0 ?Xz0 ?Nz0 ?mz0 ?m2z0 ?cz0 ?dz0 ?vz0 ?qz0 ?_; (case Fz0 => k_asm); (case Xz0 => k_asm); (case Nz0 => k_asm); (case cz0 => with_reducible assumption); (case dz0 => with_reducible assumption); (case vz0 => with_reducible assumption); (case qz0 => with_reducible assumption); (case mz0 => k_mem); (case m2z0 => k_mem)); intro t') | ((with_reducible show wpAny _ _ (getAttr (Value.ref _) (Str.ofString "frame_type") _) _ _ _); k_dflt (refine' exc_frame ?Fz1 ?Xz1 ?Nz1 ?mz1 ?m2z1 ?cz1 ?dz1 ?vz1 ?qz1 ?_; (case Fz1 => k_asm); (case Xz1 => k_asm); (case Nz1 => k_asm); (case cz1 => with_reducible assumption); (case dz1 => with_reducible assumption); (case vz1 => with_reducible assumption); (case qz1 => with_reducible assumption); (case mz1 => k_mem); (case m2z1 => k_mem)); intro t') | (k_dflt (refine' caught_Q ?Kz2 ?hnz2 ?haz2 ?Rz2 ?XBz2 ?TBz2 ?exz2 ?_ ?h1z2 ?h2z2 ?h3z2 ?h4z2; (case Rz2 => with_reducible assumption); (case Kz2 => k_asm); (case hnz2 => with_reducible assumption); (case haz2 => exact Fr.above (by k_asm)); (case XBz2 => with_reducible assumption); (case TBz2 => with_reducible assumption); (case exz2 => k_is); (case h1z2 => exact rfl); (case h2z2 => exact rfl); (case h3z2 => exact rfl); (case h4z2 => decide)); intro h' g' oe' vs' tk' KT' F' N' hc' hd' hv' B' X' T')); (try k_steps))
  all_goals try dsimp only
  all_goals (refine' ctw_fin ?cT ?cF ?cN ?cS ?cR ?cA (hO (()) _ _); (case cF => k_asm); (case cN => k_asm); (case cT => (repeat (first | with_reducible assumption | exact KtsTurn.refl | (refine' KtsTurn.trans ?cta ?_; (case cta => with_reducible assumption))))); (case cS => ((try dsimp only); repeat (first | exact List.forall_mem_nil _ | (refine' memCons ?cta ?_; (case cta => k_mem); (try dsimp only))))); (case cR => ((try dsimp only); repeat (first | exact List.forall_mem_nil _ | (intro ctA ctH; cases ctH; done) | (refine' memCons ⟨_, ?cta⟩ ?_; (case cta => k_mem); (try dsimp only))))); (case cA => (repeat' (first | ((try dsimp only); (with_reducible show @Eq Bool _ _); (first | exact rfl | (refine decide_eq_true ?ctc; (case ctc => omega)) | (refine decide_eq_false ?ctc; (case ctc => omega)) | (refine decide_eq_decide.mpr ?ctc; (case ctc => omega)) | (refine (decide_eq_true ?ctc).symm; (case ctc => omega)) | (refine (decide_eq_false ?ctc).symm; (case ctc => omega)) | (refine Bool.eq_iff_iff.mpr ?ctc; (case ctc => ((simp only [decide_eq_true_eq, beq_iff_eq, bne_iff_ne, ne_eq, List.size_toArray, List.length_cons, List.length_nil, true_and, Bool.false_eq_true, false_and, or_false, Bool.or_eq_true, Bool.and_eq_true]); omega))) | (subst_vars; (first | exact rfl | (refine Bool.eq_iff_iff.mpr ?ctc; (case ctc => ((simp only [decide_eq_true_eq, beq_iff_eq, bne_iff_ne, ne_eq, List.size_toArray, List.length_cons, List.length_nil, true_and, Bool.false_eq_true, false_and, or_false, Bool.or_eq_true, Bool.and_eq_true]); omega))) | (simp; done) | (simp; omega))) | (simp; done) | (simp; omega))) | exact True.intro | exact rfl | (intro _; omega) | (intro ctZ; cases ctZ; done) | (dsimp only; done) | ((try dsimp only); first | with_reducible assumption | (refine And.intro ?_ ?_) | (refine Apart.of ?_; k_ne) | exact Or.inl rfl | (refine Or.inr ?_) | exact rfl | omega)))))
theorem told_metB (w : World) (q x dx : Addr) (K : PK) (st : Str) (t1 : Tok) (v0 v2 v3 v4 v5 v7 v8 v9 va : Value) (hst : st = "ready" ∨ st = "send") (hap : Apart dx x) (h1 : Apart q x) (h2 : Apart q dx) :
    CtW w 30 (.ref 224) [.ref q] [(q, methodObj (.ref 98) (.ref x)), (x, instObj 192 dx), (dx, pD K v0 (.str st t1) v2 v3 v4 v5 (.bool true) v7 v8 v9 va)] Unit (fun _ => .none)
      (fun _ => [(x, instObj 192 dx), (dx, pD K v0 (.str st t1) v2 v3 v4 v5 (.bool true) v7 v8 v9 va)]) (fun _ => []) (fun _ => True) := by
  refine CtW.mk ?_
  intro p loose mean mg mb dp un gd base g env outer s R B kg sz X T XB TB HB N hd hu hO
  revert X XB; k_fill; intro X XB
  (k_dflt (refine' ct_code ?k1 ?ka ?kb ?k3 ?k5 ?k4 ?k6 ?k7 ?k8 ?k9 ?kB ?_ ?c2 ?c3 ?c4 ?c5; (case k1 => assumption); (case ka => assumption); (case kb => assumption); (case k3 => assumption); (case k5 => assumption); (case k4 => assumption); (case k6 => k_is); (case k7 => k_is); (case k8 => k_room); (case k9 => exact BindsTo.of_eq rfl); (case c5 => decide); (case kB => exact locs rfl); (case c2 => exact rfl); (case c3 => exact rfl); (case c4 => exact rfl); k_whole; intro L' h' F' N' l1; (try k_lt l1); (try dsimp only); (try k_fold)))
  k_steps
  repeat (any_goals (refine Stop.mk ?_; first | ((with_reducible show wpAny _ _ (call (Value.ref _) []) _ _ _); k_dflt (refine' call_meth ?cmN ?cmq ?_; (case cmN => k_asm); (case cmq => k_mem)); k_dflt (refine' ct_use (ct_finishB (hap := ?phap) (hst := ?phst) ..) ?cB ?cF ?cX ?cN ?cT ?cA ?cG ?cK ?cs ?cr ?cd ?cu ?ch ?_; (case cA => exact rfl); (case cG => exact rfl); (case cK => exact rfl); (case cF => k_asm); (case cB => k_asm); (case cX => k_asm); (case cN => k_asm); (case cT => k_asm); (case cs => ((try dsimp only); repeat (first | exact List.forall_mem_nil _ | (refine' memCons ?cta ?_; (case cta => k_mem); (try dsimp only))))); (case phap => (repeat' (first | ((try dsimp only); (with_reducible show @Eq Bool _ _); (first | exact rfl | (refine decide_eq_true ?ctc; (case ctc => omega)) | (refine decide_eq_false ?ctc; (case ctc => omega)) | (refine decide_eq_decide.mpr ?ctc; (case ctc => omega)) | (refine (decide_eq_true ?ctc).symm; (case ctc => omega)) | (refine (decide_eq_false ?ctc).symm; (case ctc => omega)) | (refine Bool.eq_iff_iff.mpr ?ctc; (case ctc => ((simp only [decide_eq_true_eq, beq_iff_eq, bne_iff_ne, ne_eq, List.size_toArray, List.length_cons, List.length_nil, true_and, Bool.false_eq_true, false_and, or_false, Bool.or_eq_true, Bool.and_eq_true]); omega))) | (subst_vars; (first | exact rfl | (refine Bool.eq_iff_iff.mpr ?ctc; (case ctc => ((simp only [decide_eq_true_eq, beq_iff_eq, bne_iff_ne, ne_eq, List.size_toArray, List.length_cons, List.length_nil, true_and, Bool.false_eq_true, false_and, or_false, Bool.or_eq_true, Bool.and_eq_true]); omega))) | (simp; done) | (simp; omega))) | (simp; done) | (simp; omega))) | exact True.intro | exact rfl | (intro _; omega) | (intro ctZ; cases ctZ; done) | (dsimp only; done) | ((try dsimp only); first | with_reducible assumption | (refine And.intro ?_ ?_) | (refine Apart.of ?_; k_ne) | exact Or.inl rfl | (refine Or.inr ?_) | exact rfl | omega)))); (case phst => (repeat' (first | ((try dsimp only); (with_reducible show @Eq Bool _ _); (first | exact rfl | (refine decide_eq_true ?ctc; (case ctc => omega)) | (refine decide_eq_false ?ctc; (case ctc => omega)) | (refine decide_eq_decide.mpr ?ctc; (case ctc => omega)) | (refine (decide_eq_true ?ctc).symm; (case ctc => omega)) | (refine (decide_eq_false ?ctc).symm; (case ctc => omega)) | (refine Bool.eq_iff_iff.mpr ?ctc; (case ctc => ((simp only [decide_eq_true_eq, beq_iff_eq, bne_iff_ne, ne_eq, List.size_toArray, List.length_cons, List.length_nil, true_and, Bool.false_eq_true, false_and, or_false, Bool.or_eq_true, Bool.and_eq_true]); omega))) | (subst_vars; (first | exact rfl | (refine Bool.eq_iff_iff.mpr ?ctc; (case ctc => ((simp only [decide_eq_true_eq, beq_iff_eq, bne_iff_ne, ne_eq, List.size_toArray, List.length_cons, List.length_nil, true_and, Bool.false_eq_true, false_and, or_false, Bool.or_eq_true, Bool.and_eq_true]); omega))) | (simp; done) | (simp; omega))) | (simp; done) | (simp; omega))) | exact True.intro | exact rfl | (intro _; omega) | (intro ctZ; cases ctZ; done) | (dsimp only; done) | ((try dsimp only); first | with_reducible assumption | (refine And.intro ?_ ?_) | (refine Apart.of ?_; k_ne) | exact Or.inl rfl | (refine Or.inr ?_) | exact rfl | omega)))); (case cr => ((try simp only [List.map_cons, List.map_nil]); (repeat ((try ((with_reducible show List _); rotate_left)); first | exact Rst.nil | (refine' Rst.drop' ?ctm ?_; (case ctm => k_mem)) | (refine' Rst.keep ?ctn ?_; (case ctn => (repeat (first | exact List.forall_mem_nil _ | (refine' memCons ?cta ?_; (case cta => k_ne)))))) | (refine' Rst.drop ?_))))); (case cd => k_room); (case cu => (((try simp only [units_in1, units_deeper, units_caller, Around.mark_units, units_make]); first | omega | (simp only [cLine_is]; omega)))); (case ch => (first | assumption | (with_unfolding_all assumption) | exact rfl))); rintro z1 h' tk' F' N' hX' hY'; (try dsimp only at N' hX' hY'); (try dsimp only); (try simp only [List.cons_append, List.nil_append, List.append_nil] at N'); (try simp only [AllAparts, Aparts, and_true] at hX'); (try k_sweep); (repeat ((rename And _ _ => hAnd9); (have hA9 := hAnd9.1); (have hB9 := hAnd9.2); (clear hAnd9)))) | ((with_reducible show wpAny _ _ (getAttr (Value.ref _) (Str.ofString "code") _) _ _ _); k_dflt (refine' exc_code ?Fz0 ?Xz0 ?Nz0 ?mz0 ?m2z0 ?cz0 ?dz0 ?vz0 ?qz0 ?_; (case Fz0 => k_asm); (case Xz0 => k_asm); (case Nz0 => k_asm); (case cz0 => with_reducible assumption); (case dz0 => with_reducible assumption); (case vz0 => with_reducible assumption); (case qz0 => with_reducible assumption); (case mz0 => k_mem); (case m2z0 => k_mem)); intro t') | ((with_reducible show wpAny _ _ (getAttr (Value.ref _) (Str.ofString "frame_type") _) _ _ _); k_dflt (refine' exc_frame ?Fz1 ?Xz1 ?Nz1 ?mz1 ?m2z1 ?cz1 ?dz1 ?vz1 ?qz1 ?_; (case Fz1 => k_asm); (case Xz1 => k_asm); (case Nz1 => k_asm); (case cz1 => with_reducible assumption); (case dz1 => with_reducible assumption); (case vz1 => with_reducible assumption); (case qz1 => with_reducible assumption); (case mz1 => k_mem); (case m2z1 => k_mem)); intro t') | (k_dflt (refine' caught_Q ?Kz2 ?hnz2 ?haz2 ?Rz2 ?XBz2 ?TBz2 ?exz2 ?_ ?h1z2 ?h2z2 ?h3z2 ?h4z2; (case Rz2 => with_reducible assumption); (case Kz2 => k_asm); (case hnz2 => with_reducible assumption); (case haz2 => exact Fr.above (by k_asm)); (case XBz2 => with_reducible assumption); (case TBz2 => with_reducible assumption); (case exz2 => k_is); (case h1z2 => exact rfl); (case h2z2 => exact rfl); (case h3z2 => exact rfl); (case h4z2 => decide)); intro h' g' oe' vs' tk' KT' F' N' hc' hd' hv' B' X' T')); (try k_steps))
  all_goals try dsimp only
  all_goals (refine' ctw_fin ?cT ?cF ?cN ?cS ?cR ?cA (hO (()) _ _); (case cF => k_asm); (case cN => k_asm); (case cT => (repeat (first | with_reducible assumption | exact KtsTurn.refl | (refine' KtsTurn.trans ?cta ?_; (case cta => with_reducible assumption))))); (case cS => ((try dsimp only); repeat (first | exact List.forall_mem_nil _ | (refine' memCons ?cta ?_; (case cta => k_mem); (try dsimp only))))); (case cR => ((try dsimp only); repeat (first | exact List.forall_mem_nil _ | (intro ctA ctH; cases ctH; done) | (refine' memCons ⟨_, ?cta⟩ ?_; (case cta => k_mem); (try dsimp only))))); (case cA => (repeat' (first | ((try dsimp only); (with_reducible show @Eq Bool _ _); (first | exact rfl | (refine decide_eq_true ?ctc; (case ctc => omega)) | (refine decide_eq_false ?ctc; (case ctc => omega)) | (refine decide_eq_decide.mpr ?ctc; (case ctc => omega)) | (refine (decide_eq_true ?ctc).symm; (case ctc => omega)) | (refine (decide_eq_false ?ctc).symm; (case ctc => omega)) | (refine Bool.eq_iff_iff.mpr ?ctc; (case ctc => ((simp only [decide_eq_true_eq, beq_iff_eq, bne_iff_ne, ne_eq, List.size_toArray, List.length_cons, List.length_nil, true_and, Bool.false_eq_true, false_and, or_false, Bool.or_eq_true, Bool.and_eq_true]); omega))) | (subst_vars; (first | exact rfl | (refine Bool.eq_iff_iff.mpr ?ctc; (case ctc => ((simp only [decide_eq_true_eq, beq_iff_eq, bne_iff_ne, ne_eq, List.size_toArray, List.length_cons, List.length_nil, true_and, Bool.false_eq_true, false_and, or_false, Bool.or_eq_true, Bool.and_eq_true]); omega))) | (simp; done) | (simp; omega))) | (simp; done) | (simp; omega))) | exact True.intro | exact rfl | (intro _; omega) | (intro ctZ; cases ctZ; done) | (dsimp only; done) | ((try dsimp only); first | with_reducible assumption | (refine And.intro ?_ ?_) | (refine Apart.of ?_; k_ne) | exact Or.inl rfl | (refine Or.inr ?_) | exact rfl | omega)))))
end

section
open PySem PySem.W PyProof.Rows PySem.Calls

/-! A small interpreter of what the checks need: its words are the text's own, names by number. -/
inductive AV
  | none | bool (b : Bool) | int (k : Int) | str (i : Nat) | bytes (l : List Nat) | obj (i : Nat) | top (a : Nat) | blt (i : Nat)
inductive AO
  | inst (d : Nat) | part (fs : List AV) | list (xs : List AV) | tup (xs : List AV) | iter (l i : Nat) | junk | cell (v : Option AV) | tab
mutual
inductive X
  | opq | none | bool (b : Bool) | int (k : Nat) | str (i : Nat) | bytes (l : List Nat) | loc (i : Nat) | glb (i : Nat) | attr (o f : Nat)
  | callF (g : Nat) (as : Xs) | callM (o f : Nat) (as : Xs) | cmp (op : CmpOp) (l r : X) | and (xs : Xs) | or (xs : Xs) | not (x : X)
  | add (l r : X) | sub (l r : X) | ite (t : T) (a b : X) | tup (xs : Xs) | lst (xs : Xs) | idx (x i : X) | cut (x lo hi : X) | celM (f : Nat) (as : Xs) | comp (f x : Nat) (as : Xs) | attrX (x : X) (f : Nat)
inductive Xs
  | nil | cons (x : X) (xs : Xs)
inductive T
  | and (ts : Ts) | or (ts : Ts) | not (t : T) | cmp (op : CmpOp) (l r : X) | val (x : X)
inductive Ts
  | nil | cons (t : T) (ts : Ts)
end
mutual
inductive S
  | opq | asg (i : Nat) (x : X) | asgT (is : List Nat) (x : X) | asgW (is : List Nat) (x : X) | asg3 (i j k : Nat) (x : X) | put (o f : Nat) (x : X) | expr (x : X)
  | iff (t : T) (a b : Ss) | ret (x : X) | retN | for2 (is : List Nat) (x : X) (b : Ss) | asgC (x : X)
inductive Ss
  | nil | cons (s : S) (ss : Ss)
end
noncomputable abbrev Locs := List (Nat × AV)
noncomputable abbrev Mem := List AO
noncomputable def lookN {α : Type} (i : Nat) : List (Nat × α) → Option α
  | [] => none
  | p :: r => match Nat.beq p.1 i with
    | true => some p.2
    | false => lookN i r
noncomputable def nth {α : Type} : List α → Nat → Option α
  | [], _ => none
  | x :: _, 0 => some x
  | _ :: r, n + 1 => nth r n
noncomputable def setN {α : Type} (v : α) : List α → Nat → List α
  | [], _ => []
  | _ :: r, 0 => v :: r
  | x :: r, n + 1 => x :: setN v r n
noncomputable def b_add_span : Ss := (.cons (.iff (.cmp .GtE (.loc 12) (.loc 13)) (.cons (.ret (.callF 20 (.cons (.loc 11) .nil))) .nil) .nil) (.cons (.asgW [15, 14] (.tup (.cons (.lst .nil) (.cons (.bool false) .nil)))) (.cons (.for2 [16, 17] (.loc 11) (.cons (.iff (.cmp .Lt (.loc 17) (.loc 12)) (.cons .opq .nil) (.cons (.iff (.cmp .Lt (.loc 13) (.loc 16)) (.cons (.iff (.not (.val (.loc 14))) (.cons .opq (.cons (.asg 14 (.bool true)) .nil)) .nil) (.cons .opq .nil)) (.cons (.asgW [12, 13] (.tup (.cons (.callF 19 (.cons (.loc 12) (.cons (.loc 16) .nil))) (.cons (.callF 18 (.cons (.loc 13) (.cons (.loc 17) .nil))) .nil)))) .nil)) .nil)) .nil)) (.cons (.ret (.ite (.val (.loc 14)) (.loc 15) (.add (.loc 15) (.lst (.cons (.tup (.cons (.loc 12) (.cons (.loc 13) .nil))) .nil))))) .nil))))
noncomputable def b_cut_span : Ss := (.cons (.asg 15 (.lst .nil)) (.cons (.for2 [16, 17] (.loc 11) (.cons (.iff (.cmp .Lt (.loc 16) (.callF 19 (.cons (.loc 17) (.cons (.loc 12) .nil)))) (.cons .opq .nil) .nil) (.cons (.iff (.cmp .Lt (.callF 18 (.cons (.loc 16) (.cons (.loc 13) .nil))) (.loc 17)) (.cons .opq .nil) .nil) .nil))) (.cons (.ret (.ite (.cmp .Lt (.loc 12) (.loc 13)) (.loc 15) (.callF 20 (.cons (.loc 11) .nil)))) .nil)))
noncomputable def b_has_span : Ss := (.cons (.iff (.cmp .GtE (.loc 12) (.loc 13)) (.cons (.ret (.bool true)) .nil) .nil) (.cons (.for2 [16, 17] (.loc 11) (.cons (.iff (.and (.cons (.cmp .LtE (.loc 16) (.loc 12)) (.cons (.cmp .LtE (.loc 13) (.loc 17)) .nil))) (.cons (.ret (.bool true)) .nil) .nil) .nil)) (.cons (.ret (.bool false)) .nil)))
noncomputable def b_first_span : Ss := (.cons (.iff (.or (.cons (.cmp .Eq (.callF 22 (.cons (.loc 11) .nil)) (.int 0)) (.cons (.cmp .LtE (.loc 21) (.int 0)) .nil))) (.cons (.ret .none) .nil) .nil) (.cons (.asgT [12, 13] (.idx (.loc 11) (.int 0))) (.cons (.ret (.tup (.cons (.loc 12) (.cons (.callF 19 (.cons (.loc 13) (.cons (.add (.loc 12) (.loc 21)) .nil))) .nil)))) .nil)))
noncomputable def b_without_spans : Ss := (.cons (.asg 15 (.callF 20 (.cons (.loc 11) .nil))) (.cons (.for2 [12, 13] (.loc 23) (.cons (.asg 15 (.callF 24 (.cons (.loc 15) (.cons (.loc 12) (.cons (.loc 13) .nil))))) .nil)) (.cons (.ret (.loc 15)) .nil)))
noncomputable def b_m_write : Ss := (.cons (.iff (.or (.cons (.cmp .NotIn (.attr 25 1) (.glb 28)) (.cons (.val (.attr 25 6)) .nil))) (.cons .opq .nil) .nil) (.cons (.put 25 2 (.add (.attr 25 2) (.callF 27 (.cons (.loc 26) .nil)))) .nil))
noncomputable def b_m_finish : Ss := (.cons (.iff (.cmp .NotIn (.attr 25 1) (.glb 28)) (.cons .opq .nil) .nil) (.cons (.iff (.not (.val (.attr 25 6))) (.cons (.put 25 6 (.bool true)) (.cons (.put 25 7 (.bool true)) .nil)) .nil) .nil))
noncomputable def b_m_reset : Ss := (.cons (.iff (.and (.cons (.cmp .NotIn (.attr 25 1) (.glb 28)) (.cons (.cmp .NotEq (.attr 25 1) (.glb 31)) .nil))) (.cons (.ret (.bool false)) .nil) .nil) (.cons (.put 25 1 (.glb 30)) (.cons (.put 25 9 (.loc 29)) (.cons (.put 25 10 (.bool true)) (.cons (.put 25 5 (.lst .nil)) (.cons (.put 25 7 (.bool false)) (.cons (.ret (.bool true)) .nil)))))))
noncomputable def b_m_on_stop : Ss := (.cons (.ret (.callM 25 32 (.cons (.loc 29) .nil))) .nil)
noncomputable def b_m_raise_limit : Ss := (.cons (.put 25 0 (.callF 18 (.cons (.attr 25 0) (.cons (.loc 0) .nil)))) .nil)
noncomputable def b_m_new_room : Ss := (.cons (.iff (.cmp .NotIn (.attr 25 1) (.glb 28)) (.cons (.ret (.int 0)) .nil) .nil) (.cons (.asg 34 (.sub (.callF 19 (.cons (.callF 22 (.cons (.attr 25 2) .nil)) (.cons (.attr 25 0) .nil))) (.attr 25 3))) (.cons (.ret (.callF 18 (.cons (.int 0) (.cons (.ite (.cmp .Is (.loc 33) .none) (.loc 34) (.callF 19 (.cons (.loc 34) (.cons (.loc 33) .nil)))) .nil)))) .nil)))
noncomputable def b_m_blocked_at : Ss := (.cons (.asg 35 (.and (.cons (.cmp .In (.attr 25 1) (.glb 28)) (.cons (.cmp .GtE (.attr 25 3) (.attr 25 0)) (.cons (.cmp .Gt (.callF 22 (.cons (.attr 25 2) .nil)) (.attr 25 3)) .nil))))) (.cons (.ret (.ite (.val (.loc 35)) (.attr 25 0) .none)) .nil))
noncomputable def b_m_has_to_send : Ss := (.cons (.iff (.or (.cons (.val (.attr 25 10)) (.cons (.cmp .Gt (.callF 22 (.cons (.attr 25 5) .nil)) (.int 0)) (.cons (.cmp .Gt (.callM 25 36 (.cons (.loc 33) .nil)) (.int 0)) .nil)))) (.cons (.ret (.bool true)) .nil) .nil) (.cons (.ret (.and (.cons (.attr 25 7) (.cons (.cmp .Eq (.attr 25 3) (.callF 22 (.cons (.attr 25 2) .nil))) .nil)))) .nil))
noncomputable def b_m_next_chunk : Ss := (.cons (.iff (.and (.cons (.cmp .NotIn (.attr 25 1) (.glb 28)) (.cons (.cmp .NotEq (.attr 25 1) (.glb 31)) .nil))) (.cons (.ret .none) .nil) .nil) (.cons (.asg 39 (.callF 40 (.cons (.attr 25 5) (.cons (.loc 21) .nil)))) (.cons (.iff (.cmp .Is (.loc 39) .none) (.cons (.asg 34 (.callF 19 (.cons (.loc 21) (.cons (.callM 25 36 (.cons (.loc 33) .nil)) .nil)))) (.cons (.asg 39 (.tup (.cons (.attr 25 3) (.cons (.add (.attr 25 3) (.callF 18 (.cons (.int 0) (.cons (.loc 34) .nil)))) .nil)))) .nil)) .nil) (.cons (.asgT [12, 13] (.loc 39)) (.cons (.asg 37 (.and (.cons (.attr 25 6) (.cons (.cmp .Eq (.loc 13) (.callF 22 (.cons (.attr 25 2) .nil))) (.cons (.or (.cons (.attr 25 7) (.cons (.cmp .Lt (.loc 12) (.loc 13)) .nil))) .nil))))) (.cons (.iff (.and (.cons (.cmp .Eq (.loc 12) (.loc 13)) (.cons (.not (.val (.loc 37))) .nil))) (.cons (.ret .none) .nil) .nil) (.cons (.put 25 5 (.callF 24 (.cons (.attr 25 5) (.cons (.loc 12) (.cons (.loc 13) .nil))))) (.cons (.put 25 3 (.callF 18 (.cons (.attr 25 3) (.cons (.loc 13) .nil)))) (.cons (.iff (.val (.loc 37)) (.cons (.put 25 7 (.bool false)) .nil) .nil) (.cons (.put 25 1 (.ite (.or (.cons (.val (.loc 37)) (.cons (.cmp .Eq (.attr 25 1) (.glb 31)) .nil))) (.glb 31) (.glb 38))) (.cons (.ret (.tup (.cons (.loc 12) (.cons (.cut (.attr 25 2) (.loc 12) (.loc 13)) (.cons (.loc 37) .nil))))) .nil)))))))))))
noncomputable def b_m_next_reset : Ss := (.cons (.iff (.not (.val (.attr 25 10))) (.cons (.ret .none) .nil) .nil) (.cons (.put 25 10 (.bool false)) (.cons (.ret (.tup (.cons (.attr 25 9) (.cons (.attr 25 3) .nil)))) .nil)))
noncomputable def b_m_on_acked : Ss := (.cons (.put 25 4 (.callF 45 (.cons (.attr 25 4) (.cons (.loc 41) (.cons (.add (.loc 41) (.loc 42)) .nil))))) (.cons (.put 25 5 (.callF 24 (.cons (.attr 25 5) (.cons (.loc 41) (.cons (.add (.loc 41) (.loc 42)) .nil))))) (.cons (.iff (.val (.loc 37)) (.cons (.put 25 8 (.bool true)) (.cons (.put 25 7 (.bool false)) .nil)) .nil) (.cons (.iff (.and (.cons (.cmp .Eq (.attr 25 1) (.glb 31)) (.cons (.val (.attr 25 8)) (.cons (.val (.callF 43 (.cons (.attr 25 4) (.cons (.int 0) (.cons (.callF 22 (.cons (.attr 25 2) .nil)) .nil))))) .nil)))) (.cons (.put 25 1 (.glb 44)) .nil) .nil) .nil))))
noncomputable def b_m_on_lost : Ss := (.cons (.iff (.cmp .NotIn (.attr 25 1) (.tup (.cons (.glb 38) (.cons (.glb 31) .nil)))) (.cons .retN .nil) .nil) (.cons (.for2 [12, 13] (.callF 46 (.cons (.ite (.cmp .Gt (.loc 42) (.int 0)) (.lst (.cons (.tup (.cons (.loc 41) (.cons (.add (.loc 41) (.loc 42)) .nil))) .nil)) (.lst .nil)) (.cons (.attr 25 4) .nil))) (.cons (.put 25 5 (.callF 45 (.cons (.attr 25 5) (.cons (.loc 12) (.cons (.loc 13) .nil))))) .nil)) (.cons (.iff (.and (.cons (.val (.loc 37)) (.cons (.not (.val (.attr 25 8))) .nil))) (.cons (.put 25 7 (.bool true)) .nil) .nil) .nil)))
noncomputable def b_m_on_reset_acked : Ss := (.cons (.put 25 10 (.bool false)) (.cons (.iff (.cmp .Eq (.attr 25 1) (.glb 30)) (.cons (.put 25 1 (.glb 47)) .nil) .nil) .nil))
noncomputable def b_m_on_reset_lost : Ss := (.cons (.iff (.cmp .Eq (.attr 25 1) (.glb 30)) (.cons (.put 25 10 (.bool true)) .nil) .nil) .nil)
noncomputable def b_m_is_over : Ss := (.cons (.ret (.cmp .In (.attr 25 1) (.tup (.cons (.glb 44) (.cons (.glb 47) .nil))))) .nil)
noncomputable def b_l_states : Ss := (.cons (.ret (.lst (.cons (.str 53) (.cons (.str 52) (.cons (.str 51) (.cons (.str 50) (.cons (.str 49) (.cons (.str 48) .nil)))))))) .nil)
noncomputable def b_l_made : Ss := (.cons (.asgT [56, 0, 62, 61] (.loc 54)) (.cons (.asg 55 (.callF 65 (.cons (.loc 0) .nil))) (.cons (.expr (.callM 55 64 (.cons (.bytes [97, 98, 99, 100]) .nil))) (.cons (.iff (.val (.loc 62)) (.cons (.expr (.callM 55 63 .nil)) .nil) .nil) (.cons (.iff (.cmp .Gt (.loc 56) (.int 0)) (.cons (.expr (.callM 55 60 (.cons (.loc 61) (.cons .none .nil)))) .nil) .nil) (.cons (.iff (.cmp .Eq (.loc 56) (.int 3)) (.cons (.expr (.callM 55 59 (.cons (.int 0) (.cons (.int 4) (.cons (.bool true) .nil))))) .nil) .nil) (.cons (.iff (.cmp .Gt (.loc 56) (.int 3)) (.cons (.expr (.callM 55 32 (.cons (.int 7) .nil))) (.cons (.expr (.callM 55 58 .nil)) .nil)) .nil) (.cons (.iff (.cmp .Eq (.loc 56) (.int 5)) (.cons (.expr (.callM 55 57 .nil)) .nil) .nil) (.cons (.ret (.loc 55)) .nil)))))))))
noncomputable def b_l_giving_up_right : Ss := (.cons (.asgT [56, 0, 62, 61] (.loc 54)) (.cons (.asg 55 (.callF 74 (.cons (.loc 54) .nil))) (.cons (.asg 70 (.cmp .Lt (.loc 56) (.int 3))) (.cons (.iff (.or (.cons (.cmp .NotEq (.callM 55 73 (.cons (.int 9) .nil)) (.loc 70)) (.cons (.cmp .NotEq (.attr 55 1) (.ite (.val (.loc 70)) (.str 49) (.idx (.callF 72 .nil) (.loc 56)))) .nil))) (.cons (.ret (.bool false)) .nil) .nil) (.cons (.asg 42 (.ite (.cmp .Eq (.loc 56) (.int 0)) (.int 0) (.callF 19 (.cons (.loc 61) (.cons (.loc 0) (.cons (.int 4) .nil)))))) (.cons (.iff (.or (.cons (.cmp .NotEq (.attr 55 9) (.ite (.val (.loc 70)) (.int 9) (.ite (.cmp .Gt (.loc 56) (.int 3)) (.int 7) .none))) (.cons (.cmp .NotEq (.callM 55 58 .nil) (.ite (.val (.loc 70)) (.tup (.cons (.int 9) (.cons (.loc 42) .nil))) .none)) (.cons (.cmp .IsNot (.callM 55 58 .nil) .none) .nil)))) (.cons (.ret (.bool false)) .nil) .nil) (.cons (.iff (.or (.cons (.val (.callM 55 32 (.cons (.int 3) .nil))) (.cons (.cmp .IsNot (.callM 55 60 (.cons (.int 9) (.cons .none .nil))) .none) (.cons (.cmp .NotEq (.callM 55 36 (.cons .none .nil)) (.int 0)) (.cons (.cmp .IsNot (.callM 55 71 .nil) .none) .nil))))) (.cons (.ret (.bool false)) .nil) .nil) (.cons (.expr (.callM 55 67 .nil)) (.cons (.asg 69 (.ite (.val (.loc 70)) (.tup (.cons (.int 9) (.cons (.loc 42) .nil))) (.ite (.cmp .Eq (.loc 56) (.int 4)) (.tup (.cons (.int 7) (.cons (.loc 42) .nil))) .none))) (.cons (.iff (.or (.cons (.cmp .NotEq (.callM 55 66 (.cons .none .nil)) (.cmp .IsNot (.loc 69) .none)) (.cons (.cmp .NotEq (.callM 55 58 .nil) (.loc 69)) .nil))) (.cons (.ret (.bool false)) .nil) .nil) (.cons (.expr (.callM 55 57 .nil)) (.cons (.iff (.or (.cons (.cmp .NotEq (.attr 55 1) (.ite (.cmp .Eq (.loc 56) (.int 3)) (.str 50) (.str 48))) (.cons (.not (.val (.callM 55 68 .nil))) .nil))) (.cons (.ret (.bool false)) .nil) .nil) (.cons (.expr (.callM 55 67 .nil)) (.cons (.ret (.and (.cons (.cmp .Is (.callM 55 58 .nil) .none) (.cons (.not (.callM 55 66 (.cons .none .nil))) .nil)))) .nil))))))))))))))
noncomputable def b_l_chunks_right : Ss := (.cons (.asgT [56, 0, 62, 61] (.loc 54)) (.cons (.asg 55 (.callF 74 (.cons (.loc 54) .nil))) (.cons (.asg 77 (.ite (.cmp .Eq (.loc 56) (.int 0)) (.int 0) (.callF 19 (.cons (.loc 61) (.cons (.loc 0) (.cons (.int 4) .nil)))))) (.cons (.iff (.cmp .Gt (.loc 77) (.int 0)) (.cons (.expr (.callM 55 78 (.cons (.int 0) (.cons (.int 1) (.cons (.bool false) .nil))))) (.cons (.iff (.cmp .NotEq (.callM 55 60 (.cons (.int 9) (.cons (.int 0) .nil))) (.ite (.cmp .In (.loc 56) (.tup (.cons (.int 1) (.cons (.int 2) .nil)))) (.tup (.cons (.int 0) (.cons (.bytes [97]) (.cons (.bool false) .nil)))) .none)) (.cons (.ret (.bool false)) .nil) .nil) .nil)) .nil) (.cons (.asg 76 (.callM 55 60 (.cons (.int 9) (.cons .none .nil)))) (.cons (.iff (.cmp .Gt (.loc 56) (.int 1)) (.cons (.ret (.cmp .Is (.loc 76) .none)) .nil) .nil) (.cons (.asg 13 (.callF 19 (.cons (.int 4) (.cons (.loc 0) .nil)))) (.cons (.asg 69 (.ite (.cmp .Lt (.loc 77) (.loc 13)) (.tup (.cons (.loc 77) (.cons (.cut (.bytes [97, 98, 99, 100]) (.loc 77) (.loc 13)) (.cons (.and (.cons (.loc 62) (.cons (.cmp .Eq (.loc 13) (.int 4)) .nil))) .nil)))) .none)) (.cons (.iff (.cmp .NotEq (.loc 76) (.loc 69)) (.cons (.ret (.bool false)) .nil) .nil) (.cons (.iff (.not (.val (.loc 62))) (.cons (.expr (.callM 55 63 .nil)) .nil) .nil) (.cons (.expr (.callM 55 75 (.cons (.int 4) .nil))) (.cons (.iff (.and (.cons (.cmp .Eq (.loc 13) (.int 4)) (.cons (.not (.val (.loc 62))) .nil))) (.cons (.ret (.and (.cons (.cmp .Eq (.callM 55 60 (.cons (.int 0) (.cons (.int 0) .nil))) (.tup (.cons (.int 4) (.cons (.bytes []) (.cons (.bool true) .nil))))) (.cons (.cmp .Eq (.attr 55 1) (.str 51)) (.cons (.cmp .Is (.callM 55 60 (.cons (.int 0) (.cons (.int 0) .nil))) .none) .nil))))) .nil) .nil) (.cons (.ret (.or (.cons (.cmp .Eq (.loc 13) (.int 4)) (.cons (.and (.cons (.cmp .Eq (.callM 55 60 (.cons (.int 9) (.cons .none .nil))) (.tup (.cons (.loc 13) (.cons (.cut (.bytes [97, 98, 99, 100]) (.loc 13) .none) (.cons (.bool true) .nil))))) (.cons (.cmp .Eq (.attr 55 1) (.str 51)) .nil))) .nil)))) .nil)))))))))))))
noncomputable def b_l_room_right : Ss := (.cons (.asgT [56, 0, 62, 61] (.loc 54)) (.cons (.asgC (.callF 74 (.cons (.loc 54) .nil))) (.cons (.asg 77 (.ite (.cmp .Eq (.loc 56) (.int 0)) (.int 0) (.callF 19 (.cons (.loc 61) (.cons (.loc 0) (.cons (.int 4) .nil)))))) (.cons (.asg 34 (.ite (.cmp .Lt (.loc 56) (.int 2)) (.sub (.callF 19 (.cons (.int 4) (.cons (.loc 0) .nil))) (.loc 77)) (.int 0))) (.cons (.iff (.cmp .NotEq (.comp 36 21 (.cons .none (.cons (.int 0) (.cons (.int 1) (.cons (.int 9) .nil))))) (.lst (.cons (.loc 34) (.cons (.int 0) (.cons (.callF 19 (.cons (.loc 34) (.cons (.int 1) .nil))) (.cons (.loc 34) .nil)))))) (.cons (.ret (.bool false)) .nil) .nil) (.cons (.iff (.cmp .NotEq (.celM 71 .nil) (.ite (.and (.cons (.cmp .Lt (.loc 56) (.int 2)) (.cons (.cmp .GtE (.loc 77) (.loc 0)) (.cons (.cmp .Lt (.loc 77) (.int 4)) .nil)))) (.loc 0) .none)) (.cons (.ret (.bool false)) .nil) .nil) (.cons (.asg 79 (.and (.cons (.loc 62) (.cons (.cmp .Lt (.loc 56) (.int 2)) (.cons (.cmp .Eq (.loc 77) (.int 4)) .nil))))) (.cons (.ret (.and (.cons (.cmp .Eq (.comp 66 21 (.cons .none (.cons (.int 0) .nil))) (.lst (.cons (.or (.cons (.cmp .Gt (.loc 34) (.int 0)) (.cons (.loc 79) .nil))) (.cons (.loc 79) .nil)))) (.cons (.cmp .Eq (.celM 68 .nil) (.cmp .In (.loc 56) (.tup (.cons (.int 3) (.cons (.int 5) .nil))))) .nil)))) .nil))))))))
noncomputable def b_tail : Ss := (.cons (.iff (.cmp .In (.loc 56) (.tup (.cons (.int 2) (.cons (.int 3) .nil)))) (.cons (.asg3 0 62 61 (.tup (.cons (.callF 18 (.cons (.loc 0) (.cons (.int 4) .nil))) (.cons (.bool true) (.cons (.int 9) .nil))))) .nil) .nil) (.cons (.iff (.and (.cons (.cmp .Eq (.loc 56) (.int 1)) (.cons (.val (.loc 62)) (.cons (.cmp .Gt (.loc 0) (.int 3)) (.cons (.cmp .Eq (.loc 61) (.int 9)) .nil))))) (.cons (.asg 61 (.int 2)) .nil) .nil) (.cons (.asg 54 (.tup (.cons (.loc 56) (.cons (.loc 0) (.cons (.loc 62) (.cons (.loc 61) .nil)))))) (.cons (.iff (.cmp .NotEq (.attrX (.callF 74 (.cons (.loc 54) .nil)) 1) (.idx (.callF 72 .nil) (.loc 56))) (.cons (.ret (.bool false)) .nil) .nil) .nil))))
noncomputable def words : List Str := [Str.ofString "limit", Str.ofString "state", Str.ofString "written", Str.ofString "sent_to", Str.ofString "acked", Str.ofString "lost", Str.ofString "is_finished", Str.ofString "owes_end", Str.ofString "is_end_acked", Str.ofString "reset_code", Str.ofString "owes_reset", Str.ofString "spans", Str.ofString "low", Str.ofString "high", Str.ofString "is_put", Str.ofString "found", Str.ofString "one", Str.ofString "other", Str.ofString "max", Str.ofString "min", Str.ofString "list", Str.ofString "most", Str.ofString "len", Str.ofString "others", Str.ofString "cut_span", Str.ofString "self", Str.ofString "data", Str.ofString "bytes", Str.ofString "OPEN_STATES", Str.ofString "code", Str.ofString "RESET_SENT", Str.ofString "DATA_SENT", Str.ofString "reset", Str.ofString "most_new", Str.ofString "room", Str.ofString "is_blocked", Str.ofString "new_room", Str.ofString "is_end", Str.ofString "SENDING", Str.ofString "span", Str.ofString "first_span", Str.ofString "offset", Str.ofString "size", Str.ofString "has_span", Str.ofString "DATA_RECEIVED", Str.ofString "add_span", Str.ofString "without_spans", Str.ofString "RESET_RECEIVED", Str.ofString "reset_recvd", Str.ofString "reset_sent", Str.ofString "data_recvd", Str.ofString "data_sent", Str.ofString "send", Str.ofString "ready", Str.ofString "plan", Str.ofString "part", Str.ofString "at", Str.ofString "on_reset_acked", Str.ofString "next_reset", Str.ofString "on_acked", Str.ofString "next_chunk", Str.ofString "sent", Str.ofString "is_ended", Str.ofString "finish", Str.ofString "write", Str.ofString "SendPart", Str.ofString "has_to_send", Str.ofString "on_reset_lost", Str.ofString "is_over", Str.ofString "due", Str.ofString "is_let", Str.ofString "blocked_at", Str.ofString "_law_states", Str.ofString "on_stop", Str.ofString "_law_made", Str.ofString "raise_limit", Str.ofString "told", Str.ofString "gone", Str.ofString "on_lost", Str.ofString "owes", Str.ofString "script", Str.ofString "pen"]
noncomputable def fnTab : List (Nat × List Nat × Ss) := [(41, [11, 12, 13], b_add_span), (48, [11, 12, 13], b_cut_span), (55, [11, 12, 13], b_has_span), (62, [11, 21], b_first_span), (69, [11, 23], b_without_spans), (91, [25, 26], b_m_write), (98, [25], b_m_finish), (105, [25, 29], b_m_reset), (112, [25, 29], b_m_on_stop), (119, [25, 0], b_m_raise_limit), (126, [25, 33], b_m_new_room), (133, [25], b_m_blocked_at), (140, [25, 33], b_m_has_to_send), (147, [25, 21, 33], b_m_next_chunk), (154, [25], b_m_next_reset), (161, [25, 41, 42, 37], b_m_on_acked), (168, [25, 41, 42, 37], b_m_on_lost), (175, [25], b_m_on_reset_acked), (182, [25], b_m_on_reset_lost), (189, [25], b_m_is_over), (203, [], b_l_states), (217, [54], b_l_made), (238, [54], b_l_giving_up_right), (250, [54], b_l_chunks_right)]
noncomputable def glbs : List (Nat × AV) := [(45, .top 41), (24, .top 48), (43, .top 55), (40, .top 62), (46, .top 69), (72, .top 203), (74, .top 217), (65, .top 192), (28, .top 70), (38, .str 52), (31, .str 51), (44, .str 50), (30, .str 49), (47, .str 48), (22, .blt 0), (19, .blt 1), (18, .blt 2), (20, .blt 3), (27, .blt 4)]
noncomputable def meths : List (Nat × Nat) := [(64, 91), (63, 98), (32, 105), (73, 112), (75, 119), (36, 126), (71, 133), (66, 140), (60, 147), (58, 154), (59, 161), (78, 168), (57, 175), (67, 182), (68, 189)]
noncomputable abbrev wREADY : Nat := 53
noncomputable abbrev wSEND : Nat := 52
noncomputable abbrev wPART : Nat := 55
noncomputable def isFld (f : Nat) : Bool := Nat.blt f 11
noncomputable def eqN : List Nat → List Nat → Bool
  | [], [] => true
  | x :: r, y :: q => match Nat.beq x y with
    | true => eqN r q
    | false => false
  | _, _ => false
noncomputable def sameB : Bool → Bool → Bool
  | true, true => true
  | false, false => true
  | _, _ => false
noncomputable def sameV : AV → AV → Option Bool
  | .none, .none => some true
  | .bool a, .bool b => some (sameB a b)
  | .int a, .int b => some (Z.eqB a b)
  | .str a, .str b => some (Nat.beq a b)
  | _, _ => none
noncomputable def plainEq : AV → AV → Bool
  | .bool a, .bool b => sameB a b
  | .int a, .int b => Z.eqB a b
  | .bytes a, .bytes b => eqN a b
  | _, _ => false
noncomputable def plainEqs : List AV → List AV → Bool
  | [], [] => true
  | a :: r, b :: q => plainEq a b && plainEqs r q
  | _, _ => false
noncomputable def ibEq : AV → AV → Bool
  | .bool a, .bool b => sameB a b
  | .int a, .int b => Z.eqB a b
  | _, _ => false
noncomputable def ibEqs : List AV → List AV → Bool
  | [], [] => true
  | a :: r, b :: q => ibEq a b && ibEqs r q
  | _, _ => false
noncomputable def eqV (σ : Mem) : AV → AV → Option Bool
  | .obj i, .obj j => match nth σ i, nth σ j with
    | some (.tup xs), some (.tup ys) => match plainEqs xs ys with | true => some true | false => none
    | some (.list xs), some (.list ys) => match ibEqs xs ys with | true => some true | false => none
    | _, _ => none
  | a, b => sameV a b
noncomputable def avS : AV → Option Nat
  | .str j => some j
  | _ => none
noncomputable def avI : AV → Option Int
  | .int j => some j
  | _ => none
noncomputable def inStrs (i : Nat) : List AV → Option Bool
  | [] => some false
  | a :: r => (avS a).bind fun j => (inStrs i r).map fun c => Nat.beq j i || c
noncomputable def inInts (k : Int) : List AV → Option Bool
  | [] => some false
  | a :: r => (avI a).bind fun j => (inInts k r).map fun c => Z.eqB j k || c
noncomputable def inV (σ : Mem) : AV → AV → Option Bool
  | .str i, .top a => match Nat.beq a 70 with
    | true => inStrs i [.str wREADY, .str wSEND]
    | false => none
  | .str i, .obj t => match nth σ t with | some (.tup xs) => inStrs i xs | _ => none
  | .int k, .obj t => match nth σ t with | some (.tup xs) => inInts k xs | _ => none
  | _, _ => none
noncomputable def isNone : AV → Option Bool
  | .none => some true
  | .int _ => some false
  | .obj _ => some false
  | _ => none
noncomputable def neg : Bool → Bool
  | true => false
  | false => true
noncomputable def cmpV (op : CmpOp) (a b : AV) (σ : Mem) : Option Bool := match op with
  | .Eq => eqV σ a b
  | .NotEq => match eqV σ a b with | some c => some (neg c) | none => none
  | .Lt => match a, b with | .int x, .int y => some (Z.ltB x y) | _, _ => none
  | .LtE => match a, b with | .int x, .int y => some (Z.leB x y) | _, _ => none
  | .Gt => match a, b with | .int x, .int y => some (Z.ltB y x) | _, _ => none
  | .GtE => match a, b with | .int x, .int y => some (Z.leB y x) | _, _ => none
  | .Is => match b with | .none => isNone a | _ => none
  | .IsNot => match b with | .none => (match isNone a with | some c => some (neg c) | none => none) | _ => none
  | .In => inV σ a b
  | .NotIn => match inV σ a b with | some c => some (neg c) | none => none
noncomputable def natOf : Int → Option Nat
  | .ofNat n => some n
  | .negSucc _ => none
noncomputable def takeN {α : Type} : Nat → List α → List α
  | 0, _ => []
  | _ + 1, [] => []
  | n + 1, x :: r => x :: takeN n r
noncomputable def dropN {α : Type} : Nat → List α → List α
  | 0, l => l
  | _ + 1, [] => []
  | n + 1, _ :: r => dropN n r
noncomputable def lenN {α : Type} : List α → Nat
  | [] => 0
  | _ :: r => lenN r + 1
noncomputable def minB (a b : Int) : Int := match Z.ltB b a with | true => b | false => a
noncomputable def maxB (a b : Int) : Int := match Z.ltB a b with | true => b | false => a
noncomputable def bLen (as : List AV) (σ : Mem) : Option (AV × Mem) := match as with
  | [.bytes l] => match Nat.ble (lenN l) 1000 with | true => some (.int (.ofNat (lenN l)), σ) | false => none
  | [.obj i] => match nth σ i with | some (.list xs) => (match Nat.ble (lenN xs) 1000 with | true => some (.int (.ofNat (lenN xs)), σ) | false => none) | _ => none
  | _ => none
noncomputable def bMin (as : List AV) (σ : Mem) : Option (AV × Mem) := match as with
  | [.int x, .int y] => some (.int (minB x y), σ)
  | [.int x, .int y, .int z] => some (.int (minB x (minB y z)), σ)
  | _ => none
noncomputable def bMax (as : List AV) (σ : Mem) : Option (AV × Mem) := match as with
  | [.int x, .int y] => some (.int (maxB x y), σ)
  | _ => none
noncomputable def bList (as : List AV) (σ : Mem) : Option (AV × Mem) := match as with
  | [.obj i] => match nth σ i with | some (.list xs) => (match Nat.ble (lenN xs) 1000 with | true => some (.obj (lenN σ), σ ++ [.list xs]) | false => none) | _ => none
  | _ => none
noncomputable def bBytes (as : List AV) (σ : Mem) : Option (AV × Mem) := match as with
  | [.bytes l] => some (.bytes l, σ)
  | _ => none
noncomputable def bltV (b : Nat) (as : List AV) (σ : Mem) : Option (AV × Mem) := match b with
  | 0 => bLen as σ
  | 1 => bMin as σ
  | 2 => bMax as σ
  | 3 => bList as σ
  | 4 => bBytes as σ
  | _ => none
noncomputable def addV (a b : AV) (σ : Mem) : Option (AV × Mem) := match a, b with
  | .int x, .int y => some (.int (x + y), σ)
  | .bytes l, .bytes r => match Nat.ble (lenN l + lenN r) 1000 with | true => some (.bytes (l ++ r), σ) | false => none
  | .obj i, .obj j => match nth σ i, nth σ j with
    | some (.list xs), some (.list ys) => (match Nat.ble (lenN xs + lenN ys) 1000 with | true => some (.obj (lenN σ), σ ++ [.list (xs ++ ys)]) | false => none)
    | _, _ => none
  | _, _ => none
noncomputable def cutV : AV → AV → AV → Option AV
  | .bytes l, .int lo, .int hi => match eqN l [97, 98, 99, 100], natOf lo, natOf hi with
    | true, some a, some b => match Nat.ble a 4, Nat.ble b 4 with
      | true, true => some (.bytes (dropN a (takeN b [97, 98, 99, 100])))
      | _, _ => none
    | _, _, _ => none
  | .bytes l, .int lo, .none => match eqN l [97, 98, 99, 100], natOf lo with
    | true, some a => match Nat.ble a 4 with
      | true => some (.bytes (dropN a [97, 98, 99, 100]))
      | _ => none
    | _, _ => none
  | _, _, _ => none
noncomputable def idxV (a b : AV) (σ : Mem) : Option AV := match a, b with
  | .obj i, .int k => match nth σ i, natOf k with
    | some (.list xs), some n => match Nat.ble n 1000 with | true => nth xs n | false => none
    | _, _ => none
  | _, _ => none
noncomputable def fldV (o : AV) (f : Nat) (σ : Mem) : Option AV := match o with
  | .obj i => match nth σ i with
    | some (.inst d) => match nth σ d with
      | some (.part fs) => nth fs f
      | _ => none
    | _ => none
  | _ => none
noncomputable def putV (o : AV) (f : Nat) (v : AV) (σ : Mem) : Option Mem := match o with
  | .obj i => match nth σ i with
    | some (.inst d) => match nth σ d with
      | some (.part fs) => match isFld f with | true => some (setN (.part (setN v fs f)) σ d) | false => none
      | _ => none
    | _ => none
  | _ => none
noncomputable def isInst (o : AV) (σ : Mem) : Bool := match o with
  | .obj i => match nth σ i with
    | some (.inst d) => match nth σ d with
      | some (.part _) => true
      | _ => false
    | _ => false
  | _ => false
noncomputable def newPart (k : Int) (σ : Mem) : AV × Mem :=
  let n := lenN σ
  (.obj (n + 3), σ ++ [.list [], .list [], .part [.int k, .str wREADY, .bytes [], .int 0, .obj n, .obj (n + 1), .bool false, .bool false, .bool false, .none, .bool false], .inst (n + 2)])
noncomputable abbrev CallF := Nat → List AV → Mem → Option (AV × Mem)
section
variable (call : CallF)
noncomputable def callV (f : AV) (as : List AV) (σ : Mem) : Option (AV × Mem) := match f with
  | .blt b => bltV b as σ
  | .top a => match Nat.beq a 70 with
    | true => none
    | false => match Nat.beq a 192 with
      | true => match as with | [.int k] => some (newPart k σ) | _ => none
      | false => call a as σ
  | _ => none
noncomputable def cellV (σ : Mem) : Option AV := match nth σ 1 with
  | some (.cell (some v)) => some v
  | _ => none
noncomputable def compRun (a : Nat) : List AV → Mem → Option (List AV × Mem)
  | [], σ => some ([], σ)
  | u :: us, σ => match cellV σ with
    | some v => match isInst v σ with
      | true => match call a [v, u] σ with
        | some (r, σ) => match compRun a us σ with
          | some (rs, σ) => some (r :: rs, σ)
          | none => none
        | none => none
      | false => none
    | none => none
mutual
noncomputable def evX (ls : Locs) : X → Mem → Option (AV × Mem)
  | .opq, _ => none
  | .none, σ => some (.none, σ)
  | .bool b, σ => some (.bool b, σ)
  | .int k, σ => some (.int (.ofNat k), σ)
  | .str i, σ => some (.str i, σ)
  | .bytes l, σ => some (.bytes l, σ)
  | .loc i, σ => match lookN i ls with | some v => some (v, σ) | none => none
  | .glb i, σ => match lookN i glbs with | some v => some (v, σ) | none => none
  | .attr o f, σ => match lookN o ls with
    | some v => match fldV v f σ with | some r => some (r, σ) | none => none
    | none => none
  | .attrX x f, σ => match evX ls x σ with
    | some (v, σ) => match fldV v f σ with | some r => some (r, σ) | none => none
    | none => none
  | .callF g as, σ => match lookN g glbs with
    | some fv => match evXs ls as σ with
      | some (vs, σ) => callV call fv vs σ
      | none => none
    | none => none
  | .callM o f as, σ => match lookN o ls, lookN f meths with
    | some v, some a => match isInst v σ with
      | true => match evXs ls as σ with
        | some (vs, σ) => call a (v :: vs) σ
        | none => none
      | false => none
    | _, _ => none
  | .cmp op l r, σ => match evX ls l σ with
    | some (a, σ) => match evX ls r σ with
      | some (b, σ) => match cmpV op a b σ with | some c => some (.bool c, σ) | none => none
      | none => none
    | none => none
  | .and xs, σ => evAnd ls xs σ
  | .or xs, σ => evOr ls xs σ
  | .not x, σ => match evX ls x σ with
    | some (.bool b, σ) => some (.bool (neg b), σ)
    | _ => none
  | .add l r, σ => match evX ls l σ with
    | some (a, σ) => match evX ls r σ with
      | some (b, σ) => addV a b σ
      | none => none
    | none => none
  | .sub l r, σ => match evX ls l σ with
    | some (.int x, σ) => match evX ls r σ with
      | some (.int y, σ) => some (.int (x - y), σ)
      | _ => none
    | _ => none
  | .ite t a b, σ => match evT ls t σ with
    | some (true, σ) => evX ls a σ
    | some (false, σ) => evX ls b σ
    | none => none
  | .tup xs, σ => match evXs ls xs σ with
    | some (vs, σ) => match Nat.ble (lenN vs) 1000 with | true => some (.obj (lenN σ), σ ++ [.tup vs]) | false => none
    | none => none
  | .lst xs, σ => match evXs ls xs σ with
    | some (vs, σ) => match Nat.ble (lenN vs) 1000 with | true => some (.obj (lenN σ), σ ++ [.list vs]) | false => none
    | none => none
  | .idx x i, σ => match evX ls x σ with
    | some (a, σ) => match evX ls i σ with
      | some (b, σ) => match idxV a b σ with | some v => some (v, σ) | none => none
      | none => none
    | none => none
  | .cut x lo hi, σ => match evX ls x σ with
    | some (a, σ) => match evX ls lo σ with
      | some (b, σ) => match evX ls hi σ with
        | some (c, σ) => match cutV a b c with | some v => some (v, σ) | none => none
        | none => none
      | none => none
    | none => none
  | .celM f as, σ => match lookN f meths, cellV σ with
    | some a, some v => match isInst v σ with
      | true => match evXs ls as σ with
        | some (vs, σ) => call a (v :: vs) σ
        | none => none
      | false => none
    | _, _ => none
  | .comp f _ as, σ => match evXs ls as σ with
    | some (vs, σ) => match Nat.ble (lenN vs) 1000, lookN f meths with
      | true, some a => match compRun call a vs σ with
        | some (rs, σ) => some (.obj (lenN σ), σ ++ [.list rs])
        | none => none
      | _, _ => none
    | none => none
noncomputable def evXs (ls : Locs) : Xs → Mem → Option (List AV × Mem)
  | .nil, σ => some ([], σ)
  | .cons x xs, σ => match evX ls x σ with
    | some (v, σ) => match evXs ls xs σ with
      | some (vs, σ) => some (v :: vs, σ)
      | none => none
    | none => none
noncomputable def evAnd (ls : Locs) : Xs → Mem → Option (AV × Mem)
  | .nil, _ => none
  | .cons x .nil, σ => evX ls x σ
  | .cons x (.cons y ys), σ => match evX ls x σ with
    | some (.bool true, σ) => evAnd ls (.cons y ys) σ
    | some (.bool false, σ) => some (.bool false, σ)
    | _ => none
noncomputable def evOr (ls : Locs) : Xs → Mem → Option (AV × Mem)
  | .nil, _ => none
  | .cons x .nil, σ => evX ls x σ
  | .cons x (.cons y ys), σ => match evX ls x σ with
    | some (.bool false, σ) => evOr ls (.cons y ys) σ
    | some (.bool true, σ) => some (.bool true, σ)
    | _ => none
noncomputable def evT (ls : Locs) : T → Mem → Option (Bool × Mem)
  | .and ts, σ => evTAnd ls ts σ
  | .or ts, σ => evTOr ls ts σ
  | .not t, σ => match evT ls t σ with | some (b, σ) => some (neg b, σ) | none => none
  | .cmp op l r, σ => match evX ls l σ with
    | some (a, σ) => match evX ls r σ with
      | some (b, σ) => match cmpV op a b σ with | some c => some (c, σ) | none => none
      | none => none
    | none => none
  | .val x, σ => match evX ls x σ with
    | some (.bool b, σ) => some (b, σ)
    | _ => none
noncomputable def evTAnd (ls : Locs) : Ts → Mem → Option (Bool × Mem)
  | .nil, σ => some (true, σ)
  | .cons t ts, σ => match evT ls t σ with
    | some (true, σ) => evTAnd ls ts σ
    | some (false, σ) => some (false, σ)
    | none => none
noncomputable def evTOr (ls : Locs) : Ts → Mem → Option (Bool × Mem)
  | .nil, σ => some (false, σ)
  | .cons t ts, σ => match evT ls t σ with
    | some (false, σ) => evTOr ls ts σ
    | some (true, σ) => some (true, σ)
    | none => none
end
inductive Fl
  | next | ret (v : AV)
noncomputable def bindAll : List Nat → List AV → Locs → Option Locs
  | [], [], ls => some ls
  | i :: is, v :: vs, ls => bindAll is vs ((i, v) :: ls)
  | _, _, _ => none
noncomputable def loopN (run : Locs → Mem → Option (Fl × Locs × Mem)) (is : List Nat) (l k : Nat) : Nat → Nat → Locs → Mem → Option (Fl × Locs × Mem)
  | 0, _, _, _ => none
  | n + 1, i, ls, σ => match nth σ k with
    | some (.iter l' i') => match Nat.beq l' l, Nat.beq i' i with
      | true, true => match nth σ l with
        | some (.list xs) => match nth xs i with
          | none => some (.next, ls, setN .junk σ k)
          | some (.obj t) => match nth σ t with
            | some (.tup vs) => match bindAll is vs ls with
              | some ls => match run ls (setN (.iter l (i + 1)) σ k) with
                | some (.next, ls, σ) => loopN run is l k n (i + 1) ls σ
                | some (.ret v, ls, σ) => some (.ret v, ls, σ)
                | none => none
              | none => none
            | _ => none
          | some _ => none
        | _ => none
      | _, _ => none
    | _ => none
mutual
noncomputable def exS : S → Locs → Mem → Option (Fl × Locs × Mem)
  | .opq, _, _ => none
  | .asg i x, ls, σ => match evX call ls x σ with | some (v, σ) => some (.next, (i, v) :: ls, σ) | none => none
  | .asgT is x, ls, σ => match evX call ls x σ with
    | some (.obj t, σ) => match nth σ t with
      | some (.tup vs) => match bindAll is vs ls with | some ls => some (.next, ls, σ) | none => none
      | _ => none
    | _ => none
  | .asgW is x, ls, σ => match is, evX call ls x σ with
    | [i, j], some (.obj t, σ) => match nth σ t with
      | some (.tup [v, u]) => some (.next, (i, v) :: (j, u) :: ls, σ)
      | _ => none
    | _, _ => none
  | .asg3 i j k x, ls, σ => match evX call ls x σ with
    | some (.obj t, σ) => match nth σ t with
      | some (.tup [v, u, z]) => some (.next, (i, v) :: (j, u) :: (k, z) :: ls, σ)
      | _ => none
    | _ => none
  | .put o f x, ls, σ => match evX call ls x σ with
    | some (v, σ) => match lookN o ls with
      | some ov => match putV ov f v σ with | some σ => some (.next, ls, σ) | none => none
      | none => none
    | none => none
  | .expr x, ls, σ => match evX call ls x σ with | some (_, σ) => some (.next, ls, σ) | none => none
  | .iff t a b, ls, σ => match evT call ls t σ with
    | some (true, σ) => exSs a ls σ
    | some (false, σ) => exSs b ls σ
    | none => none
  | .ret x, ls, σ => match evX call ls x σ with | some (v, σ) => some (.ret v, ls, σ) | none => none
  | .retN, ls, σ => some (.ret .none, ls, σ)
  | .for2 is x b, ls, σ => match evX call ls x σ with
    | some (.obj l, σ) => match nth σ l with
      | some (.list _) => loopN (exSs b) is l (lenN σ) 8 0 ls (σ ++ [.iter l 0])
      | _ => none
    | _ => none
  | .asgC x, ls, σ => match evX call ls x σ with
    | some (v, σ) => match nth σ 1 with
      | some (.cell _) => some (.next, ls, setN (.cell (some v)) σ 1)
      | _ => none
    | none => none
noncomputable def exSs : Ss → Locs → Mem → Option (Fl × Locs × Mem)
  | .nil, ls, σ => some (.next, ls, σ)
  | .cons s ss, ls, σ => match exS s ls σ with
    | some (.next, ls, σ) => exSs ss ls σ
    | some (.ret v, ls, σ) => some (.ret v, ls, σ)
    | none => none
end
end
noncomputable def runF : Nat → CallF
  | 0 => fun _ _ _ => none
  | n + 1 => fun f as σ => match lookN f fnTab with
    | some (ps, b) => match bindAll ps as [] with
      | some ls => match exSs (runF n) b ls σ with
        | some (.ret v, _, σ) => some (v, σ)
        | some (.next, _, σ) => some (.none, σ)
        | none => none
      | none => none
    | none => none
end

section
open PySem PySem.W PyProof.Rows PySem.Calls
noncomputable def nm (i : Nat) : Str := (nth words i).getD ⟨#[2000000 + i]⟩
noncomputable def bltVal : Nat → Value
  | 0 => .builtin "len"
  | 1 => .builtin "min"
  | 2 => .builtin "max"
  | 3 => .type "list"
  | _ => .type "bytes"
noncomputable def VR (ρ : List Addr) : AV → Value → Prop
  | .none, v => v = .none
  | .bool b, v => v = .bool b
  | .int k, v => ∃ t, v = .int k t
  | .str i, v => ∃ t, v = .str (nm i) t
  | .bytes l, v => ∃ t, v = .bytes (l.map UInt8.ofNat).toArray t
  | .obj i, v => ∃ a, nth ρ i = some a ∧ v = .ref a
  | .top a, v => v = .ref a
  | .blt b, v => v = bltVal b
noncomputable def VRs (ρ : List Addr) : List AV → List Value → Prop
  | [], [] => True
  | a :: r, v :: q => VR ρ a v ∧ VRs ρ r q
  | _, _ => False
noncomputable def OR (ρ : List Addr) : AO → Obj → Prop
  | .inst d, o => ∃ dx, nth ρ d = some dx ∧ o = instObj 192 dx
  | .part fs, o => ∃ K v0 v1 v2 v3 v4 v5 v6 v7 v8 v9 va, VRs ρ fs [v0, v1, v2, v3, v4, v5, v6, v7, v8, v9, va] ∧ o = pD K v0 v1 v2 v3 v4 v5 v6 v7 v8 v9 va
  | .list xs, o => ∃ vs n, VRs ρ xs vs ∧ o = listOf vs.toArray n
  | .tup xs, o => ∃ vs n, VRs ρ xs vs ∧ o = { cls := .type "tuple", data := .seq vs.toArray n }
  | .iter l i, o => ∃ a, nth ρ l = some a ∧ o.cls = .type "list_iterator" ∧ o.data = .fields #[.ref a, .int i 0]
  | .junk, _ => True
  | .tab, o => o = tabObj #[]
  | .cell none, o => o.data = .cell none
  | .cell (some v), o => ∃ u, o.data = .cell (some u) ∧ VR ρ v u
noncomputable def isJ : AO → Bool
  | .junk => true
  | _ => false
noncomputable def live : Mem → List (Addr × Obj) → List (Addr × Obj)
  | a :: σ, q :: l => match isJ a with
    | true => live σ l
    | false => q :: live σ l
  | _, _ => []
inductive ORs (ρ : List Addr) : Mem → List (Addr × Obj) → Prop
  | nil : ORs ρ [] []
  | cons {a : AO} {q : Addr × Obj} {r : Mem} {l : List (Addr × Obj)} : OR ρ a q.2 → ORs ρ r l → ORs ρ (a :: r) (q :: l)
noncomputable abbrev adr (led : List (Addr × Obj)) : List Addr := led.map (·.1)
structure Inv (h₀ : Heap) (L : Addr) (m : Str → Option Value) (ls : Locs) (σ : Mem) (led : List (Addr × Obj)) (h : Heap) : Prop where
  fr : Fr h₀ L h m
  nw : News h₀ L h (live σ led)
  nd : (adr (live σ led)).Nodup
  ob : ORs (adr led) σ led
  lc : ∀ i v, lookN i ls = some v → ∃ u, m (nm i) = some u ∧ VR (adr led) v u

theorem nth_append_some {α : Type} : ∀ {l r : List α} {i : Nat} {a : α}, nth l i = some a → nth (l ++ r) i = some a
  | _ :: _, _, 0, _, h => h
  | _ :: l, _, i + 1, _, h => nth_append_some (l := l) (i := i) h
theorem nth_mem {α : Type} : ∀ {l : List α} {i : Nat} {a : α}, nth l i = some a → a ∈ l
  | _ :: _, 0, _, h => by cases h; exact .head _
  | _ :: l, i + 1, _, h => .tail _ (nth_mem (l := l) (i := i) h)
theorem nth_prefix {α : Type} {l r : List α} {i : Nat} {a : α} (p : l <+: r) (h : nth l i = some a) : nth r i = some a := by
  obtain ⟨q, rfl⟩ := p
  exact nth_append_some h
theorem lenN_eq {α : Type} : ∀ l : List α, lenN l = l.length
  | [] => rfl
  | _ :: r => by show lenN r + 1 = r.length + 1; rw [lenN_eq r]
theorem nth_last {α : Type} : ∀ (l : List α) (a : α), nth (l ++ [a]) l.length = some a
  | [], _ => rfl
  | _ :: r, a => nth_last r a
theorem nth_len {α : Type} : ∀ {l : List α} {i : Nat} {a : α}, nth l i = some a → i < l.length
  | _ :: _, 0, _, _ => Nat.succ_pos _
  | _ :: l, i + 1, _, h => Nat.succ_lt_succ (nth_len (l := l) (i := i) h)
theorem nth_none {α : Type} : ∀ {l : List α} {i : Nat}, nth l i = none → l.length ≤ i
  | [], _, _ => Nat.zero_le _
  | _ :: l, i + 1, h => Nat.succ_le_succ (nth_none (l := l) (i := i) h)
theorem nth_eq {α : Type} : ∀ (l : List α) (i : Nat), nth l i = l[i]?
  | [], _ => by simp [nth]
  | _ :: _, 0 => rfl
  | _ :: l, i + 1 => by show nth l i = _; rw [nth_eq l i]; rfl
section
variable {ρ ρ' : List Addr}
theorem VR.up (p : ρ <+: ρ') : ∀ {a : AV} {v : Value}, VR ρ a v → VR ρ' a v
  | .none, _, h => h
  | .bool _, _, h => h
  | .int _, _, h => h
  | .str _, _, h => h
  | .bytes _, _, h => h
  | .obj _, _, ⟨a, h, e⟩ => ⟨a, nth_prefix p h, e⟩
  | .top _, _, h => h
  | .blt _, _, h => h
theorem VRs.up (p : ρ <+: ρ') : ∀ {a : List AV} {v : List Value}, VRs ρ a v → VRs ρ' a v
  | [], [], _ => trivial
  | _ :: _, _ :: _, ⟨h, r⟩ => ⟨h.up p, r.up p⟩
theorem VRs.nil {vs : List Value} (h : VRs ρ [] vs) : vs = [] := by
  cases vs with
  | nil => rfl
  | cons v r => exact h.elim
theorem VRs.one {a : AV} {vs : List Value} (h : VRs ρ [a] vs) : ∃ v, vs = [v] ∧ VR ρ a v := by
  match vs, h with | [v], h => exact ⟨v, rfl, h.1⟩
theorem VRs.cut {a : AV} {as : List AV} {vs : List Value} (h : VRs ρ (a :: as) vs) : ∃ v r, vs = v :: r ∧ VR ρ a v ∧ VRs ρ as r := by
  cases vs with
  | nil => exact h.elim
  | cons v r => exact ⟨v, r, rfl, h⟩
theorem VRs.two {a b : AV} {vs : List Value} (h : VRs ρ [a, b] vs) : ∃ u v, vs = [u, v] ∧ VR ρ a u ∧ VR ρ b v := by
  obtain ⟨u, r, rfl, h1, h⟩ := h.cut
  obtain ⟨v, rfl, h2⟩ := h.one
  exact ⟨u, v, rfl, h1, h2⟩
theorem VRs.three {a b c : AV} {vs : List Value} (h : VRs ρ [a, b, c] vs) : ∃ t u v, vs = [t, u, v] ∧ VR ρ a t ∧ VR ρ b u ∧ VR ρ c v := by
  obtain ⟨u, r, rfl, h1, h⟩ := h.cut
  obtain ⟨v, w, rfl, h2, h3⟩ := h.two
  exact ⟨u, v, w, rfl, h1, h2, h3⟩
theorem OR.up (p : ρ <+: ρ') {a : AO} {o : Obj} (h : OR ρ a o) : OR ρ' a o := by
  cases a with
  | inst _ => exact h.imp fun _ z => ⟨nth_prefix p z.1, z.2⟩
  | part _ =>
    obtain ⟨K, v0, v1, v2, v3, v4, v5, v6, v7, v8, v9, va, h, e⟩ := h
    exact ⟨K, v0, v1, v2, v3, v4, v5, v6, v7, v8, v9, va, h.up p, e⟩
  | list _ => exact h.imp fun _ z => z.imp fun _ z => ⟨z.1.up p, z.2⟩
  | tup _ => exact h.imp fun _ z => z.imp fun _ z => ⟨z.1.up p, z.2⟩
  | iter _ _ => exact h.imp fun _ z => ⟨nth_prefix p z.1, z.2⟩
  | junk => trivial
  | tab => exact h
  | cell v => cases v with
    | none => exact h
    | some _ => exact h.imp fun _ z => ⟨z.1, z.2.up p⟩
theorem ORs.up (p : ρ <+: ρ') {a : Mem} {l : List (Addr × Obj)} (h : ORs ρ a l) : ORs ρ' a l := by
  induction h with
  | nil => exact .nil
  | cons h _ ih => exact .cons (h.up p) ih
theorem VRs.len : ∀ {a : List AV} {v : List Value}, VRs ρ a v → a.length = v.length
  | [], [], _ => rfl
  | _ :: _, _ :: _, ⟨_, r⟩ => congrArg (· + 1) r.len
theorem VRs.nth : ∀ {a : List AV} {v : List Value} {i : Nat} {x : AV}, VRs ρ a v → nth a i = some x → ∃ u, Mine.nth v i = some u ∧ VR ρ x u
  | _ :: _, _ :: _, 0, _, ⟨h, _⟩, e => by cases e; exact ⟨_, rfl, h⟩
  | _ :: _, _ :: _, _ + 1, _, ⟨_, r⟩, e => r.nth e
theorem VRs.set {x : AV} {u : Value} (h : VR ρ x u) : ∀ {a : List AV} {v : List Value} {i : Nat}, VRs ρ a v → VRs ρ (setN x a i) (setN u v i)
  | [], [], _, _ => trivial
  | _ :: _, _ :: _, 0, ⟨_, r⟩ => ⟨h, r⟩
  | _ :: _, _ :: _, _ + 1, ⟨q, r⟩ => ⟨q, r.set h⟩
theorem VRs.app {a' : List AV} {v' : List Value} (h' : VRs ρ a' v') : ∀ {a : List AV} {v : List Value}, VRs ρ a v → VRs ρ (a ++ a') (v ++ v')
  | [], [], _ => h'
  | _ :: _, _ :: _, ⟨q, r⟩ => ⟨q, VRs.app (a := _) (v := _) h' r⟩
theorem ORs.len {a : Mem} {l : List (Addr × Obj)} (h : ORs ρ a l) : a.length = l.length := by
  induction h with
  | nil => rfl
  | cons _ _ ih => exact congrArg (· + 1) ih
theorem ORs.nth {σ : Mem} {l : List (Addr × Obj)} (h : ORs ρ σ l) : ∀ {i : Nat} {x : AO}, nth σ i = some x → ∃ q, Mine.nth l i = some q ∧ OR ρ x q.2 := by
  induction h with
  | nil => intro i x e; cases e
  | cons h _ ih =>
    intro i x e
    cases i with
    | zero => cases e; exact ⟨_, rfl, h⟩
    | succ i => exact ih e
theorem ORs.snoc {x : AO} {q : Addr × Obj} (h : OR ρ x q.2) {σ : Mem} {l : List (Addr × Obj)} (H : ORs ρ σ l) : ORs ρ (σ ++ [x]) (l ++ [q]) := by
  induction H with
  | nil => exact .cons h .nil
  | cons z _ ih => exact .cons z ih
theorem ORs.set {x : AO} {q : Addr × Obj} (h : OR ρ x q.2) {σ : Mem} {l : List (Addr × Obj)} (H : ORs ρ σ l) : ∀ {i : Nat}, ORs ρ (setN x σ i) (setN q l i) := by
  induction H with
  | nil => intro i; exact .nil
  | cons z r ih =>
    intro i
    cases i with
    | zero => exact .cons h r
    | succ i => exact .cons z ih
end
theorem nth_map {α β : Type} (f : α → β) : ∀ {l : List α} {i : Nat} {a : α}, nth l i = some a → nth (l.map f) i = some (f a)
  | _ :: _, 0, _, h => by cases h; rfl
  | _ :: l, i + 1, _, h => nth_map f (l := l) (i := i) h
theorem nth_adr {l : List (Addr × Obj)} {i : Nat} {q : Addr × Obj} (h : nth l i = some q) : nth (adr l) i = some q.1 := nth_map _ h
theorem adr_set {a : Addr} {o o' : Obj} {l : List (Addr × Obj)} : ∀ {i : Nat}, nth l i = some (a, o) → adr (setN (a, o') l i) = adr l := by
  induction l with
  | nil => intro i h; cases h
  | cons p l ih =>
    intro i h
    cases i with
    | zero => cases h; rfl
    | succ i => exact congrArg (p.1 :: ·) (ih h)
section
variable {ρ : List Addr}
theorem live_snoc {ao : AO} {q : Addr × Obj} (hj : isJ ao = false) {σ : Mem} {l : List (Addr × Obj)} (H : ORs ρ σ l) : live (σ ++ [ao]) (l ++ [q]) = live σ l ++ [q] := by
  induction H with
  | nil => simp [live, hj]
  | @cons a q' r l' _ _ ih =>
    show live (a :: (r ++ [ao])) (q' :: (l' ++ [q])) = _
    cases h : isJ a with
    | true => simp only [live, h]; exact ih
    | false => simp only [live, h]; rw [ih]; rfl
theorem live_sub : ∀ {σ : Mem} {l : List (Addr × Obj)}, ∀ p ∈ live σ l, p ∈ l := by
  intro σ
  induction σ with
  | nil => intro l p h; cases l <;> cases h
  | cons a σ ih =>
    intro l p h
    cases l with
    | nil => cases h
    | cons q l =>
      cases hj : isJ a with
      | true => simp only [live, hj] at h; exact .tail _ (ih p h)
      | false =>
        simp only [live, hj] at h
        rcases List.mem_cons.mp h with rfl | h
        · exact .head _
        · exact .tail _ (ih p h)
theorem live_mem {x : AO} (hj : isJ x = false) {q : Addr × Obj} {σ : Mem} : ∀ {l : List (Addr × Obj)} {i : Nat}, nth σ i = some x → nth l i = some q → q ∈ live σ l := by
  induction σ with
  | nil => intro l i h; cases h
  | cons a σ ih =>
    intro l i h1 h2
    cases l with
    | nil => cases h2
    | cons p l =>
      cases i with
      | zero => cases h1; cases h2; simp [live, hj]
      | succ i =>
        have := ih (l := l) (i := i) h1 h2
        cases h : isJ a with
        | true => simp only [live, h]; exact this
        | false => simp only [live, h]; exact .tail _ this
theorem upd_live {x x' : AO} (hj : isJ x = false) (hj' : isJ x' = false) {a : Addr} {o o' : Obj} {σ : Mem} : ∀ {l : List (Addr × Obj)} {i : Nat}, (adr (live σ l)).Nodup → nth σ i = some x → nth l i = some (a, o) →
    Upd a o o' (live σ l) (live (setN x' σ i) (setN (a, o') l i)) := by
  induction σ with
  | nil => intro l i _ h; cases h
  | cons b σ ih =>
    intro l i hn h1 h2
    cases l with
    | nil => cases h2
    | cons p l =>
      cases i with
      | zero =>
        cases h1; cases h2
        simp only [setN, live, hj, hj'] at hn ⊢
        exact .head fun p hp e => (List.nodup_cons.mp hn).1 (by have q := List.mem_map_of_mem (f := Prod.fst) hp; rw [e] at q; exact q)
      | succ i =>
        cases h : isJ b with
        | true =>
          simp only [setN, live, h] at hn ⊢
          exact ih hn h1 h2
        | false =>
          simp only [setN, live, h] at hn ⊢
          exact .tail (fun e => (List.nodup_cons.mp hn).1 (by have q := List.mem_map_of_mem (f := Prod.fst) (live_mem (σ := σ) (l := l) (i := i) hj h1 h2); show p.1 ∈ _; rw [e]; exact q)) (ih (List.nodup_cons.mp hn).2 h1 h2)
theorem live_drop {x : AO} (hj : isJ x = false) {a : Addr} {o : Obj} {σ : Mem} : ∀ {l : List (Addr × Obj)} {i : Nat}, (adr (live σ l)).Nodup → nth σ i = some x → nth l i = some (a, o) →
    (∀ p ∈ live (setN .junk σ i) l, p ∈ live σ l ∧ p.1 ≠ a) ∧ (adr (live (setN .junk σ i) l)).Nodup := by
  induction σ with
  | nil => intro l i _ h; cases h
  | cons b σ ih =>
    intro l i hn h1 h2
    cases l with
    | nil => cases h2
    | cons p l =>
      cases i with
      | zero =>
        cases h1; cases h2
        have hJ : isJ .junk = true := rfl
        simp only [setN, live, hj, hJ] at hn ⊢
        exact ⟨fun p hp => ⟨.tail _ hp, fun e => (List.nodup_cons.mp hn).1 (by have q := List.mem_map_of_mem (f := Prod.fst) hp; rw [e] at q; exact q)⟩, (List.nodup_cons.mp hn).2⟩
      | succ i =>
        cases h : isJ b with
        | true =>
          simp only [setN, live, h] at hn ⊢
          exact ih hn h1 h2
        | false =>
          simp only [setN, live, h] at hn ⊢
          obtain ⟨z1, z2⟩ := ih (List.nodup_cons.mp hn).2 h1 h2
          refine ⟨fun q hq => ?_, List.nodup_cons.mpr ⟨fun hm => ?_, z2⟩⟩
          · rcases List.mem_cons.mp hq with rfl | hq
            · exact ⟨.head _, fun e => (List.nodup_cons.mp hn).1 (by have z := List.mem_map_of_mem (f := Prod.fst) (live_mem (σ := σ) (l := l) (i := i) hj h1 h2); show q.1 ∈ _; rw [e]; exact z)⟩
            · exact ⟨.tail _ (z1 q hq).1, (z1 q hq).2⟩
          · obtain ⟨q, hq, e⟩ := List.mem_map.mp hm
            exact (List.nodup_cons.mp hn).1 (e ▸ List.mem_map_of_mem (f := Prod.fst) (z1 q hq).1)
end
section
variable {h₀ h h' : Heap} {L : Addr} {m : Str → Option Value} {ls : Locs} {σ : Mem} {led : List (Addr × Obj)}
theorem Inv.push' (I : Inv h₀ L m ls σ led h) {D : Addr} {o : Obj} {ao : AO} (F : Fr h₀ L h' m) (N : News h₀ L h' ((D, o) :: live σ led)) (ne : D ∉ adr (live σ led)) (hO : OR (adr (led ++ [(D, o)])) ao o) (hj : isJ ao = false := by rfl) :
    Inv h₀ L m ls (σ ++ [ao]) (led ++ [(D, o)]) h' := by
  have e : adr (live σ led ++ [(D, o)]) = adr (live σ led) ++ [D] := by simp [adr]
  have p : adr led <+: adr (led ++ [(D, o)]) := by simp [adr]
  have el := live_snoc (q := (D, o)) hj I.ob
  refine ⟨F, fun q hq => N q ?_, ?_, (I.ob.up p).snoc hO, fun i v hv => ?_⟩
  · rw [el] at hq
    rcases List.mem_append.mp hq with hq | hq
    · exact .tail _ hq
    · cases List.mem_singleton.mp hq; exact .head _
  · rw [el, e]
    refine List.nodup_append.mpr ⟨I.nd, by simp, fun a ha b hb => ?_⟩
    rw [List.mem_singleton.mp hb]
    exact fun z => ne (z ▸ ha)
  · obtain ⟨u, hu, hr⟩ := I.lc i v hv
    exact ⟨u, hu, hr.up p⟩
theorem Inv.push (I : Inv h₀ L m ls σ led h) {D : Addr} {o : Obj} {ao : AO} (F : Fr h₀ L h' m) (N : News h₀ L h' ((D, o) :: live σ led)) (lt : ∀ p ∈ live σ led, p.1 < D) (hO : OR (adr (led ++ [(D, o)])) ao o) (hj : isJ ao = false := by rfl) :
    Inv h₀ L m ls (σ ++ [ao]) (led ++ [(D, o)]) h' :=
  I.push' F N (fun h => by
    obtain ⟨q, hq, e⟩ := List.mem_map.mp h
    have := lt q hq
    rw [e] at this
    exact Nat.lt_irrefl _ this) hO hj
theorem Inv.last (I : Inv h₀ L m ls σ led h) (D : Addr) (o : Obj) : VR (adr (led ++ [(D, o)])) (.obj (lenN σ)) (.ref D) := by
  refine ⟨D, ?_, rfl⟩
  rw [lenN_eq, I.ob.len]
  exact nth_adr (nth_last led (D, o))
theorem pre_snoc (D : Addr) (o : Obj) : adr led <+: adr (led ++ [(D, o)]) := by simp [adr]
theorem Inv.keep (I : Inv h₀ L m ls σ led h) (F : Fr h₀ L h' m) (N : News h₀ L h' (live σ led)) : Inv h₀ L m ls σ led h' := ⟨F, N, I.nd, I.ob, I.lc⟩
theorem Inv.get (I : Inv h₀ L m ls σ led h) {i : Nat} {x : AO} (e : nth σ i = some x) (hj : isJ x = false := by rfl) : ∃ a o, nth (adr led) i = some a ∧ (a, o) ∈ live σ led ∧ nth led i = some (a, o) ∧ OR (adr led) x o := by
  obtain ⟨q, hq, hr⟩ := I.ob.nth e
  exact ⟨q.1, q.2, nth_adr hq, live_mem hj e hq, hq, hr⟩
theorem Inv.ref (I : Inv h₀ L m ls σ led h) {i : Nat} {x : AO} {v : Value} (e : nth σ i = some x) (hv : VR (adr led) (.obj i) v) (hj : isJ x = false := by rfl) : ∃ a o, v = .ref a ∧ (a, o) ∈ live σ led ∧ nth led i = some (a, o) ∧ OR (adr led) x o := by
  obtain ⟨a, o, h1, h2, h3, h4⟩ := I.get e hj
  obtain ⟨b, h5, rfl⟩ := hv
  rw [h1] at h5
  cases h5
  exact ⟨a, o, rfl, h2, h3, h4⟩
end
end

section
open PySem PySem.W PyProof.Rows PySem.Calls
structure Kd where
  k : Nat → Option NameKind
  cs : Scope
structure CompOk (cs scope : Scope) (x : Str) : Prop where
  clos : ∀ cn L a ccd c, closureFor scope (envX cn cs L a ccd [(nm wPART, c)]) = pure [(nm wPART, c)]
  cell : ∀ y ∈ scope.names, y.2 ≠ .cell
  kind : scope.kind = .function
  names : ∀ y ∈ scope.names, y.2 = .local → scope.names.lookup y.1 = some .local
  own : scope.names.lookup x = some .local
  part : ∀ cn L a ccd c C, (compEnvC scope [(nm wPART, c)] C (envX cn cs L a ccd [(nm wPART, c)])).kindOf (nm wPART) = some .cell
  loc : ∀ cn L a ccd c C, (compEnvC scope [(nm wPART, c)] C (envX cn cs L a ccd [(nm wPART, c)])).kindOf x = some .local
noncomputable def isCallF : X → Bool
  | .callF _ (.cons _ _) => true
  | _ => false
mutual
inductive MX (kd : Kd) : X → Expr → Prop
  | none {k pos} : MX kd .none (.Constant .none k pos)
  | bool {b k pos} : MX kd (.bool b) (.Constant (.bool b) k pos)
  | int {n k pos} {i : Int} : i = .ofNat n → MX kd (.int n) (.Constant (.int i) k pos)
  | str {i s k pos} : nm i = s → MX kd (.str i) (.Constant (.str s) k pos)
  | bytes {l x k pos} : l.map UInt8.ofNat = x → MX kd (.bytes l) (.Constant (.bytes x) k pos)
  | loc {i s pos} : nm i = s → kd.k i = some .local → MX kd (.loc i) (.Name s pos)
  | glb {i s pos} : nm i = s → kd.k i = some .globalImplicit → MX kd (.glb i) (.Name s pos)
  | attr {o f so sf p1 p2} : nm o = so → nm f = sf → kd.k o = some .local → MX kd (.attr o f) (.Attribute (.Name so p1) sf p2)
  | callF {g sg as es p1 p2} : nm g = sg → kd.k g = some .globalImplicit → MXs kd as es → MX kd (.callF g as) (.Call (.Name sg p1) es [] p2)
  | callM {o f so sf as es p1 p2 p3} : nm o = so → nm f = sf → kd.k o = some .local → MXs kd as es → (Nat.beq p2.endLine p3.line && Nat.blt es.length 30) = true → MX kd (.callM o f as) (.Call (.Attribute (.Name so p1) sf p2) es [] p3)
  | cmp {op l r el er pos} : MX kd l el → MX kd r er → MX kd (.cmp op l r) (.Compare el [op] [er] pos)
  | and {xs es pos} : MXs kd xs es → MX kd (.and xs) (.BoolOp .And es pos)
  | or {xs es pos} : MXs kd xs es → MX kd (.or xs) (.BoolOp .Or es pos)
  | not {x e pos} : MX kd x e → MX kd (.not x) (.UnaryOp .Not e pos)
  | add {l r el er pos} : MX kd l el → MX kd r er → MX kd (.add l r) (.BinOp el .Add er pos)
  | sub {l r el er pos} : MX kd l el → MX kd r er → MX kd (.sub l r) (.BinOp el .Sub er pos)
  | ite {t a b et ea eb pos} : MT kd t et → MX kd a ea → MX kd b eb → MX kd (.ite t a b) (.IfExp et ea eb pos)
  | tup {xs es k pos} : MXs kd xs es → MX kd (.tup xs) (.Tuple es k pos)
  | lst {xs es pos} : MXs kd xs es → MX kd (.lst xs) (.List es pos)
  | idx {x i ex ei pos} : MX kd x ex → MX kd i ei → MX kd (.idx x i) (.Subscript ex ei pos)
  | cut {x lo hi ex el eh pos p} : MX kd x ex → MX kd lo el → MX kd hi eh → MX kd (.cut x lo hi) (.Subscript ex (.Slice (some el) (some eh) none p) pos)
  | cutN {x lo ex el pos p} : MX kd x ex → MX kd lo el → MX kd (.cut x lo .none) (.Subscript ex (.Slice (some el) none none p) pos)
  | celM {f sf as es p1 p2 p3} : nm f = sf → kd.k wPART = some .cell → MXs kd as es → (Nat.beq p2.endLine p3.line && Nat.blt es.length 30) = true → MX kd (.celM f as) (.Call (.Attribute (.Name (nm wPART) p1) sf p2) es [] p3)
  | comp {f x sf sx as es p1 p2 p3 p4 p5 p6 k scope pos} : nm f = sf → nm x = sx → kd.k wPART = some .cell → CompOk kd.cs scope sx → MXs kd as es → (Nat.beq p2.endLine p3.line) = true →
      MX kd (.comp f x as) (.ListComp (.Call (.Attribute (.Name (nm wPART) p1) sf p2) [.Name sx p4] [] p3) [⟨.Name sx p5, .Tuple es k p6, [], 0⟩] scope pos)
  | attrX {x f sf e p} : nm f = sf → MX kd x e → isCallF x = true → MX kd (.attrX x f) (.Attribute e sf p)
inductive MXs (kd : Kd) : Xs → List Expr → Prop
  | nil : MXs kd .nil []
  | cons {x xs e es} : MX kd x e → MXs kd xs es → MXs kd (.cons x xs) (e :: es)
inductive MT (kd : Kd) : T → Expr → Prop
  | and {ts es pos} : MTs kd ts es → MT kd (.and ts) (.BoolOp .And es pos)
  | or {ts es pos} : MTs kd ts es → MT kd (.or ts) (.BoolOp .Or es pos)
  | not {t e pos} : MT kd t e → MT kd (.not t) (.UnaryOp .Not e pos)
  | cmp {op l r el er pos} : MX kd l el → MX kd r er → MT kd (.cmp op l r) (.Compare el [op] [er] pos)
  | loc {i e} : MX kd (.loc i) e → MT kd (.val (.loc i)) e
  | attr {o f e} : MX kd (.attr o f) e → MT kd (.val (.attr o f)) e
  | callF {g as e} : MX kd (.callF g as) e → MT kd (.val (.callF g as)) e
  | callM {o f as e} : MX kd (.callM o f as) e → MT kd (.val (.callM o f as)) e
  | celM {f as e} : MX kd (.celM f as) e → MT kd (.val (.celM f as)) e
inductive MTs (kd : Kd) : Ts → List Expr → Prop
  | nil : MTs kd .nil []
  | cons {t ts e es} : MT kd t e → MTs kd ts es → MTs kd (.cons t ts) (e :: es)
end
theorem MX.star {kd : Kd} {x : X} {e : Expr} (h : MX kd x e) (es : List Expr) (env : Env) : starEach (e :: es) env = (false, eval e env) :: starEach es env := by cases h <;> rfl
theorem MX.marks {kd : Kd} {x : X} {e : Expr} (h : MX kd x e) (op : CmpOp) : behindInMarks op e = false := by cases h <;> rfl
noncomputable def notComp : X → Bool
  | .comp _ _ _ => false
  | _ => true
theorem MX.swaps {kd : Kd} {x : X} {e : Expr} (h : MX kd x e) (hc : notComp x = true) (t : Option Expr) (l : Nat) (env : Env) : swapsWith e t l env = pure false := by cases h <;> first | rfl | cases hc
theorem MX.stars {kd : Kd} {xs : Xs} {es : List Expr} (h : MXs kd xs es) (pos : Pos) (env : Env) : (backTo pos (starEach es env)).any (·.1) = false := by
  induction es generalizing xs with
  | nil => rfl
  | cons e es ih =>
    cases h with
    | cons hx hs => rw [hx.star]; exact ih hs
noncomputable abbrev KF (w : World) : Frag := Mine.hd.heap_1 w.params
noncomputable abbrev PG : Program := PySem.Challenge.rw_pf0262_01.row.prog
noncomputable abbrev Nope : Value → Shared → Prop := fun _ _ => False
structure Cx (w : World) (A : Around) (h₀ : Heap) (env : Env) (d : Nat) : Prop where
  below : ∃ A₀ base outer, Below A₀ base outer h₀ ∧ A.frames = some (env :: outer)
  kx : (KF w).In h₀
  top : ∃ p loose mean mg mb, Top p loose mean mg mb h₀
  hd : A.handled = none
  dep : A.depth + d + 10 < recursionLimit
  unt : A.units + 10 * d + 105 < cLine
noncomputable def CellAt (cl : List (Str × Addr)) (ρ : List Addr) : Prop := match cl with
  | [] => True
  | [p] => p.1 = nm wPART ∧ nth ρ 1 = some p.2
  | _ => False
theorem CellAt.up {cl : List (Str × Addr)} {ρ ρ' : List Addr} (h : CellAt cl ρ) (p : ρ <+: ρ') : CellAt cl ρ' := by
  unfold CellAt at h ⊢
  split at h
  · trivial
  · exact ⟨h.1, nth_prefix p h.2⟩
  · exact h
noncomputable def XQ (h₀ : Heap) (L : Addr) (m : Str → Option Value) (ls : Locs) (σ : Mem) (ρ : List Addr) (av : AV) (s : Shared) (v : Value) (s' : Shared) : Prop :=
  ∃ led h' tk, s' = { s with heap := h', toks := tk } ∧ ρ <+: adr led ∧ Inv h₀ L m ls σ led h' ∧ VR (adr led) av v
noncomputable def XsQ (h₀ : Heap) (L : Addr) (m : Str → Option Value) (ls : Locs) (σ : Mem) (ρ : List Addr) (av : List AV) (s : Shared) (v : List Value) (s' : Shared) : Prop :=
  ∃ led h' tk, s' = { s with heap := h', toks := tk } ∧ ρ <+: adr led ∧ Inv h₀ L m ls σ led h' ∧ VRs (adr led) av v
noncomputable def TQ (h₀ : Heap) (L : Addr) (m : Str → Option Value) (ls : Locs) (σ : Mem) (ρ : List Addr) (b : Bool) (s : Shared) (c : Bool) (s' : Shared) : Prop :=
  ∃ led h' tk, s' = { s with heap := h', toks := tk } ∧ ρ <+: adr led ∧ Inv h₀ L m ls σ led h' ∧ c = b
section
variable {w : World} {A : Around} {h₀ : Heap} {L a : Addr} {m : Str → Option Value} {cn : Str} {cs : Scope} {ccd : Value} {ls : Locs} {σ σ' σ'' : Mem} {led led' : List (Addr × Obj)} {s : Shared} {kd : Kd}
theorem XQ.here {av : AV} {v : Value} (I : Inv h₀ L m ls σ led s.heap) (hv : VR (adr led) av v) : XQ h₀ L m ls σ (adr led) av s v s := ⟨led, s.heap, s.toks, rfl, List.prefix_rfl, I, hv⟩
theorem XQ.tick {av : AV} {v : Value} {k : Nat} (I : Inv h₀ L m ls σ led s.heap) (hv : VR (adr led) av v) : XQ h₀ L m ls σ (adr led) av s v { s with toks := k } := ⟨led, s.heap, k, rfl, List.prefix_rfl, I, hv⟩
theorem XQ.chain {t : Sem Value} {ρ : List Addr} {av : AV} {P : Value → Shared → Prop} (h : wpAny (model PG w) A t (XQ h₀ L m ls σ ρ av s) Nope s)
    (k : ∀ led h' tk v, ρ <+: adr led → Inv h₀ L m ls σ led h' → VR (adr led) av v → P v { s with heap := h', toks := tk }) : wpAny (model PG w) A t P Nope s :=
  wpAny_mono h (fun v _ ⟨led, h', tk, e, p, I, r⟩ => e ▸ k led h' tk v p I r) fun _ _ e => e
theorem XsQ.chain {t : Sem (List Value)} {ρ : List Addr} {av : List AV} {P : List Value → Shared → Prop} (h : wpAny (model PG w) A t (XsQ h₀ L m ls σ ρ av s) Nope s)
    (k : ∀ led h' tk v, ρ <+: adr led → Inv h₀ L m ls σ led h' → VRs (adr led) av v → P v { s with heap := h', toks := tk }) : wpAny (model PG w) A t P Nope s :=
  wpAny_mono h (fun v _ ⟨led, h', tk, e, p, I, r⟩ => e ▸ k led h' tk v p I r) fun _ _ e => e
theorem TQ.chain {t : Sem Bool} {ρ : List Addr} {b : Bool} {P : Bool → Shared → Prop} (h : wpAny (model PG w) A t (TQ h₀ L m ls σ ρ b s) Nope s)
    (k : ∀ led h' tk, ρ <+: adr led → Inv h₀ L m ls σ led h' → P b { s with heap := h', toks := tk }) : wpAny (model PG w) A t P Nope s :=
  wpAny_mono h (fun v _ ⟨led, h', tk, e, p, I, r⟩ => e ▸ r ▸ k led h' tk p I) fun _ _ e => e
theorem XQ.of {ρ ρ' : List Addr} {av : AV} {v : Value} {h' : Heap} {tk : Nat} {s' : Shared} (p : ρ <+: ρ') (h : XQ h₀ L m ls σ ρ' av { s with heap := h', toks := tk } v s') : XQ h₀ L m ls σ ρ av s v s' := by
  obtain ⟨led, h2, tk2, e, p2, I, r⟩ := h
  exact ⟨led, h2, tk2, e, p.trans p2, I, r⟩
theorem TQ.of {ρ ρ' : List Addr} {b c : Bool} {h' : Heap} {tk : Nat} {s' : Shared} (p : ρ <+: ρ') (h : TQ h₀ L m ls σ ρ' b { s with heap := h', toks := tk } c s') : TQ h₀ L m ls σ ρ b s c s' := by
  obtain ⟨led, h2, tk2, e, p2, I, r⟩ := h
  exact ⟨led, h2, tk2, e, p.trans p2, I, r⟩
theorem XsQ.of {ρ ρ' : List Addr} {b c} {h' : Heap} {tk : Nat} {s' : Shared} (p : ρ <+: ρ') (h : XsQ h₀ L m ls σ ρ' b { s with heap := h', toks := tk } c s') : XsQ h₀ L m ls σ ρ b s c s' := by
  obtain ⟨led, h2, tk2, e, p2, I, r⟩ := h
  exact ⟨led, h2, tk2, e, p.trans p2, I, r⟩
end
end

section
open PySem PySem.W PyProof.Rows PySem.Calls
structure Stat (w : World) : Prop where
  glb : ∀ g v, lookN g glbs = some v → (∃ b, v = .blt b ∧ nsIn (KF w) mainGlobals (nm g) = some none ∧ bootBuiltins (nm g) = some (bltVal b) ∧ nm g ≠ "__name__") ∨
    (∃ u, nsIn (KF w) mainGlobals (nm g) = some (some u) ∧ ∀ ρ, VR ρ v u)
  keep : ∀ g x, lookN g glbs = some (.top x) → x ≠ 70 → keepIn (KF w) (.ref x) = true
  plain : ∀ n, plainGet (KF w) 192 n = true
  dict : hasDictIn (KF w) 192 = true
  fld : ∀ f, isFld f = true → ∃ at_, findIn (KF w) (.ref 192) (nm f) = some at_ ∧ noGet (KF w) at_ = true ∧ takerIn (KF w) 192 (nm f) = some none
  setA : findIn (KF w) (.ref 192) "__setattr__" = some (some (.builtin "object.__setattr__"))
  over : plainOver (KF w) 192 = true
  meth : ∀ f x, lookN f meths = some x → findIn (KF w) (.ref 192) (nm f) = some (some (.ref x)) ∧ isFn (KF w) (.ref x) = true ∧ keepIn (KF w) (.ref x) = true
  methF : ∀ f x, lookN f meths = some x → ∀ (K : PK) (v0 v1 v2 v3 v4 v5 v6 v7 v8 v9 va : Value), getL (nm f) [⟨K.h0, .str "limit" K.k0, v0⟩, ⟨K.h1, .str "state" K.k1, v1⟩, ⟨K.h2, .str "written" K.k2, v2⟩, ⟨K.h3, .str "sent_to" K.k3, v3⟩, ⟨K.h4, .str "acked" K.k4, v4⟩, ⟨K.h5, .str "lost" K.k5, v5⟩,
    ⟨K.h6, .str "is_finished" K.k6, v6⟩, ⟨K.h7, .str "owes_end" K.k7, v7⟩, ⟨K.h8, .str "is_end_acked" K.k8, v8⟩, ⟨K.h9, .str "reset_code" K.k9, v9⟩, ⟨K.ha, .str "owes_reset" K.ka, va⟩] = some none
  open70 : ∃ n t1 t2, (KF w).lookup 70 = some { cls := .type "tuple", data := .seq #[.str (nm wREADY) t1, .str (nm wSEND) t2] n }
  dbg : ∀ i, (nm i == ("__debug__" : Str)) = false
  inj : ∀ i j, nm i = nm j → i = j
  mkI : makesIn (KF w) 192 = true
  ini : findIn (KF w) (.ref 192) "__init__" = some (some (.ref 84))
  iniF : isFn (KF w) (.ref 84) = true
noncomputable def KdOk (kd : Kd) (cs : Scope) : Prop := kd.cs = cs ∧ ∀ i k, kd.k i = some k → cs.names.lookup (nm i) = some k
section
variable {w : World} {A : Around} {h₀ : Heap} {L a : Addr} {m : Str → Option Value} {cn : Str} {cs : Scope} {ccd : Value} {ls : Locs} {σ σ' σ'' : Mem} {led led' : List (Addr × Obj)} {s : Shared} {kd : Kd} {d : Nat} {cl : List (Str × Addr)}
theorem sx_loc (H : Stat w) (hk : cs.kind = .function) (hkd : KdOk kd cs) {i : Nat} {v : AV} {pos : Pos} (hi : kd.k i = some .local) (hv : lookN i ls = some v) (I : Inv h₀ L m ls σ led s.heap) :
    wpAny (model PG w) A (eval (.Name (nm i) pos) (envX cn cs L a ccd cl)) (XQ h₀ L m ls σ (adr led) v s) Nope s := by
  obtain ⟨u, hu, hr⟩ := I.lc i v hv
  exact nameX_L I.fr hu (XQ.here I hr) hk (hkd.2 i _ hi) (H.dbg i)
theorem sx_glb (H : Stat w) (C : Cx w A h₀ (envX cn cs L a ccd cl) d) (hk : cs.kind = .function) (hkd : KdOk kd cs) {i : Nat} {v : AV} {pos : Pos} (hi : kd.k i = some .globalImplicit) (hv : lookN i glbs = some v) (I : Inv h₀ L m ls σ led s.heap) :
    wpAny (model PG w) A (eval (.Name (nm i) pos) (envX cn cs L a ccd cl)) (XQ h₀ L m ls σ (adr led) v s) Nope s := by
  obtain ⟨p, loose, mean, mg, mb, T⟩ := C.top
  rcases H.glb i v hv with ⟨b, rfl, h1, h2, h3⟩ | ⟨u, h1, h2⟩
  · exact nameX_B I.fr C.kx (topRead_of T) h1 h2 h3 (XQ.here I rfl) hk (hkd.2 i _ hi) (H.dbg i)
  · exact nameX_K I.fr C.kx (topRead_of T) h1 (XQ.here I (h2 _)) hk (hkd.2 i _ hi) (H.dbg i)
theorem getL_part {K : PK} {v0 v1 v2 v3 v4 v5 v6 v7 v8 v9 va u : Value} {f : Nat} (h : nth [v0, v1, v2, v3, v4, v5, v6, v7, v8, v9, va] f = some u) :
    getL (nm f) [⟨K.h0, .str "limit" K.k0, v0⟩, ⟨K.h1, .str "state" K.k1, v1⟩, ⟨K.h2, .str "written" K.k2, v2⟩, ⟨K.h3, .str "sent_to" K.k3, v3⟩, ⟨K.h4, .str "acked" K.k4, v4⟩, ⟨K.h5, .str "lost" K.k5, v5⟩,
    ⟨K.h6, .str "is_finished" K.k6, v6⟩, ⟨K.h7, .str "owes_end" K.k7, v7⟩, ⟨K.h8, .str "is_end_acked" K.k8, v8⟩, ⟨K.h9, .str "reset_code" K.k9, v9⟩, ⟨K.ha, .str "owes_reset" K.ka, va⟩] = some (some u) := by
  match f, h with
  | 0, h => cases h; rfl
  | 1, h => cases h; rfl
  | 2, h => cases h; rfl
  | 3, h => cases h; rfl
  | 4, h => cases h; rfl
  | 5, h => cases h; rfl
  | 6, h => cases h; rfl
  | 7, h => cases h; rfl
  | 8, h => cases h; rfl
  | 9, h => cases h; rfl
  | 10, h => cases h; rfl
  | f + 11, h => cases h
theorem VR.handed {ρ : List Addr} : ∀ {v : AV} {u : Value}, VR ρ v u → handedIn u = true
  | .none, _, h => by cases h; rfl
  | .bool _, _, h => by cases h; rfl
  | .int _, _, ⟨_, h⟩ => by cases h; rfl
  | .str _, _, ⟨_, h⟩ => by cases h; rfl
  | .bytes _, _, ⟨_, h⟩ => by cases h; rfl
  | .obj _, _, ⟨_, _, h⟩ => by cases h; rfl
  | .top _, _, h => by cases h; rfl
  | .blt b, _, h => by
    cases h
    match b with
    | 0 => decide
    | 1 => decide
    | 2 => decide
    | 3 => rfl
    | _ + 4 => rfl
theorem sx_attr (H : Stat w) (C : Cx w A h₀ (envX cn cs L a ccd cl) d) (hk : cs.kind = .function) (hkd : KdOk kd cs) {o f : Nat} {v r : AV} {p1 p2 : Pos} (ho : kd.k o = some .local) (hv : lookN o ls = some v) (hf : fldV v f σ = some r) (I : Inv h₀ L m ls σ led s.heap) :
    wpAny (model PG w) A (eval (.Attribute (.Name (nm o) p1) (nm f) p2) (envX cn cs L a ccd cl)) (XQ h₀ L m ls σ (adr led) r s) Nope s := by
  refine Attribute_Name_ (XQ.chain (sx_loc H hk hkd ho hv I) fun led' h' tk u p I' hr => ?_)
  unfold fldV at hf
  split at hf
  · rename_i i
    split at hf
    · rename_i dd e1
      split at hf
      · rename_i fs e2
        obtain ⟨x, o1, rfl, m1, n1, r1⟩ := I'.ref e1 hr
        obtain ⟨dx, q1, rfl⟩ := r1
        obtain ⟨dy, o2, q2, m2, n2, r2⟩ := I'.get e2
        rw [q1] at q2; cases q2
        obtain ⟨K, v0, v1, v2, v3, v4, v5, v6, v7, v8, v9, va, hvs, rfl⟩ := r2
        obtain ⟨u, hu, hru⟩ := hvs.nth hf
        have hlt : isFld f = true := by
          have := nth_len hu
          exact Nat.ble_eq_true_of_le this
        obtain ⟨at_, hfa, hng, _⟩ := H.fld f hlt
        exact get_own (s := { s with heap := h', toks := tk }) I'.fr C.kx (InstAt.of_news I'.nw m1 m2) (H.plain _) H.dict hfa hng (getL_part hu) hru.handed (XQ.of p (XQ.tick (s := { s with heap := h', toks := tk }) I' hru))
      · cases hf
    · cases hf
  · cases hf
end
end

section
open PySem PySem.W PyProof.Rows PySem.Calls PySem.SeqAt

theorem bool_same (a b : Bool) : sameB a b = (a == b) := by cases a <;> cases b <;> rfl
theorem neg_is (b : Bool) : neg b = !b := by cases b <;> rfl
theorem eqB_is (a b : Int) : Z.eqB a b = (a == b) := by
  rw [Bool.eq_iff_iff, Z.eqB_iff]
  simp
theorem ltB_is (a b : Int) : Z.ltB a b = decide (a < b) := by
  rw [Bool.eq_iff_iff, Z.ltB_iff]
  simp
theorem leB_is (a b : Int) : Z.leB a b = decide (a ≤ b) := by
  rw [Bool.eq_iff_iff, Z.leB_iff]
  simp
theorem eqN_is : ∀ {a b : List Nat}, eqN a b = true → a = b
  | [], [], _ => rfl
  | x :: r, y :: q, h => by
    unfold eqN at h
    split at h
    · rename_i e
      rw [Nat.eq_of_beq_eq_true e, eqN_is h]
    · cases h
  | [], _ :: _, h => by cases h
  | _ :: _, [], h => by cases h
section
variable {w : World} {A : Around} {h₀ : Heap} {L a b : Addr} {m : Str → Option Value} {ls : Locs} {σ : Mem} {led : List (Addr × Obj)} {s : Shared} {ρ : List Addr} {E : Value → Shared → Prop} {Q : Value → Shared → Prop} {prog : Program}
theorem plainEq_at {x y : AV} {u v : Value} (e : plainEq x y = true) (hx : VR ρ x u) (hy : VR ρ y v) : EqAt A s u v true := by
  unfold plainEq at e
  split at e
  · cases hx; cases hy
    rw [bool_same] at e
    exact eqAt_bool (eq_of_beq e)
  · obtain ⟨_, rfl⟩ := hx
    obtain ⟨_, rfl⟩ := hy
    exact eqAt_int (Z.eqB_iff _ _ |>.mp e)
  · obtain ⟨_, rfl⟩ := hx
    obtain ⟨_, rfl⟩ := hy
    exact eqAt_bytes (by rw [eqN_is e])
  · cases e
theorem plainEqs_at {xs : List AV} : ∀ {ys : List AV} {us vs : List Value}, plainEqs xs ys = true → VRs ρ xs us → VRs ρ ys vs →
    us.length = vs.length ∧ ∀ j (h1 : j < us.length) (h2 : j < vs.length), EqAt A s us[j] vs[j] true := by
  induction xs with
  | nil =>
    intro ys us vs e r1 r2
    cases ys with
    | nil => cases r1.nil; cases r2.nil; exact ⟨rfl, fun j h1 => absurd h1 (Nat.not_lt_zero j)⟩
    | cons => cases e
  | cons x xs ih =>
    intro ys us vs e r1 r2
    cases ys with
    | nil => cases e
    | cons y ys =>
      obtain ⟨u, us, rfl, h1, r1⟩ := r1.cut
      obtain ⟨v, vs, rfl, h2, r2⟩ := r2.cut
      obtain ⟨e1, e⟩ := Bool.and_eq_true_iff.mp e
      obtain ⟨l, f⟩ := ih e r1 r2
      refine ⟨congrArg (· + 1) l, fun j g1 g2 => ?_⟩
      cases j with
      | zero => exact plainEq_at e1 h1 h2
      | succ j => exact f j (Nat.lt_of_succ_lt_succ g1) (Nat.lt_of_succ_lt_succ g2)
theorem tup_at (I : Inv h₀ L m ls σ led s.heap) {i : Nat} {xs : List AV} {v : Value} (e : nth σ i = some (.tup xs)) (hv : VR (adr led) (.obj i) v) :
    ∃ t vs, v = .ref t ∧ IsTup s.heap t vs.toArray ∧ VRs (adr led) xs vs := by
  obtain ⟨t, o, rfl, hm, _, vs, n, hvs, rfl⟩ := I.ref e hv
  exact ⟨t, vs, rfl, ⟨_, (I.nw _ hm).1, rfl, n, rfl⟩, hvs⟩
theorem lst_at (I : Inv h₀ L m ls σ led s.heap) {i : Nat} {xs : List AV} {v : Value} (e : nth σ i = some (.list xs)) (hv : VR (adr led) (.obj i) v) :
    ∃ t vs n, v = .ref t ∧ (t, listOf vs.toArray n) ∈ live σ led ∧ s.heap.IsList t vs.toArray ∧ VRs (adr led) xs vs := by
  obtain ⟨t, o, rfl, hm, _, vs, n, hvs, rfl⟩ := I.ref e hv
  exact ⟨t, vs, n, rfl, hm, ⟨_, (I.nw _ hm).1, rfl, n, rfl⟩, hvs⟩
theorem avS_is {a : AV} {j : Nat} (h : avS a = some j) : a = .str j := by
  cases a with
  | str k => cases h; rfl
  | _ => cases h
theorem avI_is {a : AV} {j : Int} (h : avI a = some j) : a = .int j := by
  cases a with
  | int k => cases h; rfl
  | _ => cases h
theorem nm_beq (H : Stat w) (j i : Nat) : (nm j == nm i) = Nat.beq j i := by
  cases q : Nat.beq j i with
  | true => rw [Nat.eq_of_beq_eq_true q]; exact beq_self_eq_true _
  | false => exact beq_eq_false_iff_ne.mpr fun z => Nat.ne_of_beq_eq_false q (H.inj j i z)
theorem bind_map {α : Type} {o : Option α} {p : Option Bool} {f : α → Bool → Bool} {c : Bool} (e : (o.bind fun j => p.map (f j)) = some c) : ∃ j c', o = some j ∧ p = some c' ∧ f j c' = c := by
  cases o with
  | none => cases e
  | some j =>
    cases p with
    | none => cases e
    | some c' => cases e; exact ⟨_, _, rfl, rfl, rfl⟩
theorem strs_of (H : Stat w) {xs : List AV} : ∀ {vs : List Value} {i : Nat} {c : Bool}, inStrs i xs = some c → VRs ρ xs vs → ∃ ys, StrsAre vs ys ∧ (ys.any fun y => y == nm i) = c := by
  induction xs with
  | nil => intro vs i c e r; cases r.nil; cases e; exact ⟨[], .nil, rfl⟩
  | cons a xs ih =>
    intro vs i c e r
    obtain ⟨v, vs, rfl, h1, r1⟩ := r.cut
    obtain ⟨j, c', h2, h3, rfl⟩ := bind_map e
    cases avS_is h2
    obtain ⟨t, rfl⟩ := h1
    obtain ⟨ys, hs, hc⟩ := ih h3 r1
    exact ⟨_, .cons _ t hs, by rw [List.any_cons, nm_beq H, hc]⟩
theorem ints_of {xs : List AV} : ∀ {vs : List Value} {k : Int} {c : Bool}, inInts k xs = some c → VRs ρ xs vs → ∃ ns, IntsAre vs ns ∧ (ns.any fun y => y == k) = c := by
  induction xs with
  | nil => intro vs i c e r; cases r.nil; cases e; exact ⟨[], .nil, rfl⟩
  | cons a xs ih =>
    intro vs i c e r
    obtain ⟨v, vs, rfl, h1, r1⟩ := r.cut
    obtain ⟨j, c', h2, h3, rfl⟩ := bind_map e
    cases avI_is h2
    obtain ⟨t, rfl⟩ := h1
    obtain ⟨ys, hs, hc⟩ := ih h3 r1
    exact ⟨_, .cons _ t hs, by rw [List.any_cons, eqB_is, hc]⟩
end
end

section
open PySem PySem.W PyProof.Rows PySem.Calls PySem.SeqAt

theorem all_tt (n : Nat) : ((List.range n).all fun _ => true) = true := List.all_eq_true.mpr fun _ _ => rfl
section
variable {w : World} {A : Around} {h₀ : Heap} {L a b : Addr} {m : Str → Option Value} {ls : Locs} {σ : Mem} {led : List (Addr × Obj)} {s : Shared} {ρ : List Addr} {E : Value → Shared → Prop} {Q : Value → Shared → Prop}
theorem beqW (H : Stat w) (i j : Nat) : (nm i == nm j) = Nat.beq i j := by
  cases q : Nat.beq i j with
  | true => rw [Nat.eq_of_beq_eq_true q]; simp
  | false =>
    rw [beq_eq_false_iff_ne]
    exact fun z => Nat.ne_of_beq_eq_false q (H.inj i j z)
theorem eq_sameV (H : Stat w) {x y : AV} {u v : Value} {c : Bool} (e : sameV x y = some c) (hx : VR ρ x u) (hy : VR ρ y v) (h : Q (.bool c) s) : wpAny (model PG w) A (compareOp .Eq u v) Q E s := by
  unfold sameV at e
  split at e
  · cases e; cases hx; cases hy; exact EqNone.eq_none_none h
  · cases e; cases hx; cases hy; exact eq_bool (by rw [← bool_same]; exact h)
  · cases e; obtain ⟨_, rfl⟩ := hx; obtain ⟨_, rfl⟩ := hy; exact eq_int (by rw [← eqB_is]; exact h)
  · cases e; obtain ⟨_, rfl⟩ := hx; obtain ⟨_, rfl⟩ := hy; exact eq_str (by rw [beqW H]; exact h)
  · cases e
theorem ne_sameV (H : Stat w) {x y : AV} {u v : Value} {c : Bool} (e : sameV x y = some c) (hx : VR ρ x u) (hy : VR ρ y v) (h : Q (.bool (!c)) s) : wpAny (model PG w) A (compareOp .NotEq u v) Q E s := by
  unfold sameV at e
  split at e
  · cases e; cases hx; cases hy; exact EqNone.ne_none_none h
  · cases e; cases hx; cases hy; exact ne_bool (by rw [bne, ← bool_same]; exact h)
  · cases e; obtain ⟨_, rfl⟩ := hx; obtain ⟨_, rfl⟩ := hy; exact ne_int (by rw [bne, ← eqB_is]; exact h)
  · cases e; obtain ⟨_, rfl⟩ := hx; obtain ⟨_, rfl⟩ := hy; exact ne_str (by rw [bne, beqW H]; exact h)
  · cases e
theorem ibEqs_same {xs : List AV} : ∀ {ys : List AV} {us vs : List Value}, ibEqs xs ys = true → VRs ρ xs us → VRs ρ ys vs → ∃ d, SameV us vs d := by
  induction xs with
  | nil =>
    intro ys us vs e r1 r2
    cases ys with
    | nil => cases r1.nil; cases r2.nil; exact ⟨_, .nil⟩
    | cons => cases e
  | cons x xs ih =>
    intro ys us vs e r1 r2
    cases ys with
    | nil => cases e
    | cons y ys =>
      obtain ⟨u, us, rfl, h1, r1⟩ := r1.cut
      obtain ⟨v, vs, rfl, h2, r2⟩ := r2.cut
      obtain ⟨e1, e⟩ := Bool.and_eq_true_iff.mp e
      obtain ⟨d, h⟩ := ih e r1 r2
      unfold ibEq at e1
      split at e1
      · cases h1; cases h2
        rw [bool_same] at e1
        exact ⟨_, .bool (eq_of_beq e1) h⟩
      · obtain ⟨_, rfl⟩ := h1
        obtain ⟨_, rfl⟩ := h2
        exact ⟨_, .int ((Z.eqB_iff _ _).mp e1) h⟩
      · cases e1
theorem eqV_cases {x y : AV} {c : Bool} (e : eqV σ x y = some c) : (∃ i j xs ys, x = .obj i ∧ y = .obj j ∧ nth σ i = some (.list xs) ∧ nth σ j = some (.list ys) ∧ ibEqs xs ys = true ∧ c = true) ∨ sameV x y = some c ∨ ∃ i j xs ys, x = .obj i ∧ y = .obj j ∧ nth σ i = some (.tup xs) ∧ nth σ j = some (.tup ys) ∧ plainEqs xs ys = true ∧ c = true := by
  unfold eqV at e
  split at e
  · rename_i i j
    split at e
    · rename_i xs ys e1 e2
      split at e
      · rename_i e3
        cases e
        exact .inr (.inr ⟨i, j, xs, ys, rfl, rfl, e1, e2, e3, rfl⟩)
      · cases e
    · rename_i xs ys e1 e2
      split at e
      · rename_i e3
        cases e
        exact .inl ⟨i, j, xs, ys, rfl, rfl, e1, e2, e3, rfl⟩
      · cases e
    · cases e
  · exact .inr (.inl e)
theorem eq_ok (H : Stat w) (I : Inv h₀ L m ls σ led s.heap) (hu : A.units + 64 < cLine) {x y : AV} {u v : Value} {c : Bool} (e : eqV σ x y = some c) (hx : VR (adr led) x u) (hy : VR (adr led) y v) (h : Q (.bool c) s) :
    wpAny (model PG w) A (compareOp .Eq u v) Q E s := by
  rcases eqV_cases e with ⟨i, j, xs, ys, rfl, rfl, e1, e2, e3, rfl⟩ | e | ⟨i, j, xs, ys, rfl, rfl, e1, e2, e3, rfl⟩
  · obtain ⟨t1, us, n1, rfl, m1, _, r1⟩ := lst_at I e1 hx
    obtain ⟨t2, vs, n2, rfl, m2, _, r2⟩ := lst_at I e2 hy
    obtain ⟨dd, hd⟩ := ibEqs_same e3 r1 r2
    exact eq_same I.nw m1 m2 hd hu h
  · exact eq_sameV H e hx hy h
  · obtain ⟨t1, us, rfl, h1, r1⟩ := tup_at I e1 hx
    obtain ⟨t2, vs, rfl, h2, r2⟩ := tup_at I e2 hy
    obtain ⟨hl, hp⟩ := plainEqs_at (A := A.in1) (s := s) e3 r1 r2
    exact eq_tupleAt (e := fun _ => true) h1 h2 (by omega) (fun j g1 g2 => by simpa using hp j (by simpa using g1) (by simpa using g2)) (by simpa [hl, all_tt] using h)
theorem ne_ok (H : Stat w) (I : Inv h₀ L m ls σ led s.heap) (hu : A.units + 64 < cLine) {x y : AV} {u v : Value} {c : Bool} (e : eqV σ x y = some c) (hx : VR (adr led) x u) (hy : VR (adr led) y v) (h : Q (.bool (!c)) s) :
    wpAny (model PG w) A (compareOp .NotEq u v) Q E s := by
  rcases eqV_cases e with ⟨i, j, xs, ys, rfl, rfl, e1, e2, e3, rfl⟩ | e | ⟨i, j, xs, ys, rfl, rfl, e1, e2, e3, rfl⟩
  · obtain ⟨t1, us, n1, rfl, m1, _, r1⟩ := lst_at I e1 hx
    obtain ⟨t2, vs, n2, rfl, m2, _, r2⟩ := lst_at I e2 hy
    obtain ⟨dd, hd⟩ := ibEqs_same e3 r1 r2
    exact ne_same I.nw m1 m2 hd hu h
  · exact ne_sameV H e hx hy h
  · obtain ⟨t1, us, rfl, h1, r1⟩ := tup_at I e1 hx
    obtain ⟨t2, vs, rfl, h2, r2⟩ := tup_at I e2 hy
    obtain ⟨hl, hp⟩ := plainEqs_at (A := A.in1) (s := s) e3 r1 r2
    exact RcNeAt.tuples (e := fun _ => true) h1 h2 (by omega) (fun j g1 g2 => by simpa using hp j (by simpa using g1) (by simpa using g2)) PG w E Q (by simpa [hl, all_tt] using h)
theorem in_ok (H : Stat w) (kx : (KF w).In h₀) (I : Inv h₀ L m ls σ led s.heap) {x y : AV} {u v : Value} {c : Bool} (e : inV σ x y = some c) (hx : VR (adr led) x u) (hy : VR (adr led) y v) :
    (Q (.bool c) s → wpAny (model PG w) A (compareOp .In u v) Q E s) ∧ (Q (.bool (!c)) s → wpAny (model PG w) A (compareOp .NotIn u v) Q E s) := by
  unfold inV at e
  split at e
  · rename_i i x
    split at e
    · rename_i q
      cases Nat.eq_of_beq_eq_true q
      obtain ⟨t, rfl⟩ := hx
      cases hy
      obtain ⟨n, t1, t2, hl⟩ := H.open70
      have ht : IsTup s.heap 70 #[.str (nm wREADY) t1, .str (nm wSEND) t2] := ⟨_, I.fr.keep _ _ (kx _ _ hl), rfl, n, rfl⟩
      obtain ⟨ys, hs, hc⟩ := strs_of H e (vs := [.str (nm wREADY) t1, .str (nm wSEND) t2]) (ρ := []) ⟨⟨_, rfl⟩, ⟨_, rfl⟩, trivial⟩
      exact ⟨fun h => in_tuple_strs ht hs (by rw [hc]; exact h), fun h => notin_tuple_strs ht hs (by rw [hc]; exact h)⟩
    · cases e
  · rename_i i t
    split at e
    · rename_i xs e1
      obtain ⟨t, rfl⟩ := hx
      obtain ⟨t1, us, rfl, h1, r1⟩ := tup_at I e1 hy
      obtain ⟨ys, hs, hc⟩ := strs_of H e r1
      exact ⟨fun h => in_tuple_strs h1 hs (by rw [hc]; exact h), fun h => notin_tuple_strs h1 hs (by rw [hc]; exact h)⟩
    · cases e
  · rename_i i t
    split at e
    · rename_i xs e1
      obtain ⟨t, rfl⟩ := hx
      obtain ⟨t1, us, rfl, h1, r1⟩ := tup_at I e1 hy
      obtain ⟨ys, hs, hc⟩ := ints_of e r1
      exact ⟨fun h => in_tuple_ints h1 hs (by rw [hc]; exact h), fun h => notin_tuple_ints h1 hs (by rw [hc]; exact h)⟩
    · cases e
  · cases e
theorem is_ok {x : AV} {u : Value} {c : Bool} (e : isNone x = some c) (hx : VR ρ x u) :
    (Q (.bool c) s → wpAny (model PG w) A (compareOp .Is u .none) Q E s) ∧ (Q (.bool (!c)) s → wpAny (model PG w) A (compareOp .IsNot u .none) Q E s) := by
  unfold isNone at e
  split at e
  · cases e; cases hx; exact ⟨fun h => is_none_none h, fun h => isnot_none_none h⟩
  · cases e; obtain ⟨_, rfl⟩ := hx; exact ⟨fun h => is_int_none h, fun h => isnot_int_none h⟩
  · cases e; obtain ⟨_, _, rfl⟩ := hx; exact ⟨fun h => is_ref_none h, fun h => isnot_ref_none h⟩
  · cases e
theorem cmp_ok (H : Stat w) (kx : (KF w).In h₀) (I : Inv h₀ L m ls σ led s.heap) (hu : A.units + 64 < cLine) {op : CmpOp} {x y : AV} {u v : Value} {c : Bool} (e : cmpV op x y σ = some c) (hx : VR (adr led) x u) (hy : VR (adr led) y v) (h : Q (.bool c) s) :
    wpAny (model PG w) A (compareOp op u v) Q E s := by
  unfold cmpV at e
  split at e
  · exact eq_ok H I hu e hx hy h
  · split at e
    · rename_i e1
      cases e
      exact ne_ok H I hu e1 hx hy (by rw [← neg_is]; exact h)
    · cases e
  · split at e
    · cases e; obtain ⟨_, rfl⟩ := hx; obtain ⟨_, rfl⟩ := hy; exact lt_int (by rw [← ltB_is]; exact h)
    · cases e
  · split at e
    · cases e; obtain ⟨_, rfl⟩ := hx; obtain ⟨_, rfl⟩ := hy; exact le_int (by rw [← leB_is]; exact h)
    · cases e
  · split at e
    · cases e; obtain ⟨_, rfl⟩ := hx; obtain ⟨_, rfl⟩ := hy; exact gt_int (by rw [← ltB_is]; exact h)
    · cases e
  · split at e
    · cases e; obtain ⟨_, rfl⟩ := hx; obtain ⟨_, rfl⟩ := hy; exact ge_int (by rw [← leB_is]; exact h)
    · cases e
  · split at e
    · cases hy; exact (is_ok e hx).1 h
    · cases e
  · split at e
    · cases hy
      split at e
      · rename_i e1
        cases e
        exact (is_ok e1 hx).2 (by rw [← neg_is]; exact h)
      · cases e
    · cases e
  · exact (in_ok H kx I e hx hy).1 h
  · split at e
    · rename_i e1
      cases e
      exact (in_ok H kx I e1 hx hy).2 (by rw [← neg_is]; exact h)
    · cases e
end
end

section
open PySem PySem.W PyProof.Rows PySem.Calls PySem.SeqAt

theorem minB_is (a b : Int) : minB a b = min a b := by
  unfold minB
  rw [ltB_is]
  by_cases h : b < a
  · rw [decide_eq_true h]; show b = _; omega
  · rw [decide_eq_false h]; show a = _; omega
theorem maxB_is (a b : Int) : maxB a b = max a b := by
  unfold maxB
  rw [ltB_is]
  by_cases h : a < b
  · rw [decide_eq_true h]; show b = _; omega
  · rw [decide_eq_false h]; show a = _; omega
theorem le1000 {n : Nat} (h : Nat.ble n 1000 = true) : n ≤ 1000 := Nat.le_of_ble_eq_true h
theorem sz1000 {n : Nat} (h : n ≤ 1000) : n ≤ sizeLine := Nat.le_trans h (by rw [sizeLine_eq]; decide)
theorem toA_len {α : Type} (l : List α) : l.toArray.size = lenN l := by rw [List.size_toArray, lenN_eq]
section
variable {w : World} {A : Around} {h₀ : Heap} {L a b : Addr} {m : Str → Option Value} {ls : Locs} {σ σ' : Mem} {led : List (Addr × Obj)} {s : Shared} {ρ : List Addr}
theorem XQ.new {ao : AO} {D : Addr} {o : Obj} {h' : Heap} (tk : Nat) (I : Inv h₀ L m ls σ led s.heap) (F : Fr h₀ L h' m) (N : News h₀ L h' ((D, o) :: live σ led)) (lt : ∀ p ∈ live σ led, p.1 < D) (hO : OR (adr (led ++ [(D, o)])) ao o) (hj : isJ ao = false := by rfl) :
    XQ h₀ L m ls (σ ++ [ao]) (adr led) (.obj (lenN σ)) s (.ref D) { s with heap := h', toks := tk } :=
  ⟨_, h', tk, rfl, pre_snoc D o, I.push F N lt hO hj, I.last D o⟩
theorem XQ.kept {av : AV} {v : Value} {h' : Heap} (tk : Nat) (I : Inv h₀ L m ls σ led s.heap) (F : Fr h₀ L h' m) (N : News h₀ L h' (live σ led)) (hv : VR (adr led) av v) :
    XQ h₀ L m ls σ (adr led) av s v { s with heap := h', toks := tk } := ⟨led, h', tk, rfl, List.prefix_rfl, I.keep F N, hv⟩
theorem len_ok {as : List AV} {r : AV} {vs : List Value} (e : bLen as σ = some (r, σ')) (I : Inv h₀ L m ls σ led s.heap) (hv : VRs (adr led) as vs) :
    wpAny (model PG w) A (call (bltVal 0) vs) (XQ h₀ L m ls σ' (adr led) r s) Nope s := by
  unfold bLen at e
  split at e
  · rename_i l
    obtain ⟨_, rfl, t, rfl⟩ := hv.one
    split at e
    · rename_i q
      cases e
      have hs : (List.map UInt8.ofNat l).toArray.size = lenN l := by rw [toA_len, lenN_eq, lenN_eq, List.length_map]
      refine len_bytes (by rw [hs]; exact Nat.le_trans (le1000 q) (by decide)) ?_
      rw [hs]
      exact XQ.kept _ I I.fr I.nw ⟨_, rfl⟩
    · cases e
  · rename_i i
    obtain ⟨v, rfl, hv1⟩ := hv.one
    split at e
    · rename_i xs e1
      split at e
      · rename_i q
        cases e
        obtain ⟨t, us, n, rfl, hm, hl, hr⟩ := lst_at I e1 hv1
        have hs : us.toArray.size = lenN xs := by rw [List.size_toArray, lenN_eq, hr.len]
        refine kun_lenL hl (congrArg Int.ofNat hs) ?_ (XQ.kept _ I I.fr I.nw ⟨_, rfl⟩)
        have := le1000 q
        show Int.ofNat (lenN xs) ≤ 16384
        exact Int.ofNat_le.mpr (Nat.le_trans this (by decide))
      · cases e
    · cases e
  · cases e
theorem min_ok (hh : A.handled = none) {as : List AV} {r : AV} {vs : List Value} (e : bMin as σ = some (r, σ')) (I : Inv h₀ L m ls σ led s.heap) (hv : VRs (adr led) as vs) :
    wpAny (model PG w) A (call (bltVal 1) vs) (XQ h₀ L m ls σ' (adr led) r s) Nope s := by
  unfold bMin at e
  split at e
  · obtain ⟨_, _, rfl, ⟨t, rfl⟩, ⟨t2, rfl⟩⟩ := hv.two
    cases e
    refine min_is hh I.fr I.nw fun z v h' tk hz F N => ?_
    subst hz
    rw [← minB_is]
    exact XQ.kept _ I F N ⟨_, rfl⟩
  · obtain ⟨_, _, _, rfl, ⟨t, rfl⟩, ⟨t2, rfl⟩, ⟨t3, rfl⟩⟩ := hv.three
    cases e
    refine min3_is hh I.fr I.nw fun z v h' tk hz F N => ?_
    subst hz
    rw [← minB_is, ← minB_is]
    exact XQ.kept _ I F N ⟨_, rfl⟩
  · cases e
theorem max_ok (hh : A.handled = none) {as : List AV} {r : AV} {vs : List Value} (e : bMax as σ = some (r, σ')) (I : Inv h₀ L m ls σ led s.heap) (hv : VRs (adr led) as vs) :
    wpAny (model PG w) A (call (bltVal 2) vs) (XQ h₀ L m ls σ' (adr led) r s) Nope s := by
  unfold bMax at e
  split at e
  · obtain ⟨_, _, rfl, ⟨t, rfl⟩, ⟨t2, rfl⟩⟩ := hv.two
    cases e
    refine max_is hh I.fr I.nw fun z v h' tk hz F N => ?_
    subst hz
    rw [← maxB_is]
    exact XQ.kept _ I F N ⟨_, rfl⟩
  · cases e
theorem list_ok {as : List AV} {r : AV} {vs : List Value} (e : bList as σ = some (r, σ')) (I : Inv h₀ L m ls σ led s.heap) (hv : VRs (adr led) as vs) :
    wpAny (model PG w) A (call (bltVal 3) vs) (XQ h₀ L m ls σ' (adr led) r s) Nope s := by
  unfold bList at e
  split at e
  · rename_i i
    obtain ⟨v, rfl, hv1⟩ := hv.one
    split at e
    · rename_i xs e1
      split at e
      · rename_i q
        cases e
        obtain ⟨t, us, n, rfl, hm, hl, hr⟩ := lst_at I e1 hv1
        refine kup_listOf I.fr I.nw hm rfl (fun D c h' F N lt => XQ.new _ I F N lt ⟨us, c, hr.up (pre_snoc _ _), rfl⟩) (sz1000 ?_)
        have := le1000 q
        rw [lenN_eq, hr.len] at this
        simpa using this
      · cases e
    · cases e
  · cases e
theorem bytes_ok {as : List AV} {r : AV} {vs : List Value} (e : bBytes as σ = some (r, σ')) (I : Inv h₀ L m ls σ led s.heap) (hv : VRs (adr led) as vs) :
    wpAny (model PG w) A (call (bltVal 4) vs) (XQ h₀ L m ls σ' (adr led) r s) Nope s := by
  unfold bBytes at e
  split at e
  · obtain ⟨_, rfl, t, rfl⟩ := hv.one
    cases e
    exact bytes_same (XQ.here I ⟨_, rfl⟩)
  · cases e
theorem blt_ok (hh : A.handled = none) {n : Nat} {as : List AV} {r : AV} {vs : List Value} (e : bltV n as σ = some (r, σ')) (I : Inv h₀ L m ls σ led s.heap) (hv : VRs (adr led) as vs) :
    wpAny (model PG w) A (call (bltVal n) vs) (XQ h₀ L m ls σ' (adr led) r s) Nope s := by
  match n, e with
  | 0, e => exact len_ok e I hv
  | 1, e => exact min_ok hh e I hv
  | 2, e => exact max_ok hh e I hv
  | 3, e => exact list_ok e I hv
  | 4, e => exact bytes_ok e I hv
  | n + 5, e => cases e
theorem add_ok {x y r : AV} {u v : Value} (e : addV x y σ = some (r, σ')) (I : Inv h₀ L m ls σ led s.heap) (hx : VR (adr led) x u) (hy : VR (adr led) y v) :
    wpAny (model PG w) A (binaryOp .Add u v) (XQ h₀ L m ls σ' (adr led) r s) Nope s := by
  unfold addV at e
  split at e
  · cases e; obtain ⟨_, rfl⟩ := hx; obtain ⟨_, rfl⟩ := hy
    exact add_int (XQ.tick I ⟨_, rfl⟩)
  · split at e
    · rename_i l r q
      cases e; obtain ⟨_, rfl⟩ := hx; obtain ⟨_, rfl⟩ := hy
      have := le1000 q
      rw [lenN_eq, lenN_eq] at this
      exact bytes_add_K (by simp only [List.size_toArray, List.length_map]; omega) List.map_append.symm fun t' k => XQ.tick I ⟨_, rfl⟩
    · cases e
  · split at e
    · rename_i xs ys e1 e2
      split at e
      · rename_i q
        cases e
        obtain ⟨t, us, n, rfl, hm, hl, hr⟩ := lst_at I e1 hx
        obtain ⟨t2, vs, n2, rfl, hm2, hl2, hr2⟩ := lst_at I e2 hy
        have := le1000 q
        rw [lenN_eq, lenN_eq, hr.len, hr2.len] at this
        refine kmk_add_lit I.fr I.nw hl hl2 rfl (fun D h' F N lt => XQ.new _ I F N lt ⟨us ++ vs, 0, (VRs.app hr2 hr).up (pre_snoc _ _), rfl⟩) (sz1000 (by simpa using this))
      · cases e
    · cases e
  · cases e
theorem tup_ok {xs : List AV} {vs : List Value} (hz : lenN xs ≤ 1000) (I : Inv h₀ L m ls σ led s.heap) (hv : VRs (adr led) xs vs) :
    wpAny (model PG w) A (newTuple vs) (XQ h₀ L m ls (σ ++ [.tup xs]) (adr led) (.obj (lenN σ)) s) Nope s :=
  kup_newTuple I.fr I.nw (fun D h' F N lt => XQ.new _ I F N lt ⟨vs, 0, hv.up (pre_snoc _ _), rfl⟩) (sz1000 (by rw [lenN_eq, hv.len] at hz; exact hz))
theorem lst_ok {xs : List AV} {vs : List Value} (hz : lenN xs ≤ 1000) (I : Inv h₀ L m ls σ led s.heap) (hv : VRs (adr led) xs vs) :
    wpAny (model PG w) A (newList vs) (XQ h₀ L m ls (σ ++ [.list xs]) (adr led) (.obj (lenN σ)) s) Nope s :=
  newList_K I.fr I.nw (fun D h' F N lt => XQ.new _ I F N lt ⟨vs, 0, hv.up (pre_snoc _ _), rfl⟩) (sz1000 (by rw [lenN_eq, hv.len] at hz; exact hz))
theorem natOf_is {k : Int} {n : Nat} (h : natOf k = some n) : k = n := by
  cases k with
  | ofNat q => cases h; rfl
  | negSucc q => cases h
theorem idx_ok {x y r : AV} {u v : Value} {value slice : Expr} (e : idxV x y σ = some r) (I : Inv h₀ L m ls σ led s.heap) (hx : VR (adr led) x u) (hy : VR (adr led) y v)
    (hs : ∀ l k t, subscripted slice false (.ref l) (.int k t) = operate [.ref l, .int k t] (getItem (.ref l) (.int k t))) :
    wpAny (model PG w) A (subscriptTail value slice u v) (XQ h₀ L m ls σ (adr led) r s) Nope s := by
  unfold idxV at e
  split at e
  · split at e
    · rename_i xs n e1 e2
      split at e
      · rename_i q
        obtain ⟨t, us, c, rfl, hm, hl, hr⟩ := lst_at I e1 hx
        obtain ⟨tk, rfl⟩ := hy
        obtain ⟨z, hz, hzr⟩ := hr.nth e
        have hn := natOf_is e2
        have hq := le1000 q
        refine item_litK hl (by omega) (by omega) (v := z) ?_ (XQ.here I hzr) (hs _ _ _)
        rw [← nth_eq, hn]
        exact hz
      · cases e
    · cases e
  · cases e
theorem picked2 : ∀ {a b : Nat}, Nat.ble a 4 = true → Nat.ble b 4 = true → KBy.picked #[97, 98, 99, 100] (some (a : Int)) (some (b : Int)) = (List.map UInt8.ofNat (dropN a (takeN b [97, 98, 99, 100]))).toArray := by
  intro a b ha hb
  have ha := Nat.le_of_ble_eq_true ha
  have hb := Nat.le_of_ble_eq_true hb
  have h1 : a = 0 ∨ a = 1 ∨ a = 2 ∨ a = 3 ∨ a = 4 := by omega
  have h2 : b = 0 ∨ b = 1 ∨ b = 2 ∨ b = 3 ∨ b = 4 := by omega
  rcases h1 with rfl | rfl | rfl | rfl | rfl <;> rcases h2 with rfl | rfl | rfl | rfl | rfl <;> decide
theorem picked1 : ∀ {a : Nat}, Nat.ble a 4 = true → KBy.picked #[97, 98, 99, 100] (some (a : Int)) none = (List.map UInt8.ofNat (dropN a [97, 98, 99, 100])).toArray := by
  intro a ha
  have ha := Nat.le_of_ble_eq_true ha
  have h1 : a = 0 ∨ a = 1 ∨ a = 2 ∨ a = 3 ∨ a = 4 := by omega
  rcases h1 with rfl | rfl | rfl | rfl | rfl <;> decide
theorem cut_ok {x y z r : AV} {u l h : Value} {value : Expr} {el : Expr} {eh : Option Expr} {p : Pos} (e : cutV x y z = some r) (I : Inv h₀ L m ls σ led s.heap) (hx : VR (adr led) x u) (hy : VR (adr led) y l) (hz : VR (adr led) z h) :
    wpAny (model PG w) A (subscriptTail value (.Slice (some el) eh none p) u (.ref s.heap.objs.size)) (XQ h₀ L m ls σ (adr led) r s) Nope { s with heap := s.heap.push { cls := .type "slice", data := .fields #[l, h, .none] } } := by
  unfold cutV at e
  split at e
  · split at e
    · rename_i a b e0 e1 e2
      split at e
      · rename_i h1 h2
        cases e
        obtain ⟨_, rfl⟩ := hx
        obtain ⟨_, rfl⟩ := hy
        obtain ⟨_, rfl⟩ := hz
        rw [eqN_is e0, natOf_is e1, natOf_is e2]
        refine cut_is I.fr I.nw (.int _ _) (.int _ _) (by decide) (fun h' t' k F N => ?_) rfl (by intro q; cases value <;> rfl)
        refine XQ.kept _ I F N ⟨t', ?_⟩
        exact congrArg (Value.bytes · t') (picked2 h1 h2)
      · cases e
    · cases e
  · split at e
    · rename_i a e0 e1
      split at e
      · rename_i h1
        cases e
        obtain ⟨_, rfl⟩ := hx
        obtain ⟨_, rfl⟩ := hy
        cases hz
        rw [eqN_is e0, natOf_is e1]
        refine cut_is I.fr I.nw (.int _ _) .none (by decide) (fun h' t' k F N => ?_) rfl (by intro q; cases value <;> rfl)
        refine XQ.kept _ I F N ⟨t', ?_⟩
        exact congrArg (Value.bytes · t') (picked1 h1)
      · cases e
    · cases e
  · cases e
end
end

section
open PySem PySem.W PyProof.Rows PySem.Calls PySem.SeqAt
noncomputable def SX (w : World) (call : CallF) (A : Around) (h₀ : Heap) (L : Addr) (env : Env) (x : X) (e : Expr) : Prop := ∀ m ls σ av σ' led s, evX call ls x σ = some (av, σ') → Inv h₀ L m ls σ led s.heap → CellAt env.cells (adr led) →
  wpAny (model PG w) A (eval e env) (XQ h₀ L m ls σ' (adr led) av s) Nope s
noncomputable def SXs (w : World) (call : CallF) (A : Around) (h₀ : Heap) (L : Addr) (env : Env) (xs : Xs) (es : List Expr) : Prop := ∀ m ls σ av σ' led s pos, evXs call ls xs σ = some (av, σ') → Inv h₀ L m ls σ led s.heap → CellAt env.cells (adr led) →
  wpAny (model PG w) A (spliced (backTo pos (starEach es env))) (XsQ h₀ L m ls σ' (adr led) av s) Nope s
noncomputable def SAnd (w : World) (call : CallF) (A : Around) (h₀ : Heap) (L : Addr) (env : Env) (xs : Xs) (es : List Expr) : Prop := ∀ m ls σ av σ' led s pos, evAnd call ls xs σ = some (av, σ') → Inv h₀ L m ls σ led s.heap → CellAt env.cells (adr led) →
  wpAny (model PG w) A (eval (.BoolOp .And es pos) env) (XQ h₀ L m ls σ' (adr led) av s) Nope s
noncomputable def SOr (w : World) (call : CallF) (A : Around) (h₀ : Heap) (L : Addr) (env : Env) (xs : Xs) (es : List Expr) : Prop := ∀ m ls σ av σ' led s pos, evOr call ls xs σ = some (av, σ') → Inv h₀ L m ls σ led s.heap → CellAt env.cells (adr led) →
  wpAny (model PG w) A (eval (.BoolOp .Or es pos) env) (XQ h₀ L m ls σ' (adr led) av s) Nope s
noncomputable def ST (w : World) (call : CallF) (A : Around) (h₀ : Heap) (L : Addr) (env : Env) (t : T) (e : Expr) : Prop := ∀ m ls σ b σ' led s, evT call ls t σ = some (b, σ') → Inv h₀ L m ls σ led s.heap → CellAt env.cells (adr led) →
  wpAny (model PG w) A (PySem.isTrue e env (eval e env)) (TQ h₀ L m ls σ' (adr led) b s) Nope s
noncomputable def STAnd (w : World) (call : CallF) (A : Around) (h₀ : Heap) (L : Addr) (env : Env) (ts : Ts) (es : List Expr) : Prop := ∀ m ls σ b σ' led s pos whole, evTAnd call ls ts σ = some (b, σ') → Inv h₀ L m ls σ led s.heap → CellAt env.cells (adr led) →
  wpAny (model PG w) A (PySem.isTrue (.BoolOp .And es pos) env whole) (TQ h₀ L m ls σ' (adr led) b s) Nope s
noncomputable def STOr (w : World) (call : CallF) (A : Around) (h₀ : Heap) (L : Addr) (env : Env) (ts : Ts) (es : List Expr) : Prop := ∀ m ls σ b σ' led s pos whole, evTOr call ls ts σ = some (b, σ') → Inv h₀ L m ls σ led s.heap → CellAt env.cells (adr led) →
  wpAny (model PG w) A (PySem.isTrue (.BoolOp .Or es pos) env whole) (TQ h₀ L m ls σ' (adr led) b s) Nope s
noncomputable def RQ (h₀ : Heap) (L : Addr) (m : Str → Option Value) (ls : Locs) (σ : Mem) (ρ : List Addr) (av : AV) (s : Shared) (r : Result) (s' : Shared) : Prop := match r with
  | .ok (.ret v) => XQ h₀ L m ls σ ρ av s v s'
  | .ok _ => False
  | .error e => Nope e s'
noncomputable def CallOk (w : World) (call : CallF) (d : Nat) : Prop := ∀ f avs σ av σ', call f avs σ = some (av, σ') → ∀ A h₀ L env m ls led s vs, Cx w A h₀ env d → env.frame = some L → env.scope.kind = .function → Inv h₀ L m ls σ led s.heap → VRs (adr led) avs vs →
  codeAny (model PG w) A (.call (.ref f) ⟨vs, []⟩) (RQ h₀ L m ls σ' (adr led) av s) s
section
variable {w : World} {call : CallF} {A : Around} {h₀ : Heap} {L a : Addr} {m : Str → Option Value} {cn : Str} {cs : Scope} {ccd : Value} {ls : Locs} {σ σ' : Mem} {led : List (Addr × Obj)} {s : Shared} {kd : Kd} {d : Nat} {cl : List (Str × Addr)} {env : Env}
theorem sx_cmp (H : Stat w) (C : Cx w A h₀ env d) {op : CmpOp} {l r : X} {el er : Expr} {pos : Pos} (mr : MX kd r er) (hl : SX w call A h₀ L env l el) (hr : SX w call A h₀ L env r er) : SX w call A h₀ L env (.cmp op l r) (.Compare el [op] [er] pos) := by
  intro m ls σ av σ' led s e I K
  simp only [evX] at e
  split at e
  · rename_i x σ1 e1
    split at e
    · rename_i y σ2 e2
      split at e
      · rename_i c e3
        cases e
        refine wpAny_Compare1 (XQ.chain (hl _ _ _ _ _ _ _ e1 I K) fun led1 h1 tk1 u p1 I1 r1 => XQ.chain (hr _ _ _ _ _ _ _ e2 I1 (K.up p1)) fun led2 h2 tk2 v p2 I2 r2 => ?_) (mr.marks op)
        exact cmp_ok (s := { s with heap := h2, toks := tk2 }) H C.kx I2 (by have := C.unt; omega) e3 (r1.up p2) r2 (XQ.of (p1.trans p2) (XQ.here I2 rfl))
      · cases e
    · cases e
  · cases e
theorem st_cmp (H : Stat w) (C : Cx w A h₀ env d) {op : CmpOp} {l r : X} {el er : Expr} {pos : Pos} (mr : MX kd r er) (hl : SX w call A h₀ L env l el) (hr : SX w call A h₀ L env r er) : ST w call A h₀ L env (.cmp op l r) (.Compare el [op] [er] pos) := by
  intro m ls σ av σ' led s e I K
  simp only [evT] at e
  split at e
  · rename_i x σ1 e1
    split at e
    · rename_i y σ2 e2
      split at e
      · rename_i c e3
        cases e
        refine wpAny_isTrue_Compare1 (XQ.chain (hl _ _ _ _ _ _ _ e1 I K) fun led1 h1 tk1 u p1 I1 r1 => XQ.chain (hr _ _ _ _ _ _ _ e2 I1 (K.up p1)) fun led2 h2 tk2 v p2 I2 r2 => ?_) (mr.marks op)
        exact cmp_ok (s := { s with heap := h2, toks := tk2 }) H C.kx I2 (by have := C.unt; omega) e3 (r1.up p2) r2 (wpAny_truthy_bool (TQ.of (p1.trans p2) ⟨led2, h2, tk2, rfl, List.prefix_rfl, I2, rfl⟩))
      · cases e
    · cases e
  · cases e
theorem MX.attr_eq {kd : Kd} {x : X} {e : Expr} (h : MX kd x e) (hc : isCallF x = true) (f : Str) (p : Pos) : eval (.Attribute e f p) env = (do
      let o ← eval e env
      standAt p.atName
      let r ← holding [o] (getAttr o f true)
      letTemporaryGo e o r
      pure r) := by
  cases h
  case callF _ _ mx =>
    cases mx with
    | nil => cases hc
    | cons _ _ => with_unfolding_all rfl
  all_goals cases hc
theorem sx_attrX (H : Stat w) (C : Cx w A h₀ env d) {x : X} {f : Nat} {ex : Expr} {p : Pos} (mx : MX kd x ex) (hc : isCallF x = true) (hx : SX w call A h₀ L env x ex) : SX w call A h₀ L env (.attrX x f) (.Attribute ex (nm f) p) := by
  intro m ls σ av σ' led s e I K
  simp only [evX] at e
  split at e
  · rename_i v σ1 e1
    split at e
    · rename_i r hf
      cases e
      refine Attribute_any_ (XQ.chain (hx _ _ _ _ _ _ _ e1 I K) fun led' h' tk u p I' hr => ?_) (mx.attr_eq hc _ _)
      refine opq fun P' kP => ?_
      unfold fldV at hf
      split at hf
      · rename_i i
        split at hf
        · rename_i dd e1
          split at hf
          · rename_i fs e2
            obtain ⟨x, o1, rfl, m1, n1, r1⟩ := I'.ref e1 hr
            obtain ⟨dx, q1, rfl⟩ := r1
            obtain ⟨dy, o2, q2, m2, n2, r2⟩ := I'.get e2
            rw [q1] at q2; cases q2
            obtain ⟨PKK, v0, v1, v2, v3, v4, v5, v6, v7, v8, v9, va, hvs, rfl⟩ := r2
            obtain ⟨u, hu, hru⟩ := hvs.nth hf
            have hlt : isFld f = true := by
              have := nth_len hu
              exact Nat.ble_eq_true_of_le this
            obtain ⟨at_, hfa, hng, _⟩ := H.fld f hlt
            refine kP ?_
            exact get_own (s := { s with heap := h', toks := tk }) I'.fr C.kx (InstAt.of_news I'.nw m1 m2) (H.plain _) H.dict hfa hng (getL_part hu) hru.handed (XQ.of p (XQ.tick (s := { s with heap := h', toks := tk }) I' hru))
          · cases hf
        · cases hf
      · cases hf
    · cases e
  · cases e
theorem sx_add {l r : X} {el er : Expr} {pos : Pos} (hl : SX w call A h₀ L env l el) (hr : SX w call A h₀ L env r er) : SX w call A h₀ L env (.add l r) (.BinOp el .Add er pos) := by
  intro m ls σ av σ' led s e I K
  simp only [evX] at e
  split at e
  · rename_i x σ1 e1
    split at e
    · rename_i y σ2 e2
      refine wpAny_BinOp (XQ.chain (hl _ _ _ _ _ _ _ e1 I K) fun led1 h1 tk1 u p1 I1 r1 => XQ.chain (hr _ _ _ _ _ _ _ e2 I1 (K.up p1)) fun led2 h2 tk2 v p2 I2 r2 => ?_)
      exact wpAny_mono (add_ok (s := { s with heap := h2, toks := tk2 }) e I2 (r1.up p2) r2) (fun _ _ q => XQ.of (p1.trans p2) q) fun _ _ q => q
    · cases e
  · cases e
theorem sx_sub {l r : X} {el er : Expr} {pos : Pos} (hl : SX w call A h₀ L env l el) (hr : SX w call A h₀ L env r er) : SX w call A h₀ L env (.sub l r) (.BinOp el .Sub er pos) := by
  intro m ls σ av σ' led s e I K
  simp only [evX] at e
  split at e
  · rename_i x σ1 e1
    split at e
    · rename_i y σ2 e2
      cases e
      refine wpAny_BinOp (XQ.chain (hl _ _ _ _ _ _ _ e1 I K) fun led1 h1 tk1 u p1 I1 r1 => XQ.chain (hr _ _ _ _ _ _ _ e2 I1 (K.up p1)) fun led2 h2 tk2 v p2 I2 r2 => ?_)
      obtain ⟨_, rfl⟩ := r1
      obtain ⟨_, rfl⟩ := r2
      exact sub_int (XQ.of (p1.trans p2) (XQ.tick (s := { s with heap := h2, toks := tk2 }) I2 ⟨_, rfl⟩))
    · cases e
  · cases e
theorem sx_not {x : X} {ex : Expr} {pos : Pos} (hx : SX w call A h₀ L env x ex) : SX w call A h₀ L env (.not x) (.UnaryOp .Not ex pos) := by
  intro m ls σ av σ' led s e I K
  simp only [evX] at e
  split at e
  · rename_i b σ1 e1
    cases e
    refine UnaryOp_ (XQ.chain (hx _ _ _ _ _ _ _ e1 I K) fun led1 h1 tk1 u p1 I1 r1 => ?_)
    cases r1
    exact not_of (wpAny_truthy_bool (XQ.of p1 (XQ.here (s := { s with heap := h1, toks := tk1 }) I1 (by rw [neg_is]; rfl))))
  · cases e
theorem sx_ite {t : T} {x y : X} {et ex ey : Expr} {pos : Pos} (ht : ST w call A h₀ L env t et) (hx : SX w call A h₀ L env x ex) (hy : SX w call A h₀ L env y ey) : SX w call A h₀ L env (.ite t x y) (.IfExp et ex ey pos) := by
  intro m ls σ av σ' led s e I K
  simp only [evX] at e
  split at e
  · rename_i σ1 e1
    refine IfExp_ (TQ.chain (ht _ _ _ _ _ _ _ e1 I K) fun led1 h1 tk1 p1 I1 => ?_)
    rw [if_pos rfl]
    exact wpAny_mono (hx _ _ _ _ _ _ { s with heap := h1, toks := tk1 } e I1 (K.up p1)) (fun _ _ q => XQ.of p1 q) fun _ _ q => q
  · rename_i σ1 e1
    refine IfExp_ (TQ.chain (ht _ _ _ _ _ _ _ e1 I K) fun led1 h1 tk1 p1 I1 => ?_)
    rw [if_neg (by decide)]
    exact wpAny_mono (hy _ _ _ _ _ _ { s with heap := h1, toks := tk1 } e I1 (K.up p1)) (fun _ _ q => XQ.of p1 q) fun _ _ q => q
  · cases e
theorem sx_tup {xs : Xs} {es : List Expr} {k : Nat} {pos : Pos} (hx : SXs w call A h₀ L env xs es) : SX w call A h₀ L env (.tup xs) (.Tuple es k pos) := by
  intro m ls σ av σ' led s e I K
  simp only [evX] at e
  split at e
  · rename_i vs σ1 e1
    split at e
    · rename_i q
      cases e
      refine Tuple_ (XsQ.chain (hx _ _ _ _ _ _ _ _ e1 I K) fun led1 h1 tk1 us p1 I1 r1 => ?_)
      exact wpAny_mono (tup_ok (s := { s with heap := h1, toks := tk1 }) (le1000 q) I1 r1) (fun _ _ q => XQ.of p1 q) fun _ _ q => q
    · cases e
  · cases e
theorem sx_lst {xs : Xs} {es : List Expr} {pos : Pos} (hx : SXs w call A h₀ L env xs es) : SX w call A h₀ L env (.lst xs) (.List es pos) := by
  intro m ls σ av σ' led s e I K
  simp only [evX] at e
  split at e
  · rename_i vs σ1 e1
    split at e
    · rename_i q
      cases e
      refine List_ (XsQ.chain (hx _ _ _ _ _ _ _ _ e1 I K) fun led1 h1 tk1 us p1 I1 r1 => ?_)
      exact wpAny_mono (lst_ok (s := { s with heap := h1, toks := tk1 }) (le1000 q) I1 r1) (fun _ _ q => XQ.of p1 q) fun _ _ q => q
    · cases e
  · cases e
theorem MX.item {kd : Kd} {x : X} {e : Expr} (h : MX kd x e) (l : Addr) (k : Int) (t : Tok) : subscripted e false (.ref l) (.int k t) = operate [.ref l, .int k t] (getItem (.ref l) (.int k t)) := by cases h <;> rfl
theorem sx_idx {x i : X} {ex ei : Expr} {pos : Pos} (mi : MX kd i ei) (hx : SX w call A h₀ L env x ex) (hi : SX w call A h₀ L env i ei) : SX w call A h₀ L env (.idx x i) (.Subscript ex ei pos) := by
  intro m ls σ av σ' led s e I K
  simp only [evX] at e
  split at e
  · rename_i x σ1 e1
    split at e
    · rename_i y σ2 e2
      split at e
      · rename_i c e3
        cases e
        refine Subscript_ (XQ.chain (hx _ _ _ _ _ _ _ e1 I K) fun led1 h1 tk1 u p1 I1 r1 => XQ.chain (hi _ _ _ _ _ _ _ e2 I1 (K.up p1)) fun led2 h2 tk2 v p2 I2 r2 => ?_)
        exact wpAny_mono (idx_ok (s := { s with heap := h2, toks := tk2 }) e3 I2 (r1.up p2) r2 (mi.item · · ·)) (fun _ _ q => XQ.of (p1.trans p2) q) fun _ _ q => q
      · cases e
    · cases e
  · cases e
theorem sx_cut {x l h : X} {ex el eh : Expr} {pos p : Pos} (hx : SX w call A h₀ L env x ex) (hl : SX w call A h₀ L env l el) (hh : SX w call A h₀ L env h eh) : SX w call A h₀ L env (.cut x l h) (.Subscript ex (.Slice (some el) (some eh) none p) pos) := by
  intro m ls σ av σ' led s e I K
  simp only [evX] at e
  split at e
  · rename_i x σ1 e1
    split at e
    · rename_i y σ2 e2
      split at e
      · rename_i z σ3 e3
        split at e
        · rename_i c e4
          cases e
          refine Subscript_ (XQ.chain (hx _ _ _ _ _ _ _ e1 I K) fun led1 h1 tk1 u p1 I1 r1 => wpAny_Slice (evalPart_some_step (XQ.chain (hl _ _ _ _ _ _ _ e2 I1 (K.up p1)) fun led2 h2 tk2 v p2 I2 r2 => evalPart_some_step (XQ.chain (hh _ _ _ _ _ _ _ e3 I2 (K.up (p1.trans p2))) fun led3 h3 tk3 t p3 I3 r3 => evalPart_none_step ?_))))
          exact wpAny_mono (cut_ok (s := { s with heap := h3, toks := tk3 }) e4 I3 (r1.up (p2.trans p3)) (r2.up p3) r3) (fun _ _ q => XQ.of (p1.trans (p2.trans p3)) q) fun _ _ q => q
        · cases e
      · cases e
    · cases e
  · cases e
theorem sx_cutN {x l : X} {ex el : Expr} {pos p : Pos} (hx : SX w call A h₀ L env x ex) (hl : SX w call A h₀ L env l el) : SX w call A h₀ L env (.cut x l .none) (.Subscript ex (.Slice (some el) none none p) pos) := by
  intro m ls σ av σ' led s e I K
  simp only [evX] at e
  split at e
  · rename_i x σ1 e1
    split at e
    · rename_i y σ2 e2
      split at e
      · rename_i c e4
        cases e
        refine Subscript_ (XQ.chain (hx _ _ _ _ _ _ _ e1 I K) fun led1 h1 tk1 u p1 I1 r1 => wpAny_Slice (evalPart_some_step (XQ.chain (hl _ _ _ _ _ _ _ e2 I1 (K.up p1)) fun led2 h2 tk2 v p2 I2 r2 => evalPart_none_step (evalPart_none_step ?_))))
        exact wpAny_mono (cut_ok (s := { s with heap := h2, toks := tk2 }) e4 I2 (r1.up p2) r2 rfl) (fun _ _ q => XQ.of (p1.trans p2) q) fun _ _ q => q
      · cases e
    · cases e
  · cases e
theorem sxs_nil : SXs w call A h₀ L env .nil [] := by
  intro m ls σ av σ' led s pos e I K
  simp only [evXs] at e
  cases e
  exact args_nil ⟨led, s.heap, s.toks, rfl, List.prefix_rfl, I, trivial⟩
theorem sxs_cons {x : X} {xs : Xs} {ex : Expr} {es : List Expr} (mx : MX kd x ex) (hx : SX w call A h₀ L env x ex) (hs : SXs w call A h₀ L env xs es) : SXs w call A h₀ L env (.cons x xs) (ex :: es) := by
  intro m ls σ av σ' led s pos e I K
  simp only [evXs] at e
  split at e
  · rename_i x σ1 e1
    split at e
    · rename_i y σ2 e2
      cases e
      refine args_cons (XQ.chain (hx _ _ _ _ _ _ _ e1 I K) fun led1 h1 tk1 u p1 I1 r1 => XsQ.chain (hs _ _ _ _ _ _ _ _ e2 I1 (K.up p1)) fun led2 h2 tk2 v p2 I2 r2 => ?_) (mx.star es env)
      exact ⟨led2, h2, tk2, rfl, p1.trans p2, I2, r1.up p2, r2⟩
    · cases e
  · cases e
end
end

section
open PySem PySem.W PyProof.Rows PySem.Calls PySem.SeqAt

section
variable {w : World} {call : CallF} {A : Around} {h₀ : Heap} {L a : Addr} {m : Str → Option Value} {cn : Str} {cs : Scope} {ccd : Value} {ls : Locs} {σ σ' : Mem} {led : List (Addr × Obj)} {s : Shared} {kd : Kd} {d : Nat} {cl : List (Str × Addr)} {env : Env}
theorem sand_one {x : X} {ex : Expr} (hx : SX w call A h₀ L env x ex) : SAnd w call A h₀ L env (.cons x .nil) [ex] := by
  intro m ls σ av σ' led s pos e I K
  simp only [evAnd] at e
  exact BoolOp_one (hx _ _ _ _ _ _ _ e I K)
theorem sand_cons {x y : X} {ys : Xs} {ex ey : Expr} {es : List Expr} (hx : SX w call A h₀ L env x ex) (hs : SAnd w call A h₀ L env (.cons y ys) (ey :: es)) : SAnd w call A h₀ L env (.cons x (.cons y ys)) (ex :: ey :: es) := by
  intro m ls σ av σ' led s pos e I K
  rw [evAnd] at e
  split at e
  · rename_i σ1 e1
    refine BoolOp_and (XQ.chain (hx _ _ _ _ _ _ _ e1 I K) fun led1 h1 tk1 u p1 I1 r1 => ?_)
    cases r1
    refine wpAny_truthy_bool ?_
    rw [if_pos rfl]
    exact wpAny_mono (hs _ _ _ _ _ _ { s with heap := h1, toks := tk1 } pos e I1 (K.up p1)) (fun _ _ q => XQ.of p1 q) fun _ _ q => q
  · rename_i σ1 e1
    cases e
    refine BoolOp_and (XQ.chain (hx _ _ _ _ _ _ _ e1 I K) fun led1 h1 tk1 u p1 I1 r1 => ?_)
    cases r1
    refine wpAny_truthy_bool ?_
    rw [if_neg (by decide)]
    exact XQ.of p1 (XQ.here (s := { s with heap := h1, toks := tk1 }) I1 rfl)
  · cases e
theorem sor_one {x : X} {ex : Expr} (hx : SX w call A h₀ L env x ex) : SOr w call A h₀ L env (.cons x .nil) [ex] := by
  intro m ls σ av σ' led s pos e I K
  simp only [evOr] at e
  exact BoolOp_one (hx _ _ _ _ _ _ _ e I K)
theorem sor_cons {x y : X} {ys : Xs} {ex ey : Expr} {es : List Expr} (hx : SX w call A h₀ L env x ex) (hs : SOr w call A h₀ L env (.cons y ys) (ey :: es)) : SOr w call A h₀ L env (.cons x (.cons y ys)) (ex :: ey :: es) := by
  intro m ls σ av σ' led s pos e I K
  rw [evOr] at e
  split at e
  · rename_i σ1 e1
    refine BoolOp_or (XQ.chain (hx _ _ _ _ _ _ _ e1 I K) fun led1 h1 tk1 u p1 I1 r1 => ?_)
    cases r1
    refine wpAny_truthy_bool ?_
    rw [if_neg (by decide)]
    exact wpAny_mono (hs _ _ _ _ _ _ { s with heap := h1, toks := tk1 } pos e I1 (K.up p1)) (fun _ _ q => XQ.of p1 q) fun _ _ q => q
  · rename_i σ1 e1
    cases e
    refine BoolOp_or (XQ.chain (hx _ _ _ _ _ _ _ e1 I K) fun led1 h1 tk1 u p1 I1 r1 => ?_)
    cases r1
    refine wpAny_truthy_bool ?_
    rw [if_pos rfl]
    exact XQ.of p1 (XQ.here (s := { s with heap := h1, toks := tk1 }) I1 rfl)
  · cases e
theorem stand_nil : STAnd w call A h₀ L env .nil [] := by
  intro m ls σ b σ' led s pos whole e I K
  simp only [evTAnd] at e
  cases e
  exact isTrue_and_nil ⟨led, s.heap, s.toks, rfl, List.prefix_rfl, I, rfl⟩
theorem stand_cons {t : T} {ts : Ts} {et : Expr} {es : List Expr} (ht : ST w call A h₀ L env t et) (hs : STAnd w call A h₀ L env ts es) : STAnd w call A h₀ L env (.cons t ts) (et :: es) := by
  intro m ls σ b σ' led s pos whole e I K
  simp only [evTAnd] at e
  split at e
  · rename_i σ1 e1
    refine isTrue_and (TQ.chain (ht _ _ _ _ _ _ _ e1 I K) fun led1 h1 tk1 p1 I1 => ?_)
    rw [if_pos rfl]
    exact wpAny_mono (hs _ _ _ _ _ _ { s with heap := h1, toks := tk1 } pos whole e I1 (K.up p1)) (fun _ _ q => TQ.of p1 q) fun _ _ q => q
  · rename_i σ1 e1
    cases e
    refine isTrue_and (TQ.chain (ht _ _ _ _ _ _ _ e1 I K) fun led1 h1 tk1 p1 I1 => ?_)
    rw [if_neg (by decide)]
    exact ⟨led1, h1, tk1, rfl, p1, I1, rfl⟩
  · cases e
theorem stor_nil : STOr w call A h₀ L env .nil [] := by
  intro m ls σ b σ' led s pos whole e I K
  simp only [evTOr] at e
  cases e
  exact isTrue_or_nil ⟨led, s.heap, s.toks, rfl, List.prefix_rfl, I, rfl⟩
theorem stor_cons {t : T} {ts : Ts} {et : Expr} {es : List Expr} (ht : ST w call A h₀ L env t et) (hs : STOr w call A h₀ L env ts es) : STOr w call A h₀ L env (.cons t ts) (et :: es) := by
  intro m ls σ b σ' led s pos whole e I K
  simp only [evTOr] at e
  split at e
  · rename_i σ1 e1
    refine isTrue_or (TQ.chain (ht _ _ _ _ _ _ _ e1 I K) fun led1 h1 tk1 p1 I1 => ?_)
    rw [if_neg (by decide)]
    exact wpAny_mono (hs _ _ _ _ _ _ { s with heap := h1, toks := tk1 } pos whole e I1 (K.up p1)) (fun _ _ q => TQ.of p1 q) fun _ _ q => q
  · rename_i σ1 e1
    cases e
    refine isTrue_or (TQ.chain (ht _ _ _ _ _ _ _ e1 I K) fun led1 h1 tk1 p1 I1 => ?_)
    rw [if_pos rfl]
    exact ⟨led1, h1, tk1, rfl, p1, I1, rfl⟩
  · cases e
theorem st_not {t : T} {et : Expr} {pos : Pos} (ht : ST w call A h₀ L env t et) : ST w call A h₀ L env (.not t) (.UnaryOp .Not et pos) := by
  intro m ls σ b σ' led s e I K
  simp only [evT] at e
  split at e
  · rename_i b1 σ1 e1
    cases e
    refine isTrue_not (TQ.chain (ht _ _ _ _ _ _ _ e1 I K) fun led1 h1 tk1 p1 I1 => ?_)
    exact ⟨led1, h1, tk1, rfl, p1, I1, (neg_is _).symm⟩
  · cases e
theorem st_val {x : X} {ex : Expr} (hp : ∀ whole, PySem.isTrue ex env whole = do
          let v ← whole
          standAt (Expr.pos ex)
          holding [v] (truthy v)) (hx : SX w call A h₀ L env x ex) : ST w call A h₀ L env (.val x) ex := by
  intro m ls σ b σ' led s e I K
  simp only [evT] at e
  split at e
  · rename_i b1 σ1 e1
    cases e
    refine isTrue_plain (XQ.chain (hx _ _ _ _ _ _ _ e1 I K) fun led1 h1 tk1 u p1 I1 r1 => ?_) (hp _)
    cases r1
    exact wpAny_truthy_bool ⟨led1, h1, tk1, rfl, p1, I1, rfl⟩
  · cases e
theorem fa_cons {α : Type} {P : α → Prop} {a : α} {l : List α} (h : P a) (r : ∀ q ∈ l, P q) : ∀ q ∈ a :: l, P q := List.forall_mem_cons.mpr ⟨h, r⟩
theorem fa_snoc {α : Type} {P : α → Prop} {a : α} {l : List α} (r : ∀ q ∈ l, P q) (h : P a) : ∀ q ∈ l ++ [a], P q := fun q hq => (List.mem_append.mp hq).elim (r q) fun z => by rw [List.mem_singleton.mp z]; exact h
theorem new_ok (H : Stat w) (C : Cx w A h₀ env d) (hd : 10 ≤ d) (hL : env.frame = some L) (hk : env.scope.kind = .function) {k : Int} {t : Tok} (I : Inv h₀ L m ls σ led s.heap) :
    wpAny (model PG w) A (PySem.call (.ref 192) [.int k t]) (XQ h₀ L m ls (newPart k σ).2 (adr led) (newPart k σ).1 s) Nope s := by
  refine opq fun P' kP => ?_
  obtain ⟨A₀, base, outer, B, hA⟩ := C.below
  obtain ⟨p, loose, mean, mg, mb, TT⟩ := C.top
  refine kP ?_
  refine call_cls I.fr C.kx I.nw H.mkI H.ini H.iniF fun x dx h' F' N' l1 l2 => ?_
  have hx1 : dx ≠ x := Nat.ne_of_lt l2
  refine ct_use (ct_init w x dx k t hx1) B F' C.kx N' TT hA hL hk (led := (x, instObj 192 dx) :: (dx, dictOf [] 0) :: live σ led) (rest := live σ led) (s := { s with heap := h' })
    (fun q hq => by rcases List.mem_cons.mp hq with rfl | hq; exact .head _; rcases List.mem_cons.mp hq with rfl | hq; exact .tail _ (.head _); cases hq) ?_ ?_ ?_ C.hd ?_
  · refine .drop (.drop ?_)
    have : ∀ l : List (Addr × Obj), (∀ q ∈ l, q.1 < dx) → Rst [x, dx] l l := by
      intro l
      induction l with
      | nil => intro _; exact .nil
      | cons q l ih =>
        intro h
        refine .keep (fun a ha => ?_) (ih fun q hq => h q (.tail _ hq))
        have h1 := h q (.head _)
        rcases List.mem_cons.mp ha with rfl | ha
        · exact Nat.ne_of_lt (Nat.lt_trans h1 l2)
        · cases List.mem_singleton.mp ha; exact Nat.ne_of_lt h1
    exact this _ l1
  · have := C.dep
    show A.depth + 1 + 5 < recursionLimit
    omega
  · have := C.unt
    show A.units + 1 + 10 * 5 < cLine
    omega
  · rintro ⟨K, la, ll, t1, t2, t3⟩ h'' tk F'' N'' ⟨x1, x2, _⟩ ⟨z1, z2, z3, z4, z5⟩
    refine ⟨rfl, ?_⟩
    dsimp only at N'' x1 x2 z1 z2 z3 z4 z5
    have off : ∀ {b : Addr}, Aparts b (live σ led) → b ∉ adr (live σ led) := by
      intro b
      have : ∀ l : List (Addr × Obj), Aparts b l → b ∉ adr l := by
        intro l
        induction l with
        | nil => intro _ h; cases h
        | cons q l ih =>
          rintro ⟨h1, h2⟩ h
          rcases List.mem_cons.mp h with e | h
          · exact h1.ne e.symm
          · exact ih h2 h
      exact this _
    have low : ∀ {b : Addr}, dx ≤ b → b ∉ adr (live σ led) := fun hb h => by
      obtain ⟨q, hq, e⟩ := List.mem_map.mp h
      have := l1 q hq
      rw [e] at this
      exact Nat.lt_irrefl _ (Nat.lt_of_le_of_lt hb this)
    refine opq fun P' kP => ?_
    obtain ⟨R, nw, r0, r1, r2, r3, r4⟩ : ∃ R : Addr × Obj → Prop, (∀ l, (∀ q ∈ l, R q) → News h₀ L h'' l) ∧ (∀ q ∈ live σ led, R q) ∧ R (x, instObj 192 dx) ∧ R (dx, pD K (.int k t) (.str "ready" t1) (.bytes #[] t2) (.int 0 t3) (.ref la) (.ref ll) (.bool false) (.bool false) (.bool false) .none (.bool false)) ∧ R (la, listOf #[] 0) ∧ R (ll, listOf #[] 0) :=
      ⟨(· ∈ _), fun l hl q hq => N'' q (hl q hq), fun q => List.mem_append_right _, .head _, .tail _ (.head _), .tail _ (.tail _ (.head _)), .tail _ (.tail _ (.tail _ (.head _)))⟩
    refine kP ?_
    clear kP P'
    have I0 : Inv h₀ L m ls σ led h'' := I.keep F'' (nw _ r0)
    have I1 := I0.push' (D := la) (o := listOf #[] 0) (ao := .list []) F'' (nw _ (fa_cons r3 r0)) (off x1) ⟨[], 0, trivial, rfl⟩
    have e1 := live_snoc (q := (la, listOf #[] 0)) (ao := .list []) rfl I0.ob
    have I2 := I1.push' (D := ll) (o := listOf #[] 0) (ao := .list []) F'' (nw _ (fa_cons r4 (e1 ▸ fa_snoc r0 r3)))
      (by rw [e1]; simp only [adr, List.map_append, List.map_cons, List.map_nil, List.mem_append, List.mem_singleton, not_or]; exact ⟨off x2, z5.ne'⟩) ⟨[], 0, trivial, rfl⟩
    have e2 := live_snoc (q := (ll, listOf #[] 0)) (ao := .list []) rfl I1.ob
    rw [e1] at e2
    have n1 : led.length = lenN σ := by rw [lenN_eq, I.ob.len]
    have I3 := I2.push' (D := dx) (o := pD K (.int k t) (.str "ready" t1) (.bytes #[] t2) (.int 0 t3) (.ref la) (.ref ll) (.bool false) (.bool false) (.bool false) .none (.bool false))
      (ao := .part [.int k, .str wREADY, .bytes [], .int 0, .obj (lenN σ), .obj (lenN σ + 1), .bool false, .bool false, .bool false, .none, .bool false]) F'' (nw _ (fa_cons r2 (e2 ▸ fa_snoc (fa_snoc r0 r3) r4)))
      (by rw [e2]; simp only [adr, List.map_append, List.map_cons, List.map_nil, List.mem_append, List.mem_singleton, not_or]; exact ⟨⟨low (Nat.le_refl _), z1.ne⟩, z2.ne⟩)
      ⟨K, _, _, _, _, _, _, _, _, _, _, _, ⟨⟨_, rfl⟩, ⟨_, rfl⟩, ⟨_, rfl⟩, ⟨_, rfl⟩, ⟨la, by
        have q := nth_adr (nth_last led (la, listOf #[] 0))
        rw [n1] at q
        simp only [adr, List.map_append] at q ⊢
        exact nth_append_some (nth_append_some q), rfl⟩, ⟨ll, by
        have q := nth_adr (nth_last (led ++ [(la, listOf #[] 0)]) (ll, listOf #[] 0))
        rw [List.length_append, n1] at q
        simp only [adr, List.map_append] at q ⊢
        exact nth_append_some q, rfl⟩, rfl, rfl, rfl, rfl, rfl, trivial⟩, rfl⟩
    have e3 := live_snoc (q := (dx, pD K (.int k t) (.str "ready" t1) (.bytes #[] t2) (.int 0 t3) (.ref la) (.ref ll) (.bool false) (.bool false) (.bool false) .none (.bool false))) (ao := .part [.int k, .str wREADY, .bytes [], .int 0, .obj (lenN σ), .obj (lenN σ + 1), .bool false, .bool false, .bool false, .none, .bool false]) rfl I2.ob
    rw [e2] at e3
    have I4 := I3.push' (D := x) (o := instObj 192 dx) (ao := .inst (lenN σ + 2)) F'' (nw _ (fa_cons r1 (e3 ▸ fa_snoc (fa_snoc (fa_snoc r0 r3) r4) r2)))
      (by rw [e3]; simp only [adr, List.map_append, List.map_cons, List.map_nil, List.mem_append, List.mem_singleton, not_or]; exact ⟨⟨⟨low (Nat.le_of_lt l2), z3.ne⟩, z4.ne⟩, Ne.symm hx1⟩)
      ⟨dx, by
        have q := nth_adr (nth_last (led ++ [(la, listOf #[] 0)] ++ [(ll, listOf #[] 0)]) (dx, pD K (.int k t) (.str "ready" t1) (.bytes #[] t2) (.int 0 t3) (.ref la) (.ref ll) (.bool false) (.bool false) (.bool false) .none (.bool false)))
        rw [List.length_append, List.length_append, n1] at q
        simp only [adr, List.map_append] at q ⊢
        exact nth_append_some q, rfl⟩
    have em : (newPart k σ).2 = σ ++ [.list []] ++ [.list []] ++ [.part [.int k, .str wREADY, .bytes [], .int 0, .obj (lenN σ), .obj (lenN σ + 1), .bool false, .bool false, .bool false, .none, .bool false]] ++ [.inst (lenN σ + 2)] := by simp [newPart]
    rw [em]
    refine ⟨_, h'', tk, rfl, ?_, I4, ⟨x, ?_, rfl⟩⟩
    · simp only [adr, List.map_append, List.append_assoc]; exact List.prefix_append _ _
    · have q := nth_adr (nth_last (led ++ [(la, listOf #[] 0)] ++ [(ll, listOf #[] 0)] ++ [(dx, pD K (.int k t) (.str "ready" t1) (.bytes #[] t2) (.int 0 t3) (.ref la) (.ref ll) (.bool false) (.bool false) (.bool false) .none (.bool false))]) (x, instObj 192 dx))
      rw [List.length_append, List.length_append, List.length_append, n1] at q
      exact q
end
end

section
open PySem PySem.W PyProof.Rows PySem.Calls PySem.SeqAt

theorem bltV_nil (b : Nat) (σ : Mem) : bltV b [] σ = none := by
  match b with
  | 0 => rfl
  | 1 => rfl
  | 2 => rfl
  | 3 => rfl
  | 4 => rfl
  | n + 5 => rfl
section
variable {w : World} {call : CallF} {A : Around} {h₀ : Heap} {L a : Addr} {m : Str → Option Value} {cn : Str} {cs : Scope} {ccd : Value} {ls : Locs} {σ σ' : Mem} {led : List (Addr × Obj)} {s : Shared} {kd : Kd} {d : Nat} {cl : List (Str × Addr)} {env : Env}
theorem cw_ok (C : Cx w A h₀ env d) {first : List Value} {x : Addr} {pos : Pos} {as : Xs} {es : List Expr} {vs : List AV} (hk : keepIn (KF w) (.ref x) = true) (mx : MXs kd as es) (ha : SXs w call A h₀ L env as es) (e : evXs call ls as σ = some (vs, σ')) (I : Inv h₀ L m ls σ led s.heap) (K : CellAt env.cells (adr led))
    {P : Value → Shared → Prop} (k : ∀ led' h' tk us, adr led <+: adr led' → Inv h₀ L m ls σ' led' h' → VRs (adr led') vs us → wpAny (model PG w) A (PySem.call (.ref x) (first ++ us)) P Nope { s with heap := h', toks := tk }) :
    wpAny (model PG w) A (callWith pos (.ref x) first (backTo pos (starEach es env)) []) P Nope s := by
  cases mx with
  | nil =>
    simp only [evXs] at e
    cases e
    exact callWith_K0 (C.kx.keeps I.fr.keep) hk (k led s.heap s.toks [] List.prefix_rfl I trivial)
  | cons hx hs =>
    exact callWith_K C.kx hk (XsQ.chain (ha _ _ _ _ _ _ _ _ e I K) fun led' h' tk us p I' r => ⟨C.kx.keeps I'.fr.keep, k led' h' tk us p I' r⟩) (hx.star _ _) (MX.stars hs pos env)
theorem call_ok (hc : CallOk w call d) (C : Cx w A h₀ env d) (hL : env.frame = some L) (hk : env.scope.kind = .function) {f : Nat} {avs : List AV} {av : AV} {vs : List Value} (e : call f avs σ = some (av, σ')) (I : Inv h₀ L m ls σ led s.heap) (hv : VRs (adr led) avs vs) :
    wpAny (model PG w) A (PySem.call (.ref f) vs) (XQ h₀ L m ls σ' (adr led) av s) Nope s := by
  refine wpAny_call ?_
  exact hc f avs σ av σ' e A h₀ L env m ls led s vs C hL hk I hv
theorem bltVal_is : ∀ b : Nat, (∃ id, bltVal b = .builtin id) ∨ ∃ id, bltVal b = .type id
  | 0 => .inl ⟨_, rfl⟩
  | 1 => .inl ⟨_, rfl⟩
  | 2 => .inl ⟨_, rfl⟩
  | 3 => .inr ⟨_, rfl⟩
  | _ + 4 => .inr ⟨_, rfl⟩
theorem sx_callF (H : Stat w) (hc : CallOk w call d) (C : Cx w A h₀ (envX cn cs L a ccd cl) d) (hd : 10 ≤ d) (hk : cs.kind = .function) (hkd : KdOk kd cs) {g : Nat} {as : Xs} {es : List Expr} {p1 p2 : Pos} (hg : kd.k g = some .globalImplicit) (mx : MXs kd as es) (ha : SXs w call A h₀ L (envX cn cs L a ccd cl) as es) :
    SX w call A h₀ L (envX cn cs L a ccd cl) (.callF g as) (.Call (.Name (nm g) p1) es [] p2) := by
  intro m ls σ av σ' led s e I K
  simp only [evX] at e
  split at e
  · rename_i fv e0
    split at e
    · rename_i vs σ1 e1
      refine Call_ (XQ.chain (sx_glb H C hk hkd hg e0 I) fun led0 h0 tk0 f p0 I0 r0 => ?_)
      unfold callV at e
      split at e
      · rename_i b
        cases r0
        cases mx with
        | nil =>
          simp only [evXs] at e1
          cases e1
          rw [bltV_nil] at e
          cases e
        | cons hx hs =>
          have key : ∀ led' h' tk us, adr led0 <+: adr led' → Inv h₀ L m ls σ1 led' h' → VRs (adr led') vs us → wpAny (model PG w) A (PySem.call (bltVal b) us) (XQ h₀ L m ls σ' (adr led) av s) Nope { s with heap := h', toks := tk } := fun led' h' tk us p I' r =>
            wpAny_mono (blt_ok (s := { s with heap := h', toks := tk }) C.hd e I' r) (fun _ _ q => XQ.of (p0.trans p) q) fun _ _ q => q
          have kb : ∀ id : String, bltVal b = .builtin id → wpAny (model PG w) A (callWith p2 (bltVal b) [] (backTo p2 (starEach (_ :: _) (envX cn cs L a ccd cl))) []) (XQ h₀ L m ls σ' (adr led) av s) Nope { s with heap := h0, toks := tk0 } := fun id he => by
            rw [he]
            exact callWith_builtin1 (XsQ.chain (ha _ _ _ _ _ _ _ _ e1 I0 (K.up p0)) fun led' h' tk us p I' r => he ▸ key led' h' tk us p I' r) (hx.star _ _) (MX.stars hs p2 _)
          have kt : ∀ id : String, bltVal b = .type id → wpAny (model PG w) A (callWith p2 (bltVal b) [] (backTo p2 (starEach (_ :: _) (envX cn cs L a ccd cl))) []) (XQ h₀ L m ls σ' (adr led) av s) Nope { s with heap := h0, toks := tk0 } := fun id he => by
            rw [he]
            exact PyProof.Rows.callWith_type1 (XsQ.chain (ha _ _ _ _ _ _ _ _ e1 I0 (K.up p0)) fun led' h' tk us p I' r => he ▸ key led' h' tk us p I' r) (hx.star _ _) (MX.stars hs p2 _)
          exact (bltVal_is b).elim (fun ⟨id, h⟩ => kb id h) fun ⟨id, h⟩ => kt id h
      · rename_i x
        cases r0
        split at e
        · cases e
        · rename_i q70
          refine cw_ok (s := { s with heap := h0, toks := tk0 }) C (H.keep g x e0 (fun z => Nat.ne_of_beq_eq_false q70 z)) mx ha e1 I0 (K.up p0) fun led' h' tk us p I' r => ?_
          split at e
          · rename_i q
            cases Nat.eq_of_beq_eq_true q
            split at e
            · rename_i k
              cases e
              obtain ⟨_, rfl, t, rfl⟩ := r.one
              exact wpAny_mono (new_ok (s := { s with heap := h', toks := tk }) H C hd rfl hk I') (fun _ _ q => XQ.of (p0.trans p) q) fun _ _ q => q
            · cases e
          · exact wpAny_mono (call_ok (s := { s with heap := h', toks := tk }) hc C rfl hk e I' r) (fun _ _ q => XQ.of (p0.trans p) q) fun _ _ q => q
      · cases e
    · cases e
  · cases e
theorem method_eq {o : Expr} {n : Str} {es : List Expr} {p1 p2 p3 : Pos} {so : Str} (h0 : o = .Name so p1) (hs : (backTo p3 (starEach es env)).any (·.1) = false) (hp : (Nat.beq p2.endLine p3.line && Nat.blt es.length 30) = true) :
    eval (.Call (.Attribute o n p2) es [] p3) env = (do
      let ov ← eval o env
      standAt p2.atName
      let (f, first) ← holding [ov] (getMethod ov n (do return (← importBound o env).getD true))
      callWith p3 f first (backTo p3 (starEach es env)) []) := by
  subst h0
  obtain ⟨hp1, hp2⟩ := Bool.and_eq_true_iff.mp hp
  have few : methodCallForm (es.length + 0) (backTo p3 (starEach es env)) [] = true := by
    unfold methodCallForm
    have : (backTo p3 (starEach es env)).all (!·.1) = true := by
      rw [List.all_eq_true]
      intro q hq
      have := List.any_eq_false.mp hs q hq
      simpa using this
    rw [this]
    simp
    exact Nat.le_of_ble_eq_true hp2
  have hpos : ∀ oo : Expr, methodCallPos true oo env p2 p3 = pure p3 := fun oo => by
    unfold methodCallPos
    rw [if_pos (by simpa using Nat.eq_of_beq_eq_true hp1)]
  show (do
    let ov ← eval (.Name so p1) env
    standAt p2.atName
    methodCall (.Name so p1) n p2 p3 env ov (es.length + 0) (backTo p3 (starEach es env)) []) = _
  unfold methodCall
  rw [few, hpos]
  rfl
theorem sx_callM (H : Stat w) (hc : CallOk w call d) (C : Cx w A h₀ (envX cn cs L a ccd cl) d) (hk : cs.kind = .function) (hkd : KdOk kd cs) {o f : Nat} {as : Xs} {es : List Expr} {p1 p2 p3 : Pos} (ho : kd.k o = some .local) (hp : (Nat.beq p2.endLine p3.line && Nat.blt es.length 30) = true) (mx : MXs kd as es) (ha : SXs w call A h₀ L (envX cn cs L a ccd cl) as es) :
    SX w call A h₀ L (envX cn cs L a ccd cl) (.callM o f as) (.Call (.Attribute (.Name (nm o) p1) (nm f) p2) es [] p3) := by
  intro m ls σ av σ' led s e I K
  simp only [evX] at e
  split at e
  · rename_i v x e0 e0'
    split at e
    · rename_i hi
      split at e
      · rename_i vs σ1 e1
        refine MethodCall_ (XQ.chain (sx_loc H hk hkd ho e0 I) fun led0 h0 tk0 u p0 I0 r0 => ?_) (method_eq rfl (MX.stars mx _ _) hp)
        refine opq fun P' kP => ?_
        unfold isInst at hi
        split at hi
        · rename_i i
          split at hi
          · rename_i dd q1
            split at hi
            · rename_i fs q2
              obtain ⟨y, o1, rfl, m1, n1, r1⟩ := I0.ref q1 r0
              obtain ⟨dx, z1, rfl⟩ := r1
              obtain ⟨dy, o2, z2, m2, n2, r2⟩ := I0.get q2
              rw [z1] at z2; cases z2
              obtain ⟨PKK, v0, v1, v2, v3, v4, v5, v6, v7, v8, v9, va, hvs, rfl⟩ := r2
              obtain ⟨hf1, hf2, hf3⟩ := H.meth f x e0'
              refine kP ?_
              refine method_inst (s := { s with heap := h0, toks := tk0 }) I0.fr C.kx (InstAt.of_news I0.nw m1 m2) (H.plain _) hf1 hf2 (H.methF f x e0' PKK _ _ _ _ _ _ _ _ _ _ _) ?_
              refine cw_ok (s := { s with heap := h0, toks := tk0 }) (first := [.ref y]) C hf3 mx ha e1 I0 (K.up p0) fun led' h' tk us p I' r => ?_
              exact wpAny_mono (call_ok (s := { s with heap := h', toks := tk }) hc C rfl hk e I' ⟨r0.up p, r⟩) (fun _ _ q => XQ.of (p0.trans p) q) fun _ _ q => q
            · cases hi
          · cases hi
        · cases hi
      · cases e
    · cases e
  · cases e
end
end

section
open PySem PySem.W PyProof.Rows PySem.Calls PySem.SeqAt
structure Out (ρ : List Addr) (σ : Mem) (av : AV) where
  led : List (Addr × Obj)
  v : Value
  pre : ρ <+: adr led
  ob : ORs (adr led) σ led
  nd : (adr (live σ led)).Nodup
  vr : VR (adr led) av v
noncomputable def CtOk (w : World) (call : CallF) (d : Nat) : Prop := ∀ f avs σ av σ', call f avs σ = some (av, σ') → ∀ led vs, ORs (adr led) σ led → (adr (live σ led)).Nodup → VRs (adr led) avs vs →
  Ct w d (.ref f) vs (live σ led) (Out (adr led) σ' av) (fun z => z.v) (fun z => live σ' z.led) (fun z => adr (live σ' z.led)) (fun _ => True)
theorem allAparts_mem {l : List (Addr × Obj)} : ∀ {as : List Addr}, AllAparts as l → ∀ a ∈ as, Aparts a l
  | _ :: _, h, _, .head _ => h.1
  | _ :: _, h, _, .tail _ m => allAparts_mem h.2 _ m
theorem rst_none (as : List Addr) : ∀ l : List (Addr × Obj), Rst as l []
  | [] => .nil
  | _ :: l => .drop (rst_none as l)
section
variable {w : World} {call : CallF} {A : Around} {h₀ : Heap} {L a c : Addr} {m : Str → Option Value} {cn : Str} {cs : Scope} {ccd : Value} {ls : Locs} {σ σ' : Mem} {led : List (Addr × Obj)} {s : Shared} {kd : Kd} {d : Nat}
theorem cell_get {v : AV} (e : cellV σ = some v) (ho : ORs (adr led) σ led) (hc : nth (adr led) 1 = some c) : ∃ o u, (c, o) ∈ live σ led ∧ o.data = .cell (some u) ∧ VR (adr led) v u := by
  unfold cellV at e
  split at e
  · rename_i v' e1
    cases e
    obtain ⟨⟨q1, q2⟩, hq, u, hu, hr⟩ := ho.nth e1
    have : q1 = c := Option.some.inj ((nth_adr hq).symm.trans hc)
    subst this
    exact ⟨q2, u, live_mem rfl e1 hq, hu, hr⟩
  · cases e
theorem inst_get {v : AV} {u : Value} (hi : isInst v σ = true) (ho : ORs (adr led) σ led) (hv : VR (adr led) v u) : ∃ y dx K v0 v1 v2 v3 v4 v5 v6 v7 v8 v9 va, u = .ref y ∧ (y, instObj 192 dx) ∈ live σ led ∧ (dx, pD K v0 v1 v2 v3 v4 v5 v6 v7 v8 v9 va) ∈ live σ led := by
  unfold isInst at hi
  split at hi
  · rename_i i
    split at hi
    · rename_i dd q1
      split at hi
      · rename_i fs q2
        obtain ⟨y, hy, rfl⟩ := hv
        obtain ⟨⟨y', oy⟩, h1, dx, z1, rfl⟩ := ho.nth q1
        have : y' = y := Option.some.inj ((nth_adr h1).symm.trans hy)
        subst this
        obtain ⟨⟨dx', od⟩, h2, K, v0, v1, v2, v3, v4, v5, v6, v7, v8, v9, va, _, rfl⟩ := ho.nth q2
        have : dx' = dx := Option.some.inj ((nth_adr h2).symm.trans z1)
        subst this
        exact ⟨y', dx', K, v0, v1, v2, v3, v4, v5, v6, v7, v8, v9, va, rfl, live_mem rfl q1 h1, live_mem rfl q2 h2⟩
      · cases hi
    · cases hi
  · cases hi
theorem sx_celM (H : Stat w) (hc : CallOk w call d) (C : Cx w A h₀ (envX cn cs L a ccd [(nm wPART, c)]) d) (hk : cs.kind = .function) (hkd : KdOk kd cs) {f : Nat} {as : Xs} {es : List Expr} {p1 p2 p3 : Pos} (ho : kd.k wPART = some .cell)
    (hp : (Nat.beq p2.endLine p3.line && Nat.blt es.length 30) = true) (mx : MXs kd as es) (ha : SXs w call A h₀ L (envX cn cs L a ccd [(nm wPART, c)]) as es) :
    SX w call A h₀ L (envX cn cs L a ccd [(nm wPART, c)]) (.celM f as) (.Call (.Attribute (.Name (nm wPART) p1) (nm f) p2) es [] p3) := by
  intro m ls σ av σ' led s e I K
  simp only [evX] at e
  split at e
  · rename_i x v e0 e0'
    split at e
    · rename_i hi
      split at e
      · rename_i vs σ1 e1
        obtain ⟨oc, u, hm, hd, hr⟩ := cell_get e0' I.ob K.2
        refine MethodCall_ (nameX_C I.nw (by simp) hm hd ?_ hk (hkd.2 _ _ ho) (H.dbg _)) (method_eq rfl (MX.stars mx _ _) hp)
        obtain ⟨y, dx, PKK, v0, v1, v2, v3, v4, v5, v6, v7, v8, v9, va, rfl, m1, m2⟩ := inst_get hi I.ob hr
        obtain ⟨hf1, hf2, hf3⟩ := H.meth f x e0
        refine method_inst I.fr C.kx (InstAt.of_news I.nw m1 m2) (H.plain _) hf1 hf2 (H.methF f x e0 PKK _ _ _ _ _ _ _ _ _ _ _) ?_
        refine cw_ok (first := [.ref y]) C hf3 mx ha e1 I K fun led' h' tk us p I' r => ?_
        exact wpAny_mono (call_ok (s := { s with heap := h', toks := tk }) hc C rfl hk e I' ⟨hr.up p, r⟩) (fun _ _ q => XQ.of p q) fun _ _ q => q
      · cases e
    · cases e
  · cases e
theorem comp_turns (H : Stat w) (ct : CtOk w call (d + 10)) (C : Cx w A h₀ (envX cn cs L a ccd [(nm wPART, c)]) d) (hk : cs.kind = .function) {scope : Scope} {sx : Str} (ok : CompOk cs scope sx) (hdx : (sx == ("__debug__" : Str)) = false)
    {f g : Nat} (hg : lookN f meths = some g) {p1 p2 p3 p4 : Pos} (hp : Nat.beq p2.endLine p3.line = true) {ax : Addr} {its : Array Value} {k : Nat} {Fin : List Value → List (Addr × Obj) → Prop} :
    ∀ (us : List Value) (avs : List AV) (i : Nat) (ys : List Value) (rs₀ rs : List AV) (σ σ' : Mem) (led : List (Addr × Obj)), compRun call g avs σ = some (rs, σ') → VRs (adr led) avs us → (∀ j, its[i + j]? = us[j]?) → ORs (adr led) σ led → (adr (live σ led)).Nodup →
      VRs (adr led) rs₀ ys → nth (adr led) 1 = some c → ax ∉ adr (live σ led) →
      (∀ led' ys', adr led <+: adr led' → ORs (adr led') σ' led' → (adr (live σ' led')).Nodup → VRs (adr led') (rs₀ ++ rs) ys' → ax ∉ adr (live σ' led') → Fin ys' ((ax, ({ cls := .type "tuple", data := .seq its k } : Obj)) :: live σ' led')) →
      LCg.CompRest PG w A h₀ L m (envX cn cs L a ccd [(nm wPART, c)]) (.Call (.Attribute (.Name (nm wPART) p1) (nm f) p2) [.Name sx p4] [] p3) sx scope [(nm wPART, c)] s (SrcT h₀ ax its) (fun i v => its[i]? = some v) Fin us.length i ys ((ax, ({ cls := .type "tuple", data := .seq its k } : Obj)) :: live σ led) := by
  intro us
  induction us with
  | nil =>
    intro avs i ys rs₀ rs σ σ' led e hv hits ho hn hr hc hax fin
    cases avs with
    | cons _ _ => cases hv
    | nil =>
      cases e
      exact LCg.CompRest.zero (fin led ys List.prefix_rfl ho hn (by simpa using hr) hax)
  | cons u us ih =>
    intro avs i ys rs₀ rs σ σ' led e hv hits ho hn hr hc hax fin
    cases avs with
    | nil => cases hv
    | cons av avs =>
      refine opq fun P' kP => ?_
      unfold compRun at e
      split at e
      · rename_i v ev
        split at e
        · rename_i hi
          split at e
          · rename_i r σ1 er
            split at e
            · rename_i rs' σ2 ers
              cases e
              refine kP (LCg.CompRest.succ fun v' I oI Cc oC D m₂ h tk E' hP hC hx F N off ne => ?_)
              have hu : v' = u := by
                have z := hits 0
                rw [Nat.add_zero, hP] at z
                exact Option.some.inj z
              subst hu
              refine opq fun P' kP => ?_
              obtain ⟨oc, cu, hm, hd, hrv⟩ := cell_get ev ho hc
              obtain ⟨y, dx, PKK, v0, v1, v2, v3, v4, v5, v6, v7, v8, v9, va, rfl, m1, m2⟩ := inst_get hi ho hrv
              obtain ⟨hf1, hf2, hf3⟩ := H.meth f g hg
              have up : ∀ q ∈ live σ led, q ∈ (I, oI) :: (Cc, oC) :: (D, LCg.lst ys) :: (ax, ({ cls := .type "tuple", data := .seq its k } : Obj)) :: live σ led := fun q hq => .tail _ (.tail _ (.tail _ (.tail _ hq)))
              obtain ⟨p, loose, mean, mg, mb, TT⟩ := C.top
              obtain ⟨A₀, base, outer, B, hA⟩ := C.below
              have off3 := off.mem
              refine kP (wpAny_mono (E := Nope) (Q := LCg.CompEnd h₀ L m _ I oI Cc oC D (LCg.lst ys) _ _) ?_ (fun _ _ z => z) fun _ _ z => z.elim)
              refine MethodCall_ (kcf_cell (s := { s with heap := h, toks := tk }) N (by simp) (up _ hm) hd ?_ ok.kind (ok.part _ _ _ _ _ _) (H.dbg _)) (method_eq rfl rfl (by rw [hp]; rfl))
              refine method_inst (s := { s with heap := h, toks := tk }) F C.kx (InstAt.of_news N (up _ m1) (up _ m2)) (H.plain _) hf1 hf2 (H.methF f g hg PKK _ _ _ _ _ _ _ _ _ _ _) ?_
              refine callWith_K (s := { s with heap := h, toks := tk }) C.kx hf3 (args_cons (LCgL.ld_own (s := { s with heap := h, toks := tk }) N (.tail _ (.head _)) hC hx (args_nil ⟨C.kx.keeps F.keep, ?_⟩) ok.kind (ok.loc _ _ _ _ _ _) hdx))
              refine wpAny_call ?_
              have dep := C.dep
              have unt := C.unt
              have hnn : ∀ q : Addr × Obj, (∀ p ∈ live σ led, p.1 ≠ q.1) → ∀ b ∈ (live σ led).map (·.1), q.1 ≠ b := fun q hq b hb => by
                obtain ⟨z, hz, rfl⟩ := List.mem_map.mp hb
                exact (hq z hz).symm
              refine ct_use (ct g [v, av] σ r σ1 er led [.ref y, v'] ho hn ⟨hrv, hv.1, trivial⟩) (s := { s with heap := h, toks := tk }) B F C.kx N TT hA rfl hk up
                (rest := [(I, oI), (Cc, oC), (D, LCg.lst ys), (ax, ({ cls := .type "tuple", data := .seq its k } : Obj))])
                (.keep (hnn (I, oI) fun q hq => (off3 q (.tail _ hq)).1) (.keep (hnn (Cc, oC) fun q hq => (off3 q (.tail _ hq)).2.1) (.keep (hnn (D, LCg.lst ys) fun q hq => (off3 q (.tail _ hq)).2.2)
                  (.keep (hnn (ax, _) fun q hq z => hax (by have y := List.mem_map_of_mem (f := Prod.fst) hq; rw [z] at y; exact y)) (rst_none _ _))))) (by omega) (by omega) C.hd fun t h' tk' F' N' X _ => ?_
              have far : ∀ q ∈ live σ1 t.led, q.1 ≠ I ∧ q.1 ≠ Cc ∧ q.1 ≠ D ∧ q.1 ≠ ax := fun q hq => by
                obtain ⟨x1, x2, x3, x4, _⟩ := allAparts_mem X q.1 (List.mem_map_of_mem (f := Prod.fst) hq)
                exact ⟨x1.ne', x2.ne', x3.ne', x4.ne'⟩
              refine LCg.CompEnd.intro F' N' ((ax, ({ cls := .type "tuple", data := .seq its k } : Obj)) :: live σ1 t.led) (fun q hq => ?_) (LCg.Off3.of fun q hq => ?_) (.inr ⟨_, .head _, rfl, k, rfl⟩) ?_
              · rcases List.mem_cons.mp hq with rfl | hq
                · exact List.mem_append_right _ (.head _)
                · rcases List.mem_cons.mp hq with rfl | hq
                  · exact List.mem_append_right _ (.tail _ (.head _))
                  · rcases List.mem_cons.mp hq with rfl | hq
                    · exact List.mem_append_right _ (.tail _ (.tail _ (.head _)))
                    · rcases List.mem_cons.mp hq with rfl | hq
                      · exact List.mem_append_right _ (.tail _ (.tail _ (.tail _ (.head _))))
                      · exact List.mem_append_left _ hq
              · rcases List.mem_cons.mp hq with rfl | hq
                · exact off3 _ (.head _)
                · exact ⟨(far q hq).1, (far q hq).2.1, (far q hq).2.2.1⟩
              · refine ih avs (i + 1) (ys ++ [t.v]) (rs₀ ++ [r]) rs' σ1 σ' t.led ers (hv.2.up t.pre) (fun j => ?_) t.ob t.nd (VRs.app (a' := [r]) (v' := [t.v]) ⟨t.vr, trivial⟩ (hr.up t.pre)) (nth_prefix t.pre hc) (fun z => ?_) fun led' ys' q1 q2 q3 q4 q5 => fin led' ys' (t.pre.trans q1) q2 q3 (by simpa using q4) q5
                · have z := hits (j + 1)
                  rw [show i + 1 + j = i + (j + 1) by omega]
                  exact z
                · obtain ⟨q, hq, e⟩ := List.mem_map.mp z
                  exact (far q hq).2.2.2 e
            · cases e
          · cases e
        · cases e
      · cases e
theorem sx_comp (H : Stat w) (ct : CtOk w call (d + 10)) (C : Cx w A h₀ (envX cn cs L a ccd [(nm wPART, c)]) d) (hk : cs.kind = .function) {scope : Scope} {f x : Nat} (ok : CompOk cs scope (nm x)) {as : Xs} {es : List Expr} {k : Nat} {p1 p2 p3 p4 p5 p6 pos : Pos} (hp : Nat.beq p2.endLine p3.line = true)
    (ha : SXs w call A h₀ L (envX cn cs L a ccd [(nm wPART, c)]) as es) :
    SX w call A h₀ L (envX cn cs L a ccd [(nm wPART, c)]) (.comp f x as) (.ListComp (.Call (.Attribute (.Name (nm wPART) p1) (nm f) p2) [.Name (nm x) p4] [] p3) [⟨.Name (nm x) p5, .Tuple es k p6, [], 0⟩] scope pos) := by
  intro m ls σ av σ' led s e I K
  simp only [evX] at e
  split at e
  · rename_i vs σ1 e1
    split at e
    · rename_i g hz hg
      split at e
      · rename_i rs σ2 e2
        cases e
        refine ListComp_T (prog := PG) I.fr (ok.clos _ _ _ _ _) ok.cell ok.kind ok.names ok.own ?_
        refine Tuple_ (XsQ.chain (ha _ _ _ _ _ _ _ _ e1 I K) fun led1 h1 tk1 us p1 I1 r1 => ?_)
        have hlen : us.length ≤ sizeLine := sz1000 (by have := le1000 hz; rw [lenN_eq, r1.len] at this; exact this)
        refine kup_newTuple (s := { s with heap := h1, toks := tk1 }) I1.fr I1.nw (fun ax h2 F2 N2 lt => ?_) hlen
        refine CompSrcT.ledger C.hd F2 N2 (.head _) (by simpa using hlen) fun g' => ?_
        refine comp_turns H ct C hk ok (H.dbg x) hg hp us vs 0 [] [] rs σ1 σ2 led1 e2 r1 (fun j => by simp) I1.ob I1.nd trivial (nth_prefix p1 K.2) (fun z => ?_) fun led' ys' q1 q2 q3 q4 q5 => ?_
        · obtain ⟨q, hq, e⟩ := List.mem_map.mp z
          have := lt q hq
          rw [e] at this
          exact Nat.lt_irrefl _ this
        · intro D h3 tk3 F3 N3 o1
          have I3 : Inv h₀ L m ls σ2 led' h3 := ⟨F3, fun q hq => N3 q (.tail _ (.tail _ hq)), q3, q2, fun i v hv => by
            obtain ⟨u, hu, hr⟩ := I1.lc i v hv
            exact ⟨u, hu, hr.up q1⟩⟩
          have off : D ∉ adr (live σ2 led') := by
            have : ∀ l : List (Addr × Obj), LCg.Off1 D l → D ∉ adr l := by
              intro l
              induction l with
              | nil => intro _ h; cases h
              | cons q l ih =>
                rintro ⟨z1, z2⟩ h
                rcases List.mem_cons.mp h with e | h
                · exact z1 e.symm
                · exact ih z2 h
            exact this _ o1.2
          have I4 := I3.push' (D := D) (o := LCg.lst ys') (ao := .list rs) F3 (fun q hq => by
            rcases List.mem_cons.mp hq with rfl | hq
            · exact N3 _ (.head _)
            · exact N3 _ (.tail _ (.tail _ hq))) off ⟨ys', ys'.length, (by simpa using q4 : VRs (adr led') rs ys').up (pre_snoc _ _), rfl⟩
          exact ⟨_, h3, tk3, rfl, (p1.trans q1).trans (pre_snoc _ _), I4, I3.last D _⟩
      · cases e
    · cases e
  · cases e
end
end

section
open PySem PySem.W PyProof.Rows PySem.Calls PySem.SeqAt

section
variable {w : World} {call : CallF} {A : Around} {h₀ : Heap} {L a : Addr} {cn : Str} {cs : Scope} {ccd : Value} {kd : Kd} {d : Nat} {cl : List (Str × Addr)}
structure SL (w : World) (call : CallF) (A : Around) (h₀ : Heap) (L : Addr) (env : Env) (ys : Xs) (es : List Expr) : Prop where
  xs : SXs w call A h₀ L env ys es
  an : SAnd w call A h₀ L env ys es
  or : SOr w call A h₀ L env ys es
structure TL (w : World) (call : CallF) (A : Around) (h₀ : Heap) (L : Addr) (env : Env) (ts : Ts) (es : List Expr) : Prop where
  an : STAnd w call A h₀ L env ts es
  or : STOr w call A h₀ L env ts es
theorem SL.mk_nil {env : Env} : SL w call A h₀ L env .nil [] :=
  ⟨sxs_nil, fun _ _ _ _ _ _ _ _ e _ _ => by simp [evAnd] at e, fun _ _ _ _ _ _ _ _ e _ _ => by simp [evOr] at e⟩
theorem SL.mk_cons {env : Env} {x : X} {xs : Xs} {e : Expr} {es : List Expr} (mx : MX kd x e) (ms : MXs kd xs es) (hx : SX w call A h₀ L env x e) (hs : SL w call A h₀ L env xs es) : SL w call A h₀ L env (.cons x xs) (e :: es) := by
  refine ⟨sxs_cons mx hx hs.xs, ?_, ?_⟩
  · cases ms with
    | nil => exact sand_one hx
    | cons _ _ => exact sand_cons hx hs.an
  · cases ms with
    | nil => exact sor_one hx
    | cons _ _ => exact sor_cons hx hs.or
variable (H : Stat w) (hc : CallOk w call d) (C : Cx w A h₀ (envX cn cs L a ccd cl) d) (hct : CtOk w call (d + 10)) (hcl : kd.k wPART = some .cell → ∃ c, cl = [(nm wPART, c)]) (hd : 10 ≤ d) (hk : cs.kind = .function) (hkd : KdOk kd cs)
include H hc C hct hcl hd hk hkd
theorem x_all :
    (∀ {x e}, MX kd x e → SX w call A h₀ L (envX cn cs L a ccd cl) x e) ∧ (∀ {t e}, MT kd t e → ST w call A h₀ L (envX cn cs L a ccd cl) t e) := by
  have lc : ∀ {i : Nat} {s : Str} {pos : Pos}, nm i = s → kd.k i = some .local → SX w call A h₀ L (envX cn cs L a ccd cl) (.loc i) (.Name s pos) := fun e1 hi m ls σ av σ' led s e I K => by
    subst e1
    simp only [evX] at e
    split at e
    · rename_i v e0
      cases e
      exact sx_loc H hk hkd hi e0 I
    · cases e
  have key1 : ∀ {x e}, MX kd x e → SX w call A h₀ L (envX cn cs L a ccd cl) x e := by
    intro x e h
    refine MX.rec (motive_1 := fun x e _ => SX w call A h₀ L (envX cn cs L a ccd cl) x e) (motive_2 := fun xs es _ => SL w call A h₀ L (envX cn cs L a ccd cl) xs es)
      (motive_3 := fun t e _ => ST w call A h₀ L (envX cn cs L a ccd cl) t e) (motive_4 := fun ts es _ => TL w call A h₀ L (envX cn cs L a ccd cl) ts es)
      ?none ?bool ?int ?str ?bytes ?loc ?glb ?attr ?callF ?callM ?cmp ?and ?or ?not ?add ?sub ?ite ?tup ?lst ?idx ?cut ?cutN ?celM ?comp ?attrX ?nil ?cons ?tand ?tor ?tnot ?tcmp ?tloc ?tattr ?tcallF ?tcallM ?tcelM ?tnil ?tcons h
    case none => intro k pos m ls σ av σ' led s e I K; simp only [evX] at e; cases e; exact wpAny_Constant_none (XQ.here I rfl)
    case bool => intro b k pos m ls σ av σ' led s e I K; simp only [evX] at e; cases e; exact Constant_bool (XQ.here I rfl)
    case int => intro n k pos i hi m ls σ av σ' led s e I K; simp only [evX] at e; cases e; subst hi; exact wpAny_Constant_int (XQ.tick I ⟨_, rfl⟩)
    case str => intro i t k pos hi m ls σ av σ' led s e I K; simp only [evX] at e; cases e; subst hi; exact Constant_str (XQ.tick I ⟨_, rfl⟩)
    case bytes => intro l x k pos hi m ls σ av σ' led s e I K; simp only [evX] at e; cases e; subst hi; exact Constant_bytes (XQ.tick I ⟨_, rfl⟩)
    case loc => intro i s pos e1 hi; exact lc e1 hi
    case glb =>
      intro i s pos e1 hi m ls σ av σ' led s e I K
      subst e1
      simp only [evX] at e
      split at e
      · rename_i v e0
        cases e
        exact sx_glb H C hk hkd hi e0 I
      · cases e
    case attr =>
      intro o f so sf p1 p2 e1 e2 hi m ls σ av σ' led s e I K
      subst e1 e2
      simp only [evX] at e
      split at e
      · rename_i v e0
        split at e
        · rename_i r e3
          cases e
          exact sx_attr H C hk hkd hi e0 e3 I
        · cases e
      · cases e
    case callF => intro g sg as es p1 p2 e1 hg mx ih; subst e1; exact sx_callF H hc C hd hk hkd hg mx ih.xs
    case callM => intro o f so sf as es p1 p2 p3 e1 e2 ho mx hp ih; subst e1 e2; exact sx_callM H hc C hk hkd ho hp mx ih.xs
    case cmp => intro op l r el er pos _ mr ih1 ih2; exact sx_cmp H C mr ih1 ih2
    case and => intro xs es pos _ ih m ls σ av σ' led s e I K; simp only [evX] at e; exact ih.an m ls σ av σ' led s pos e I K
    case or => intro xs es pos _ ih m ls σ av σ' led s e I K; simp only [evX] at e; exact ih.or m ls σ av σ' led s pos e I K
    case not => intro x e pos _ ih; exact sx_not ih
    case add => intro l r el er pos _ _ ih1 ih2; exact sx_add ih1 ih2
    case sub => intro l r el er pos _ _ ih1 ih2; exact sx_sub ih1 ih2
    case ite => intro t a b et ea eb pos _ _ _ ih1 ih2 ih3; exact sx_ite ih1 ih2 ih3
    case tup => intro xs es k pos _ ih; exact sx_tup ih.xs
    case lst => intro xs es pos _ ih; exact sx_lst ih.xs
    case idx => intro x i ex ei pos _ mi ih1 ih2; exact sx_idx mi ih1 ih2
    case cut => intro x lo hi ex el eh pos p _ _ _ ih1 ih2 ih3; exact sx_cut ih1 ih2 ih3
    case cutN => intro x lo ex el pos p _ _ ih1 ih2; exact sx_cutN ih1 ih2
    case celM => intro f sf as es p1 p2 p3 e1 ho mx hp ih; subst e1; obtain ⟨c, rfl⟩ := hcl ho; exact sx_celM H hc C hk hkd ho hp mx ih.xs
    case comp => intro f x sf sx as es p1 p2 p3 p4 p5 p6 k scope pos e1 e2 ho ok mx hp ih; subst e1 e2; obtain ⟨c, rfl⟩ := hcl ho; exact sx_comp H hct C hk (hkd.1 ▸ ok) hp ih.xs
    case attrX => intro x f sf e p e1 mx hc ih; subst e1; exact sx_attrX H C mx hc ih
    case nil => exact SL.mk_nil
    case cons => intro x xs e es mx ms ih1 ih2; exact SL.mk_cons mx ms ih1 ih2
    case tand => intro ts es pos _ ih m ls σ b σ' led s e I K; simp only [evT] at e; exact ih.an m ls σ b σ' led s pos _ e I K
    case tor => intro ts es pos _ ih m ls σ b σ' led s e I K; simp only [evT] at e; exact ih.or m ls σ b σ' led s pos _ e I K
    case tnot => intro t e pos _ ih; exact st_not ih
    case tcmp => intro op l r el er pos _ mr ih1 ih2; exact st_cmp H C mr ih1 ih2
    case tloc => intro i e mx ih; exact st_val (by cases mx; intro _; rfl) ih
    case tattr => intro o f e mx ih; exact st_val (by cases mx; intro _; rfl) ih
    case tcallF => intro g as e mx ih; exact st_val (by cases mx; intro _; rfl) ih
    case tcallM => intro o f as e mx ih; exact st_val (by cases mx; intro _; rfl) ih
    case tcelM => intro f as e mx ih; exact st_val (by cases mx; intro _; rfl) ih
    case tnil => exact ⟨stand_nil, stor_nil⟩
    case tcons => intro t ts e es _ _ ih1 ih2; exact ⟨stand_cons ih1 ih2.an, stor_cons ih1 ih2.or⟩
  refine ⟨key1, ?_⟩
  intro t e h
  refine MT.rec (motive_1 := fun x e _ => SX w call A h₀ L (envX cn cs L a ccd cl) x e) (motive_2 := fun xs es _ => True)
      (motive_3 := fun t e _ => ST w call A h₀ L (envX cn cs L a ccd cl) t e) (motive_4 := fun ts es _ => TL w call A h₀ L (envX cn cs L a ccd cl) ts es)
      ?none2 ?bool2 ?int2 ?str2 ?bytes2 ?loc2 ?glb2 ?attr2 ?callF2 ?callM2 ?cmp2 ?and2 ?or2 ?not2 ?add2 ?sub2 ?ite2 ?tup2 ?lst2 ?idx2 ?cut2 ?cutN2 ?celM2 ?comp2 ?attrX2 ?nil2 ?cons2 ?tand2 ?tor2 ?tnot2 ?tcmp2 ?tloc2 ?tattr2 ?tcallF2 ?tcallM2 ?tcelM2 ?tnil2 ?tcons2 h
  case tand2 => intro ts es pos _ ih m ls σ b σ' led s e I K; simp only [evT] at e; exact ih.an m ls σ b σ' led s pos _ e I K
  case tor2 => intro ts es pos _ ih m ls σ b σ' led s e I K; simp only [evT] at e; exact ih.or m ls σ b σ' led s pos _ e I K
  case tnot2 => intro t e pos _ ih; exact st_not ih
  case tcmp2 => intro op l r el er pos ml mr _ _; exact st_cmp H C mr (key1 ml) (key1 mr)
  case tloc2 => intro i e mx _; exact st_val (by cases mx; intro _; rfl) (key1 mx)
  case tattr2 => intro o f e mx _; exact st_val (by cases mx; intro _; rfl) (key1 mx)
  case tcallF2 => intro g as e mx _; exact st_val (by cases mx; intro _; rfl) (key1 mx)
  case tcallM2 => intro o f as e mx _; exact st_val (by cases mx; intro _; rfl) (key1 mx)
  case tcelM2 => intro f as e mx _; exact st_val (by cases mx; intro _; rfl) (key1 mx)
  case tnil2 => exact ⟨stand_nil, stor_nil⟩
  case tcons2 => intro t ts e es _ _ ih1 ih2; exact ⟨stand_cons ih1 ih2.an, stor_cons ih1 ih2.or⟩
  case nil2 => trivial
  case cons2 => intros; trivial
  case none2 => intro k pos; exact key1 .none
  case bool2 => intro b k pos; exact key1 .bool
  case int2 => intro n k pos i hi; exact key1 (.int hi)
  case str2 => intro i t k pos hi; exact key1 (.str hi)
  case bytes2 => intro l x k pos hi; exact key1 (.bytes hi)
  case loc2 => intro i s pos e1 hi; exact lc e1 hi
  case glb2 => intro i s pos e1 hi; exact key1 (.glb e1 hi)
  case attr2 => intro o f so sf p1 p2 e1 e2 hi; exact key1 (.attr e1 e2 hi)
  case callF2 => intro g sg as es p1 p2 e1 hg mx _; exact key1 (.callF e1 hg mx)
  case callM2 => intro o f so sf as es p1 p2 p3 e1 e2 ho mx hp _; exact key1 (.callM e1 e2 ho mx hp)
  case cmp2 => intro op l r el er pos ml mr _ _; exact key1 (.cmp ml mr)
  case and2 => intro xs es pos h _; exact key1 (.and h)
  case or2 => intro xs es pos h _; exact key1 (.or h)
  case not2 => intro x e pos h _; exact key1 (.not h)
  case add2 => intro l r el er pos h1 h2 _ _; exact key1 (.add h1 h2)
  case sub2 => intro l r el er pos h1 h2 _ _; exact key1 (.sub h1 h2)
  case ite2 => intro t a b et ea eb pos h1 h2 h3 _ _ _; exact key1 (.ite h1 h2 h3)
  case tup2 => intro xs es k pos h _; exact key1 (.tup h)
  case lst2 => intro xs es pos h _; exact key1 (.lst h)
  case idx2 => intro x i ex ei pos h1 h2 _ _; exact key1 (.idx h1 h2)
  case cut2 => intro x lo hi ex el eh pos p h1 h2 h3 _ _ _; exact key1 (.cut h1 h2 h3)
  case cutN2 => intro x lo ex el pos p h1 h2 _ _; exact key1 (.cutN h1 h2)
  case attrX2 => intro x f sf e p e1 mx hc _; exact key1 (.attrX e1 mx hc)
  case celM2 => intro f sf as es p1 p2 p3 e1 ho mx hp _; exact key1 (.celM e1 ho mx hp)
  case comp2 => intro f x sf sx as es p1 p2 p3 p4 p5 p6 k scope pos e1 e2 ho ok mx hp _; exact key1 (.comp e1 e2 ho ok mx hp)
end
end

section
open PySem PySem.W PyProof.Rows PySem.Calls PySem.SeqAt

inductive MN (kd : Kd) : List Nat → List Expr → Prop
  | nil : MN kd [] []
  | cons {i is n p ts} : nm i = n → kd.k i = some .local → MN kd is ts → MN kd (i :: is) (.Name n p :: ts)
mutual
inductive MS (cs : Scope) (kd : Kd) : S → Stmt → Prop
  | opq {s} : MS cs kd .opq s
  | asg {i n x e p1 pos} : nm i = n → kd.k i = some .local → MX kd x e → notComp x = true → MS cs kd (.asg i x) (.Assign [.Name n p1] e pos)
  | asgL {is ts k p i e pos} : MN kd is ts → MX kd (.loc i) e → MS cs kd (.asgT is (.loc i)) (.Assign [.Tuple ts k p] e pos)
  | asgI {is ts k p x i e pos} : MN kd is ts → MX kd (.idx x i) e → MS cs kd (.asgT is (.idx x i)) (.Assign [.Tuple ts k p] e pos)
  | asgW {i j n1 n2 x ts k p e pos} : nm i = n1 → nm j = n2 → kd.k i = some .local → kd.k j = some .local → MX kd x e → notComp x = true → (∀ cn L a ccd cl, swappedStores [.Tuple ts k p] e (envX cn cs L a ccd cl) = pure (some [n1, n2])) → MS cs kd (.asgW [i, j] x) (.Assign [.Tuple ts k p] e pos)
  | asg3 {i j l n1 n2 n3 x ts k p e pos} : nm i = n1 → nm j = n2 → nm l = n3 → kd.k i = some .local → kd.k j = some .local → kd.k l = some .local → MX kd x e → notComp x = true → (∀ cn L a ccd cl, swappedStores [.Tuple ts k p] e (envX cn cs L a ccd cl) = pure (some [n1, n2, n3])) → MS cs kd (.asg3 i j l x) (.Assign [.Tuple ts k p] e pos)
  | put {o f so sf x e p1 p2 pos} : nm o = so → nm f = sf → kd.k o = some .local → MX kd x e → notComp x = true → MS cs kd (.put o f x) (.Assign [.Attribute (.Name so p1) sf p2] e pos)
  | expr {x e pos} : MX kd x e → notComp x = true → MS cs kd (.expr x) (.Expr e pos)
  | iff {t a b et ea eb pos} : MT kd t et → MSs cs kd a ea → MSs cs kd b eb → MS cs kd (.iff t a b) (.If et ea eb pos)
  | ret {x e pos} : MX kd x e → MS cs kd (.ret x) (.Return (some e) pos)
  | asgC {x e p1 pos} : kd.k wPART = some .cell → MX kd x e → notComp x = true → MS cs kd (.asgC x) (.Assign [.Name (nm wPART) p1] e pos)
  | retN {pos} : MS cs kd .retN (.Return none pos)
  | for2 {is ts k p x e b eb pos} : MN kd is ts → MX kd x e → MSs cs kd b eb → MS cs kd (.for2 is x b) (.For (.Tuple ts k p) e eb [] pos)
inductive MSs (cs : Scope) (kd : Kd) : Ss → List Stmt → Prop
  | nil : MSs cs kd .nil []
  | cons {s ss t ts} : MS cs kd s t → MSs cs kd ss ts → MSs cs kd (.cons s ss) (t :: ts)
end
noncomputable def FQ (h₀ : Heap) (L : Addr) (fl : Fl) (ls : Locs) (σ : Mem) (ρ : List Addr) (s : Shared) (f : Flow) (s' : Shared) : Prop :=
  ∃ m led h' tk, s' = { s with heap := h', toks := tk } ∧ ρ <+: adr led ∧ Inv h₀ L m ls σ led h' ∧ (match fl with | .next => f = .next | .ret av => ∃ v, f = .ret v ∧ VR (adr led) av v)
noncomputable def UQ (h₀ : Heap) (L : Addr) (ls : Locs) (σ : Mem) (led : List (Addr × Obj)) (s : Shared) (_ : Unit) (s' : Shared) : Prop :=
  ∃ m h' tk, s' = { s with heap := h', toks := tk } ∧ Inv h₀ L m ls σ led h'
section
variable {w : World} {call : CallF} {A : Around} {h₀ h h' : Heap} {L a : Addr} {m : Str → Option Value} {cn : Str} {cs : Scope} {ccd : Value} {ls ls' : Locs} {σ σ' : Mem} {led : List (Addr × Obj)} {s : Shared} {kd : Kd} {d : Nat} {cl : List (Str × Addr)} {env : Env}
theorem FQ.of {fl : Fl} {ρ ρ' : List Addr} {f : Flow} {h' : Heap} {tk : Nat} {s' : Shared} (p : ρ <+: ρ') (h : FQ h₀ L fl ls σ ρ' { s with heap := h', toks := tk } f s') : FQ h₀ L fl ls σ ρ s f s' := by
  obtain ⟨m, led, h2, tk2, e, p2, I, r⟩ := h
  exact ⟨m, led, h2, tk2, e, p.trans p2, I, r⟩
theorem FQ.next {ρ : List Addr} {h' : Heap} {tk : Nat} (p : ρ <+: adr led) (I : Inv h₀ L m ls σ led h') : FQ h₀ L .next ls σ ρ s .next { s with heap := h', toks := tk } := ⟨m, led, h', tk, rfl, p, I, rfl⟩
theorem Inv.store (H : Stat w) (I : Inv h₀ L m ls σ led h) {i : Nat} {av : AV} {v : Value} (F : Fr h₀ L h' (fun y => if y = nm i then some v else m y)) (N : News h₀ L h' (live σ led)) (hv : VR (adr led) av v) :
    Inv h₀ L (fun y => if y = nm i then some v else m y) ((i, av) :: ls) σ led h' := by
  refine ⟨F, N, I.nd, I.ob, fun j u e => ?_⟩
  unfold lookN at e
  split at e
  · rename_i q
    cases e
    cases Nat.eq_of_beq_eq_true q
    exact ⟨v, if_pos rfl, hv⟩
  · rename_i q
    obtain ⟨x, hx, hr⟩ := I.lc j u e
    refine ⟨x, ?_, hr⟩
    show (if nm j = nm i then some v else m (nm j)) = some x
    rw [if_neg fun z => Nat.ne_of_beq_eq_false q (H.inj _ _ z).symm]
    exact hx
theorem store_ok (H : Stat w) (hk : cs.kind = .function) (hkd : KdOk kd cs) {i : Nat} {av : AV} {v : Value} (hi : kd.k i = some .local) (I : Inv h₀ L m ls σ led s.heap) (hv : VR (adr led) av v) :
    wpAny (model PG w) A (storeName (envX cn cs L a ccd cl) (nm i) v) (UQ h₀ L ((i, av) :: ls) σ led s) Nope s :=
  storeX_L I.fr I.nw (fun h' F N => ⟨_, h', s.toks + 1, rfl, I.store H F N hv⟩) hk (hkd.2 i _ hi)
theorem UQ.chain {t : Sem Unit} {P : Unit → Shared → Prop} (h : wpAny (model PG w) A t (UQ h₀ L ls σ led s) Nope s)
    (k : ∀ m h' tk, Inv h₀ L m ls σ led h' → P () { s with heap := h', toks := tk }) : wpAny (model PG w) A t P Nope s :=
  wpAny_mono h (fun _ _ ⟨m, h', tk, e, I⟩ => e ▸ k m h' tk I) fun _ _ e => e
theorem MN.len {is : List Nat} {ts : List Expr} (h : MN kd is ts) (env : Env) : (assignEach ts env).length = is.length := by
  induction h with
  | nil => rfl
  | cons _ _ _ ih => exact congrArg (· + 1) ih
theorem MN.plain {is : List Nat} {ts : List Expr} (h : MN kd is ts) (env : Env) : (assignEach ts env).findIdx? (·.1) = none := by
  rw [List.findIdx?_eq_none_iff]
  induction h with
  | nil => intro x hx; cases hx
  | cons _ _ _ ih =>
    intro x hx
    rcases List.mem_cons.mp hx with rfl | hx
    · rfl
    · exact ih x hx
theorem bindAll_len : ∀ {is : List Nat} {vs : List AV} {ls ls' : Locs}, bindAll is vs ls = some ls' → is.length = vs.length
  | [], [], _, _, _ => rfl
  | _ :: _, _ :: _, _, _, e => congrArg (· + 1) (bindAll_len (by simpa [bindAll] using e))
  | [], _ :: _, _, _, e => by simp [bindAll] at e
  | _ :: _, [], _, _, e => by simp [bindAll] at e
theorem binds_ok (H : Stat w) (hk : cs.kind = .function) (hkd : KdOk kd cs) {is : List Nat} {ts : List Expr} (h : MN kd is ts) : ∀ {vs : List AV} {us : List Value} {m ls s}, bindAll is vs ls = some ls' → Inv h₀ L m ls σ led s.heap → VRs (adr led) vs us →
    wpAny (model PG w) A (assignInOrder ((assignEach ts (envX cn cs L a ccd cl)).map (·.2)) us) (UQ h₀ L ls' σ led s) Nope s := by
  induction h with
  | nil =>
    intro vs us m ls s e I hv
    cases vs with
    | nil => cases e; exact assignInOrder_nil ⟨m, s.heap, s.toks, rfl, I⟩
    | cons _ _ => cases e
  | @cons i is n p ts e1 hi _ ih =>
    subst e1
    intro vs us m ls s e I hv
    cases vs with
    | nil => cases e
    | cons v vs =>
      cases us with
      | nil => cases hv
      | cons u us =>
        refine assignInOrder_cons (assign_Name (UQ.chain (store_ok H hk hkd hi I hv.1) fun m' h' tk I' => ?_))
        exact wpAny_mono (ih (s := { s with heap := h', toks := tk }) e I' hv.2) (fun _ _ q => by
          obtain ⟨m2, h2, tk2, e2, I2⟩ := q
          exact ⟨m2, h2, tk2, e2, I2⟩) fun _ _ q => q
theorem assignT_ok (H : Stat w) (hh : A.handled = none) (hk : cs.kind = .function) (hkd : KdOk kd cs) {is : List Nat} {ts : List Expr} {k : Nat} {p : Pos} (h : MN kd is ts) {t : Nat} {vs : List AV} {v : Value} (e1 : nth σ t = some (.tup vs)) (e : bindAll is vs ls = some ls')
    (I : Inv h₀ L m ls σ led s.heap) (hv : VR (adr led) (.obj t) v) : wpAny (model PG w) A (assign (.Tuple ts k p) (envX cn cs L a ccd cl) v) (UQ h₀ L ls' σ led s) Nope s := by
  obtain ⟨x, us, rfl, ht, hr⟩ := tup_at I e1 hv
  refine unpackN_ I.fr I.nw ht hh (by rw [h.len, bindAll_len e, hr.len, List.size_toArray]) (h.plain _) fun h' F N => ?_
  exact wpAny_mono (binds_ok (s := { s with heap := h' }) H hk hkd h e (I.keep F N) hr) (fun _ _ q => by
          obtain ⟨m2, h2, tk2, e2, I2⟩ := q
          exact ⟨m2, h2, tk2, e2, I2⟩) fun _ _ q => q
end
end

section
open PySem PySem.W PyProof.Rows PySem.Calls PySem.SeqAt

theorem MX.sole {kd : Kd} {x : X} {e : Expr} (h : MX kd x e) (hc : notComp x = true) (t : Expr) (l : Nat) (env : Env) : swapsWithSole [t] e l env = pure false := h.swaps hc (some t) l env
noncomputable def SS (w : World) (call : CallF) (A : Around) (h₀ : Heap) (L : Addr) (env : Env) (x : S) (e : Stmt) : Prop := ∀ m ls σ fl ls' σ' led s, exS call x ls σ = some (fl, ls', σ') → Inv h₀ L m ls σ led s.heap → CellAt env.cells (adr led) →
  wpAny (model PG w) A (exec e env) (FQ h₀ L fl ls' σ' (adr led) s) Nope s
noncomputable def SSs (w : World) (call : CallF) (A : Around) (h₀ : Heap) (L : Addr) (env : Env) (x : Ss) (e : List Stmt) : Prop := ∀ m ls σ fl ls' σ' led s, exSs call x ls σ = some (fl, ls', σ') → Inv h₀ L m ls σ led s.heap → CellAt env.cells (adr led) →
  wpAny (model PG w) A (execs e env) (FQ h₀ L fl ls' σ' (adr led) s) Nope s
section
variable {w : World} {call : CallF} {A : Around} {h₀ h h' : Heap} {L a : Addr} {m : Str → Option Value} {cn : Str} {cs : Scope} {ccd : Value} {ls ls' : Locs} {σ σ' : Mem} {led : List (Addr × Obj)} {s : Shared} {kd : Kd} {d : Nat} {env : Env} {cl : List (Str × Addr)}
theorem updF_live {x x' : AO} (hj : isJ x = false) (hj' : isJ x' = false) {a : Addr} {o : Obj} {σ : Mem} : ∀ {l : List (Addr × Obj)} {i : Nat}, (adr (live σ l)).Nodup → nth σ i = some x → nth l i = some (a, o) →
    UpdF a o (live σ l) (fun o' => live (setN x' σ i) (setN (a, o') l i)) := by
  induction σ with
  | nil => intro l i _ h; cases h
  | cons b σ ih =>
    intro l i hn h1 h2
    cases l with
    | nil => cases h2
    | cons p l =>
      cases i with
      | zero =>
        cases h1; cases h2
        have e : (fun o' => live (setN x' (x :: σ) 0) (setN (a, o') ((a, o) :: l) 0)) = fun o' => (a, o') :: live σ l := by
          funext o'
          simp only [setN, live, hj']
        rw [e]
        simp only [live, hj] at hn ⊢
        exact .head fun p hp e => (List.nodup_cons.mp hn).1 (by have q := List.mem_map_of_mem (f := Prod.fst) hp; rw [e] at q; exact q)
      | succ i =>
        cases h : isJ b with
        | true =>
          have e : (fun o' => live (setN x' (b :: σ) (i + 1)) (setN (a, o') (p :: l) (i + 1))) = fun o' => live (setN x' σ i) (setN (a, o') l i) := by
            funext o'
            simp only [setN, live, h]
          rw [e]
          simp only [live, h] at hn ⊢
          exact ih hn h1 h2
        | false =>
          have e : (fun o' => live (setN x' (b :: σ) (i + 1)) (setN (a, o') (p :: l) (i + 1))) = fun o' => p :: live (setN x' σ i) (setN (a, o') l i) := by
            funext o'
            simp only [setN, live, h]
          rw [e]
          simp only [live, h] at hn ⊢
          exact .tail (fun e => (List.nodup_cons.mp hn).1 (by have q := List.mem_map_of_mem (f := Prod.fst) (live_mem (σ := σ) (l := l) (i := i) hj h1 h2); show p.1 ∈ _; rw [e]; exact q)) (ih (List.nodup_cons.mp hn).2 h1 h2)
theorem ss_asg (H : Stat w) (hk : cs.kind = .function) (hkd : KdOk kd cs) {i : Nat} {x : X} {e : Expr} {p1 pos : Pos} (hi : kd.k i = some .local) (mx : MX kd x e) (nc : notComp x = true) (hx : SX w call A h₀ L (envX cn cs L a ccd cl) x e) :
    SS w call A h₀ L (envX cn cs L a ccd cl) (.asg i x) (.Assign [.Name (nm i) p1] e pos) := by
  intro m ls σ fl ls' σ' led s q I K
  simp only [exS] at q
  split at q
  · rename_i v σ1 e1
    cases q
    refine wpAny_Assign_Name (XQ.chain (hx _ _ _ _ _ _ _ e1 I K) fun led1 h1 tk1 u p1 I1 r1 => ?_) (mx.swaps nc _ _ _)
    exact UQ.chain (s := { s with heap := h1, toks := tk1 }) (store_ok H hk hkd hi I1 r1) fun m' h' tk I' => FQ.next p1 I'
  · cases q
theorem ss_asgT (H : Stat w) (hh : A.handled = none) (hk : cs.kind = .function) (hkd : KdOk kd cs) {is : List Nat} {ts : List Expr} {k : Nat} {p pos : Pos} {x : X} {e : Expr} (hn : MN kd is ts) (mx : MX kd x e) (nc : notComp x = true)
    (hs : ∀ env, swappedStores [.Tuple ts k p] e env = pure none) (hx : SX w call A h₀ L (envX cn cs L a ccd cl) x e) :
    SS w call A h₀ L (envX cn cs L a ccd cl) (.asgT is x) (.Assign [.Tuple ts k p] e pos) := by
  intro m ls σ fl ls' σ' led s q I K
  simp only [exS] at q
  split at q
  · rename_i t σ1 e1
    split at q
    · rename_i vs e2
      split at q
      · rename_i ls1 e3
        cases q
        refine Assign_Tuple (XQ.chain (hx _ _ _ _ _ _ _ e1 I K) fun led1 h1 tk1 u p1 I1 r1 => ?_) (mx.sole nc _ _ _) (hs _)
        exact UQ.chain (s := { s with heap := h1, toks := tk1 }) (assignT_ok H hh hk hkd hn e2 e3 I1 r1) fun m' h' tk I' => FQ.next p1 I'
      · cases q
    · cases q
  · cases q
theorem ss_asgW (H : Stat w) (hh : A.handled = none) (hk : cs.kind = .function) (hkd : KdOk kd cs) {i j : Nat} {ts : List Expr} {k : Nat} {p pos : Pos} {x : X} {e : Expr} (hi : kd.k i = some .local) (hj : kd.k j = some .local) (mx : MX kd x e) (nc : notComp x = true)
    (hs : swappedStores [.Tuple ts k p] e (envX cn cs L a ccd cl) = pure (some [nm i, nm j])) (hx : SX w call A h₀ L (envX cn cs L a ccd cl) x e) :
    SS w call A h₀ L (envX cn cs L a ccd cl) (.asgW [i, j] x) (.Assign [.Tuple ts k p] e pos) := by
  intro m ls σ fl ls' σ' led s q I K
  simp only [exS] at q
  split at q
  · rename_i i' j' t σ1 e0 e1
    cases e0
    split at q
    · rename_i v u e2
      cases q
      refine Assign_Tuple_swapped (XQ.chain (hx _ _ _ _ _ _ _ e1 I K) fun led1 h1 tk1 z p1 I1 r1 => ?_) (mx.sole nc _ _ _) hs
      obtain ⟨y, us, rfl, ht, hr⟩ := tup_at (s := { s with heap := h1, toks := tk1 }) I1 e2 r1
      obtain ⟨w1, w2, rfl, g1, g2⟩ := hr.two
      refine unpackItemsN_ (s := { s with heap := h1, toks := tk1 }) I1.fr I1.nw ht hh rfl fun h' F N => ?_
      refine assignInOrder_cons (bindName_ (UQ.chain (store_ok (s := { s with heap := h', toks := tk1 }) H hk hkd hj (I1.keep F N) g2) fun m2 h2 tk2 I2 => ?_))
      refine assignInOrder_cons (bindName_ (UQ.chain (store_ok (s := { s with heap := h2, toks := tk2 }) H hk hkd hi I2 g1) fun m3 h3 tk3 I3 => ?_))
      exact assignInOrder_nil (FQ.next p1 I3)
    · cases q
  · cases q
theorem ss_asg3 (H : Stat w) (hh : A.handled = none) (hk : cs.kind = .function) (hkd : KdOk kd cs) {i j l : Nat} {ts : List Expr} {k : Nat} {p pos : Pos} {x : X} {e : Expr} (hi : kd.k i = some .local) (hj : kd.k j = some .local) (hl : kd.k l = some .local) (mx : MX kd x e) (nc : notComp x = true)
    (hs : swappedStores [.Tuple ts k p] e (envX cn cs L a ccd cl) = pure (some [nm i, nm j, nm l])) (hx : SX w call A h₀ L (envX cn cs L a ccd cl) x e) :
    SS w call A h₀ L (envX cn cs L a ccd cl) (.asg3 i j l x) (.Assign [.Tuple ts k p] e pos) := by
  intro m ls σ fl ls' σ' led s q I K
  simp only [exS] at q
  split at q
  · rename_i t σ1 e1
    split at q
    · rename_i v u z e2
      cases q
      refine Assign_Tuple_swapped (XQ.chain (hx _ _ _ _ _ _ _ e1 I K) fun led1 h1 tk1 z p1 I1 r1 => ?_) (mx.sole nc _ _ _) hs
      obtain ⟨y, us, rfl, ht, hr⟩ := tup_at (s := { s with heap := h1, toks := tk1 }) I1 e2 r1
      obtain ⟨w1, w2, w3, rfl, g1, g2, g3⟩ := hr.three
      refine unpackItemsN_ (s := { s with heap := h1, toks := tk1 }) I1.fr I1.nw ht hh rfl fun h' F N => ?_
      refine assignInOrder_cons (bindName_ (UQ.chain (store_ok (s := { s with heap := h', toks := tk1 }) H hk hkd hl (I1.keep F N) g3) fun m2 h2 tk2 I2 => ?_))
      refine assignInOrder_cons (bindName_ (UQ.chain (store_ok (s := { s with heap := h2, toks := tk2 }) H hk hkd hj I2 g2) fun m3 h3 tk3 I3 => ?_))
      refine assignInOrder_cons (bindName_ (UQ.chain (store_ok (s := { s with heap := h3, toks := tk3 }) H hk hkd hi I3 g1) fun m4 h4 tk4 I4 => ?_))
      exact assignInOrder_nil (FQ.next p1 I4)
    · cases q
  · cases q
theorem put_ok (H : Stat w) {K : PK} {v0 v1 v2 v3 v4 v5 v6 v7 v8 v9 va u : Value} {f : Nat} (hf : isFld f = true) (hsh : Int) (key : Value) :
    ∃ es', (putL (nm f) hsh key u [⟨K.h0, .str "limit" K.k0, v0⟩, ⟨K.h1, .str "state" K.k1, v1⟩, ⟨K.h2, .str "written" K.k2, v2⟩, ⟨K.h3, .str "sent_to" K.k3, v3⟩, ⟨K.h4, .str "acked" K.k4, v4⟩, ⟨K.h5, .str "lost" K.k5, v5⟩,
    ⟨K.h6, .str "is_finished" K.k6, v6⟩, ⟨K.h7, .str "owes_end" K.k7, v7⟩, ⟨K.h8, .str "is_end_acked" K.k8, v8⟩, ⟨K.h9, .str "reset_code" K.k9, v9⟩, ⟨K.ha, .str "owes_reset" K.ka, va⟩],
      putN (nm f) [⟨K.h0, .str "limit" K.k0, v0⟩, ⟨K.h1, .str "state" K.k1, v1⟩, ⟨K.h2, .str "written" K.k2, v2⟩, ⟨K.h3, .str "sent_to" K.k3, v3⟩, ⟨K.h4, .str "acked" K.k4, v4⟩, ⟨K.h5, .str "lost" K.k5, v5⟩,
    ⟨K.h6, .str "is_finished" K.k6, v6⟩, ⟨K.h7, .str "owes_end" K.k7, v7⟩, ⟨K.h8, .str "is_end_acked" K.k8, v8⟩, ⟨K.h9, .str "reset_code" K.k9, v9⟩, ⟨K.ha, .str "owes_reset" K.ka, va⟩] 11) = (es', 11) ∧ es'.length ≤ 1000 ∧
      ∃ w0 w1 w2 w3 w4 w5 w6 w7 w8 w9 wa, setN u [v0, v1, v2, v3, v4, v5, v6, v7, v8, v9, va] f = [w0, w1, w2, w3, w4, w5, w6, w7, w8, w9, wa] ∧ dictOf es' 11 = pD K w0 w1 w2 w3 w4 w5 w6 w7 w8 w9 wa := by
  have := Nat.le_of_ble_eq_true hf
  match f, this with
  | 0, _ => exact ⟨_, rfl, Nat.le_of_ble_eq_true rfl, _, _, _, _, _, _, _, _, _, _, _, rfl, rfl⟩
  | 1, _ => exact ⟨_, rfl, Nat.le_of_ble_eq_true rfl, _, _, _, _, _, _, _, _, _, _, _, rfl, rfl⟩
  | 2, _ => exact ⟨_, rfl, Nat.le_of_ble_eq_true rfl, _, _, _, _, _, _, _, _, _, _, _, rfl, rfl⟩
  | 3, _ => exact ⟨_, rfl, Nat.le_of_ble_eq_true rfl, _, _, _, _, _, _, _, _, _, _, _, rfl, rfl⟩
  | 4, _ => exact ⟨_, rfl, Nat.le_of_ble_eq_true rfl, _, _, _, _, _, _, _, _, _, _, _, rfl, rfl⟩
  | 5, _ => exact ⟨_, rfl, Nat.le_of_ble_eq_true rfl, _, _, _, _, _, _, _, _, _, _, _, rfl, rfl⟩
  | 6, _ => exact ⟨_, rfl, Nat.le_of_ble_eq_true rfl, _, _, _, _, _, _, _, _, _, _, _, rfl, rfl⟩
  | 7, _ => exact ⟨_, rfl, Nat.le_of_ble_eq_true rfl, _, _, _, _, _, _, _, _, _, _, _, rfl, rfl⟩
  | 8, _ => exact ⟨_, rfl, Nat.le_of_ble_eq_true rfl, _, _, _, _, _, _, _, _, _, _, _, rfl, rfl⟩
  | 9, _ => exact ⟨_, rfl, Nat.le_of_ble_eq_true rfl, _, _, _, _, _, _, _, _, _, _, _, rfl, rfl⟩
  | 10, _ => exact ⟨_, rfl, Nat.le_of_ble_eq_true rfl, _, _, _, _, _, _, _, _, _, _, _, rfl, rfl⟩
  | f + 11, h => exact absurd h (by omega)
theorem nth_some_of_lt {α : Type} : ∀ {l : List α} {i : Nat}, i < l.length → ∃ x, nth l i = some x
  | _ :: _, 0, _ => ⟨_, rfl⟩
  | _ :: l, i + 1, h => nth_some_of_lt (l := l) (Nat.lt_of_succ_lt_succ h)
theorem Inv.set (I : Inv h₀ L m ls σ led h) {i : Nat} {x x' : AO} {a : Addr} {o o' : Obj} (hj : isJ x = false) (hj' : isJ x' = false) (e : nth σ i = some x) (e' : nth led i = some (a, o)) (hO : OR (adr led) x' o') (F : Fr h₀ L h' m)
    (N : News h₀ L h' (live (setN x' σ i) (setN (a, o') led i))) : Inv h₀ L m ls (setN x' σ i) (setN (a, o') led i) h' ∧ adr (setN (a, o') led i) = adr led := by
  have ea : adr (setN (a, o') led i) = adr led := adr_set e'
  have U := upd_live (x' := x') (o' := o') hj hj' I.nd e e'
  obtain ⟨pre, post, z1, z2, _, _⟩ := U.split
  refine ⟨⟨F, N, ?_, by rw [ea]; exact I.ob.set (q := (a, o')) hO, fun i v hv => by rw [ea]; exact I.lc i v hv⟩, ea⟩
  have n := I.nd
  rw [z1] at n
  rw [z2]
  simpa [adr] using n
theorem ss_put (H : Stat w) (C : Cx w A h₀ (envX cn cs L a ccd cl) d) (hk : cs.kind = .function) (hkd : KdOk kd cs) {o f : Nat} {x : X} {e : Expr} {p1 p2 pos : Pos} (ho : kd.k o = some .local) (mx : MX kd x e) (nc : notComp x = true) (hx : SX w call A h₀ L (envX cn cs L a ccd cl) x e) :
    SS w call A h₀ L (envX cn cs L a ccd cl) (.put o f x) (.Assign [.Attribute (.Name (nm o) p1) (nm f) p2] e pos) := by
  intro m ls σ fl ls' σ' led s q I K
  simp only [exS] at q
  split at q
  · rename_i v σ1 e1
    split at q
    · rename_i ov e2
      split at q
      · rename_i σ2 e3
        cases q
        refine plainObj_wpAny_Assign_Attribute (XQ.chain (hx _ _ _ _ _ _ _ e1 I K) fun led1 h1 tk1 u p1 I1 r1 => XQ.chain (sx_loc (s := { s with heap := h1, toks := tk1 }) H hk hkd ho e2 I1) fun led2 h2 tk2 ou p2 I2 r2 => ?_) (mx.swaps nc _ _ _)
        refine opq fun P' kP => ?_
        unfold putV at e3
        split at e3
        · rename_i i
          split at e3
          · rename_i dd q1
            split at e3
            · rename_i fs q2
              split at e3
              · rename_i hf
                cases e3
                obtain ⟨y, o1, rfl, m1, n1, g1⟩ := I2.ref q1 r2
                obtain ⟨dx, z1, rfl⟩ := g1
                obtain ⟨dy, o2, z2, m2, n2, g2⟩ := I2.get q2
                rw [z1] at z2; cases z2
                obtain ⟨PKK, v0, v1, v2, v3, v4, v5, v6, v7, v8, v9, va, hvs, rfl⟩ := g2
                obtain ⟨at_, hf1, hf2, hf3⟩ := H.fld f hf
                have hlt : f < [v0, v1, v2, v3, v4, v5, v6, v7, v8, v9, va].length := Nat.le_of_ble_eq_true hf
                obtain ⟨x0, hx0⟩ := nth_some_of_lt hlt
                obtain ⟨es', w1, w2, w3⟩ := put_ok (K := PKK) (v0 := v0) (v1 := v1) (v2 := v2) (v3 := v3) (v4 := v4) (v5 := v5) (v6 := v6) (v7 := v7) (v8 := v8) (v9 := v9) (va := va) (u := u) H hf (PyData.keyHash w.params (nm f)) (.str (nm f) (tk2 + 1))
                obtain ⟨w0', w1', w2', w3', w4', w5', w6', w7', w8', w9', wa', w4, w5⟩ := w3
                refine kP (set_dict (s := { s with heap := h2, toks := tk2 }) I2.fr C.kx I2.nw (InstAt.of_news I2.nw m1 m2) rfl H.setA H.over hf3 H.dict (by rw [getL_part hx0]; rfl) w1 (upd_live (x' := .part (setN v fs f)) rfl rfl I2.nd q2 n2) w2 fun h' F N => ?_)
                rw [w5] at N
                obtain ⟨I3, ea⟩ := I2.set (x' := .part (setN v fs f)) rfl rfl q2 n2 (o' := pD PKK w0' w1' w2' w3' w4' w5' w6' w7' w8' w9' wa') ⟨PKK, _, _, _, _, _, _, _, _, _, _, _, w4 ▸ hvs.set (r1.up p2), rfl⟩ F N
                exact FQ.next (by rw [ea]; exact p1.trans p2) I3
              · cases e3
            · cases e3
          · cases e3
        · cases e3
      · cases q
    · cases q
  · cases q
theorem ss_expr (hk : cs.kind = .function) {x : X} {e : Expr} {pos : Pos} (mx : MX kd x e) (nc : notComp x = true) (hx : SX w call A h₀ L (envX cn cs L a ccd cl) x e) : SS w call A h₀ L (envX cn cs L a ccd cl) (.expr x) (.Expr e pos) := by
  intro m ls σ fl ls' σ' led s q I K
  simp only [exS] at q
  split at q
  · rename_i v σ1 e1
    cases q
    refine wpAny_Expr_any (XQ.chain (hx _ _ _ _ _ _ _ e1 I K) fun led1 h1 tk1 u p1 I1 r1 => FQ.next p1 I1) ?_ (mx.swaps nc _ _ _)
    show (cs.kind == .module && _) = false
    rw [hk]; rfl
  · cases q
theorem ss_iff {t : T} {x y : Ss} {et : Expr} {ex ey : List Stmt} {pos : Pos} (ht : ST w call A h₀ L env t et) (hx : SSs w call A h₀ L env x ex) (hy : SSs w call A h₀ L env y ey) : SS w call A h₀ L env (.iff t x y) (.If et ex ey pos) := by
  intro m ls σ fl ls' σ' led s q I K
  simp only [exS] at q
  split at q
  · rename_i σ1 e1
    refine wpAny_If (TQ.chain (ht _ _ _ _ _ _ _ e1 I K) fun led1 h1 tk1 p1 I1 => ?_)
    rw [if_pos rfl]
    exact wpAny_mono (hx _ _ _ _ _ _ _ { s with heap := h1, toks := tk1 } q I1 (K.up p1)) (fun _ _ q => FQ.of p1 q) fun _ _ q => q
  · rename_i σ1 e1
    refine wpAny_If (TQ.chain (ht _ _ _ _ _ _ _ e1 I K) fun led1 h1 tk1 p1 I1 => ?_)
    rw [if_neg (by decide)]
    exact wpAny_mono (hy _ _ _ _ _ _ _ { s with heap := h1, toks := tk1 } q I1 (K.up p1)) (fun _ _ q => FQ.of p1 q) fun _ _ q => q
  · cases q
theorem ss_ret {x : X} {e : Expr} {pos : Pos} (hx : SX w call A h₀ L env x e) : SS w call A h₀ L env (.ret x) (.Return (some e) pos) := by
  intro m ls σ fl ls' σ' led s q I K
  simp only [exS] at q
  split at q
  · rename_i v σ1 e1
    cases q
    exact wpAny_Return_some (XQ.chain (hx _ _ _ _ _ _ _ e1 I K) fun led1 h1 tk1 u p1 I1 r1 => ⟨m, led1, h1, tk1, rfl, p1, I1, u, rfl, r1⟩)
  · cases q
theorem ss_retN {pos : Pos} : SS w call A h₀ L env .retN (.Return none pos) := by
  intro m ls σ fl ls' σ' led s q I K
  simp only [exS] at q
  cases q
  exact wpAny_Return_none ⟨m, led, s.heap, s.toks, rfl, List.prefix_rfl, I, .none, rfl, rfl⟩
theorem sss_nil : SSs w call A h₀ L env .nil [] := by
  intro m ls σ fl ls' σ' led s q I K
  simp only [exSs] at q
  cases q
  exact wpAny_execs_nil ⟨m, led, s.heap, s.toks, rfl, List.prefix_rfl, I, rfl⟩
theorem sss_cons {x : S} {xs : Ss} {e : Stmt} {es : List Stmt} (hx : SS w call A h₀ L env x e) (hs : SSs w call A h₀ L env xs es) : SSs w call A h₀ L env (.cons x xs) (e :: es) := by
  intro m ls σ fl ls' σ' led s q I K
  simp only [exSs] at q
  split at q
  · rename_i ls1 σ1 e1
    refine wpAny_execs_cons (wpAny_mono (hx _ _ _ _ _ _ _ _ e1 I K) (fun f s1 z => ?_) fun _ _ z => z)
    obtain ⟨m1, led1, h1, tk1, rfl, p1, I1, rfl⟩ := z
    exact wpAny_mono (hs _ _ _ _ _ _ _ { s with heap := h1, toks := tk1 } q I1 (K.up p1)) (fun _ _ q => FQ.of p1 q) fun _ _ q => q
  · rename_i v ls1 σ1 e1
    cases q
    refine wpAny_execs_cons (wpAny_mono (hx _ _ _ _ _ _ _ _ e1 I K) (fun f s1 z => ?_) fun _ _ z => z)
    obtain ⟨m1, led1, h1, tk1, rfl, p1, I1, u, rfl, r1⟩ := z
    exact ⟨m1, led1, h1, tk1, rfl, p1, I1, u, rfl, r1⟩
  · cases q
theorem ss_asgC {c : Addr} (H : Stat w) (hk : cs.kind = .function) (hkd : KdOk kd cs) {x : X} {e : Expr} {p1 pos : Pos} (ho : kd.k wPART = some .cell) (mx : MX kd x e) (nc : notComp x = true) (hx : SX w call A h₀ L (envX cn cs L a ccd [(nm wPART, c)]) x e) :
    SS w call A h₀ L (envX cn cs L a ccd [(nm wPART, c)]) (.asgC x) (.Assign [.Name (nm wPART) p1] e pos) := by
  intro m ls σ fl ls' σ' led s q I K
  simp only [exS] at q
  split at q
  · rename_i v σ1 e1
    split at q
    · rename_i v0 e2
      cases q
      refine wpAny_Assign_Name (XQ.chain (hx _ _ _ _ _ _ _ e1 I K) fun led1 h1 tk1 u p1 I1 r1 => ?_) (mx.swaps nc _ _ _)
      have hc := nth_prefix p1 K.2
      obtain ⟨c', o, g1, g2, g3, g4⟩ := I1.get (i := 1) e2
      have : c' = c := Option.some.inj (g1.symm.trans hc)
      subst this
      have hd : ∃ w0, o.data = .cell w0 := by
        cases v0 with
        | none => exact ⟨none, g4⟩
        | some z => obtain ⟨y, hy, _⟩ := g4; exact ⟨_, hy⟩
      obtain ⟨w0, hd⟩ := hd
      have U : UpdF c' o (live σ1 led1) (fun o' => live (setN (.cell (some v)) σ1 1) (setN (c', o') led1 1)) := updF_live rfl rfl I1.nd e2 g3
      refine storeX_C (s := { s with heap := h1, toks := tk1 }) I1.fr I1.nw (by simp) U hd (fun h' o' F N hd' => ?_) hk (hkd.2 _ _ ho)
      obtain ⟨I2, ea⟩ := I1.set (x' := .cell (some v)) rfl rfl e2 g3 (o' := o') ⟨u, hd', r1⟩ F N
      exact FQ.next (by rw [ea]; exact p1) I2
    · cases q
  · cases q
end
end

section
open PySem PySem.W PyProof.Rows PySem.Calls PySem.SeqAt

theorem nth_setN_ne {α : Type} {v : α} : ∀ {l : List α} {i j : Nat}, i ≠ j → nth (setN v l i) j = nth l j
  | [], _, _, _ => rfl
  | _ :: _, 0, 0, h => absurd rfl h
  | _ :: _, 0, _ + 1, _ => rfl
  | _ :: _, _ + 1, 0, _ => rfl
  | _ :: l, i + 1, j + 1, h => nth_setN_ne (l := l) (i := i) (j := j) fun e => h (congrArg (· + 1) e)
theorem ORs.junk {ρ : List Addr} {σ : Mem} {l : List (Addr × Obj)} (H : ORs ρ σ l) : ∀ {i : Nat}, ORs ρ (setN .junk σ i) l := by
  induction H with
  | nil => intro i; exact .nil
  | cons z r ih =>
    intro i
    cases i with
    | zero => exact .cons trivial r
    | succ i => exact .cons z ih
theorem MX.fold {kd : Kd} {x : X} {e : Expr} (h : MX kd x e) (env : Env) (v : Value) : foldedSetIterable e env v = pure v := by cases h <;> rfl
section
variable {w : World} {call : CallF} {A : Around} {h₀ h h' : Heap} {L a : Addr} {m : Str → Option Value} {cn : Str} {cs : Scope} {ccd : Value} {ls ls' : Locs} {σ σ' : Mem} {led : List (Addr × Obj)} {s : Shared} {kd : Kd} {d : Nat} {env : Env} {cl : List (Str × Addr)}
theorem Inv.drop (I : Inv h₀ L m ls σ led h) {i : Nat} {x : AO} {D : Addr} {o : Obj} (hj : isJ x = false) (e : nth σ i = some x) (e' : nth led i = some (D, o)) (he : Heap.ExtBut D h h') : Inv h₀ L m ls (setN .junk σ i) led h' := by
  have hm := I.nw _ (live_mem hj e e')
  obtain ⟨z1, z2⟩ := live_drop hj I.nd e e'
  refine ⟨LCg.fr_but I.fr (fun b ob hb q => he b ob (by simpa using hb) q) (Ne.symm hm.2.1) hm.2.2, fun p hp => ?_, z2, I.ob.junk, I.lc⟩
  obtain ⟨y1, y2⟩ := z1 p hp
  exact ⟨he _ _ y2 (I.nw p y1).1, (I.nw p y1).2⟩
theorem Inv.turn (I : Inv h₀ L m ls σ led h) {i : Nat} {x x' : AO} {D : Addr} {o o' : Obj} (hj : isJ x = false) (hj' : isJ x' = false) (e : nth σ i = some x) (e' : nth led i = some (D, o)) (hs : Heap.SameBut D h h') (ho : h'.get? D = some o') (hO : OR (adr led) x' o') :
    Inv h₀ L m ls (setN x' σ i) (setN (D, o') led i) h' ∧ adr (setN (D, o') led i) = adr led := by
  have hm := I.nw _ (live_mem hj e e')
  have U := upd_live (x' := x') (o' := o') hj hj' I.nd e e'
  obtain ⟨pre, post, z1, z2, z3, z4⟩ := U.split
  refine I.set hj hj' e e' hO (LCg.fr_but I.fr (fun b ob hb q => (hs.2 b (by simpa using hb)).trans q) (Ne.symm hm.2.1) hm.2.2) fun p hp => ?_
  rw [z2] at hp
  have old : p ∈ live σ led → p.1 ≠ D → h'.get? p.1 = some p.2 ∧ p.1 ≠ L ∧ h₀.get? p.1 = none := fun q1 q2 => ⟨(hs.2 p.1 q2).trans (I.nw p q1).1, (I.nw p q1).2⟩
  rcases List.mem_append.mp hp with hp | hp
  · exact old (by rw [z1]; exact List.mem_append_left _ hp) (z3 p hp)
  · rcases List.mem_cons.mp hp with rfl | hp
    · exact ⟨ho, hm.2⟩
    · exact old (by rw [z1]; exact List.mem_append_right _ (.tail _ hp)) (z4 p hp)
inductive LP (call : CallF) (h₀ : Heap) (L : Addr) (b : Ss) (is : List Nat) (l it : Nat) (led : List (Addr × Obj)) (s : Shared) (r : Fl × Locs × Mem) : Nat → Shared → Prop
  | mk {n i : Nat} {ls : Locs} {σ : Mem} {m : Str → Option Value} {led0 : List (Addr × Obj)} {g : Heap} {tk : Nat} (p : adr led <+: adr led0) (I : Inv h₀ L m ls σ led0 g) (e : loopN (exSs call b) is l it n i ls σ = some r) :
    LP call h₀ L b is l it led s r n { s with heap := g, toks := tk }
theorem ss_for (H : Stat w) (C : Cx w A h₀ (envX cn cs L a ccd cl) d) (hk : cs.kind = .function) (hkd : KdOk kd cs) {is : List Nat} {ts : List Expr} {k : Nat} {p pos : Pos} {x : X} {e : Expr} {b : Ss} {eb : List Stmt} (hn : MN kd is ts) (mx : MX kd x e)
    (hx : SX w call A h₀ L (envX cn cs L a ccd cl) x e) (hb : SSs w call A h₀ L (envX cn cs L a ccd cl) b eb) :
    SS w call A h₀ L (envX cn cs L a ccd cl) (.for2 is x b) (.For (.Tuple ts k p) e eb [] pos) := by
  intro m ls σ fl ls' σ' led s q I K
  simp only [exS] at q
  split at q
  · rename_i l σ1 e1
    split at q
    · rename_i xs0 e2
      refine wpAny_For (XQ.chain (hx _ _ _ _ _ _ _ e1 I K) fun led1 h1 tk1 v p1 I1 r1 => ?_) (mx.fold _)
      obtain ⟨al, us0, n0, rfl, hm0, hl0, hr0⟩ := lst_at (s := { s with heap := h1, toks := tk1 }) I1 e2 r1
      refine wpAny_pyIter_list hl0 ?_
      obtain ⟨al', hal, hal'⟩ := r1
      cases hal'
      have I2 := I1.push (D := h1.objs.size) (o := { cls := .type "list_iterator", data := .fields #[.ref al, .int 0 0] }) (ao := .iter l 0) (I1.fr.push _) (I1.nw.push I1.fr _) (fun p hp => Heap.lt_size (I1.nw p hp).1)
        ⟨al, nth_prefix (pre_snoc _ _) hal, rfl, rfl⟩
      have hD : nth (adr (led1 ++ [(h1.objs.size, { cls := .type "list_iterator", data := .fields #[.ref al, .int 0 0] })])) (lenN σ1) = some h1.objs.size := by
        obtain ⟨z, hz, hz'⟩ := I1.last h1.objs.size { cls := .type "list_iterator", data := .fields #[.ref al, .int 0 0] }
        cases hz'
        exact hz
      have p2 := p1.trans (pre_snoc (led := led1) h1.objs.size { cls := .type "list_iterator", data := .fields #[.ref al, .int 0 0] })
      generalize led1 ++ [(h1.objs.size, ({ cls := .type "list_iterator", data := .fields #[.ref al, .int 0 0] } : Obj))] = led2 at I2 hD p2
      generalize σ1 ++ [.iter l 0] = σ2 at I2 q
      refine codeAny_forLoop_any (LP call h₀ L b is l (lenN σ1) led2 s (fl, ls', σ')) ?_ 8
        (.mk List.prefix_rfl I2 q)
      rintro n s' z
      obtain @⟨i, ls0, σ0, m0, led0, g, tk, p3, I0, ef⟩ := z
      cases n with
      | zero => simp [loopN] at ef
      | succ n =>
        refine opq fun P' kP => ?_
        rw [loopN] at ef
        split at ef
        · rename_i l' i' e3
          split at ef
          · rename_i b1 b2
            cases Nat.eq_of_beq_eq_true b1
            cases Nat.eq_of_beq_eq_true b2
            split at ef
            · rename_i xs e4
              obtain ⟨D', o, d1, d2, d3, d4⟩ := I0.get e3
              have : D' = h1.objs.size := Option.some.inj (d1.symm.trans (nth_prefix p3 hD))
              subst this
              obtain ⟨al2, g1, g2, g3⟩ := d4
              have hit : g.IsListIter h1.objs.size al2 i := ⟨o, (I0.nw _ d2).1, g2, g3⟩
              obtain ⟨al3, us, n1, hal3, hm1, hl1, hr1⟩ := lst_at (s := { s with heap := g, toks := tk }) I0 e4 ⟨al2, g1, rfl⟩
              cases hal3
              split at ef
              · rename_i e5
                cases ef
                refine kP (wpAny_pyNext_list_end C.hd hit hl1 ?_ fun h' he => wpAny_execs_nil ?_)
                · have z := nth_none e5
                  rw [hr1.len] at z
                  simpa using z
                · exact FQ.next (p2.trans p3) (I0.drop rfl e3 d3 he)
              · rename_i t e5
                obtain ⟨u, hu, hur⟩ := hr1.nth e5
                split at ef
                · rename_i vs e6
                  split at ef
                  · rename_i ls1 e7
                    have hne : lenN σ1 ≠ t := fun z => by rw [z, e6] at e3; cases e3
                    refine kP (wpAny_pyNext_list_item hit hl1 (x := u) (by have z := hu; rw [nth_eq] at z; simpa using z) fun h' hit' hsb => ?_)
                    obtain ⟨at_, hat, rfl⟩ := hur
                    refine wpAny_letOwnedTupleGo_listiter hit' ?_
                    refine opq fun P' kP => ?_
                    obtain ⟨o', w1, w2, w3⟩ := hit'
                    obtain ⟨I3, ea⟩ := I0.turn (x' := .iter l (i + 1)) rfl rfl e3 d3 hsb w1 ⟨al2, g1, w2, w3⟩
                    refine kP (wpAny_mono (UQ.chain (s := { s with heap := h', toks := tk }) (assignT_ok H C.hd hk hkd hn ((nth_setN_ne hne).trans e6) e7 I3 ⟨at_, by rw [ea]; exact hat, rfl⟩) fun m4 h4 tk4 I4 => ?_) (fun _ _ z => z) fun _ _ z => z.elim)
                    split at ef
                    · rename_i ls5 σ5 e8
                      refine wpAny_mono (hb _ _ _ _ _ _ _ { s with heap := h4, toks := tk4 } e8 I4 (by rw [ea]; exact K.up (p2.trans p3))) (fun f s5 z => ?_) fun _ _ z => z.elim
                      obtain ⟨m5, led5, h5, tk5, rfl, p5, I5, rfl⟩ := z
                      exact ⟨n, Nat.lt_succ_self _, .mk (p3.trans (ea ▸ p5)) I5 ef⟩
                    · rename_i v5 ls5 σ5 e8
                      cases ef
                      refine wpAny_mono (hb _ _ _ _ _ _ _ { s with heap := h4, toks := tk4 } e8 I4 (by rw [ea]; exact K.up (p2.trans p3))) (fun f s5 z => ?_) fun _ _ z => z.elim
                      obtain ⟨m5, led5, h5, tk5, rfl, p5, I5, u5, rfl, r5⟩ := z
                      exact ⟨m5, led5, h5, tk5, rfl, p2.trans (p3.trans (ea ▸ p5)), I5, u5, rfl, r5⟩
                    · cases ef
                  · cases ef
                · cases ef
              · cases ef
            · cases ef
          · cases ef
        · cases ef
    · cases q
  · cases q
end
end

section
open PySem PySem.W PyProof.Rows PySem.Calls PySem.SeqAt

section
variable {w : World} {call : CallF} {A : Around} {h₀ : Heap} {L a : Addr} {cn : Str} {cs : Scope} {ccd : Value} {kd : Kd} {d : Nat} {cl : List (Str × Addr)}
noncomputable def STh (w : World) (call : CallF) (A : Around) (h₀ : Heap) (L : Addr) (env : Env) (x : Ss) (e : List Stmt) : Prop := ∀ m ls σ ls' σ' led s rest P, exSs call x ls σ = some (.next, ls', σ') → Inv h₀ L m ls σ led s.heap → CellAt env.cells (adr led) →
  (∀ m' led' h' tk, adr led <+: adr led' → Inv h₀ L m' ls' σ' led' h' → wpAny (model PG w) A (execs rest env) P Nope { s with heap := h', toks := tk }) → wpAny (model PG w) A (execs (e ++ rest) env) P Nope s
theorem sth_nil {env : Env} : STh w call A h₀ L env .nil [] := by
  intro m ls σ ls' σ' led s rest P q I K k
  simp only [exSs] at q
  cases q
  exact k m led s.heap s.toks List.prefix_rfl I
theorem sth_cons {env : Env} {x : S} {xs : Ss} {e : Stmt} {es : List Stmt} (hx : SS w call A h₀ L env x e) (hs : STh w call A h₀ L env xs es) : STh w call A h₀ L env (.cons x xs) (e :: es) := by
  intro m ls σ ls' σ' led s rest P q I K k
  simp only [exSs] at q
  split at q
  · rename_i ls1 σ1 e1
    refine wpAny_execs_cons (wpAny_mono (hx _ _ _ _ _ _ _ _ e1 I K) (fun f s1 z => ?_) fun _ _ z => z)
    obtain ⟨m1, led1, h1, tk1, rfl, p1, I1, rfl⟩ := z
    exact hs _ _ _ _ _ _ { s with heap := h1, toks := tk1 } rest P q I1 (K.up p1) fun m' led' h' tk p2 I' => k m' led' h' tk (p1.trans p2) I'
  · cases q
  · cases q
theorem s_all (H : Stat w) (hc : CallOk w call d) (C : Cx w A h₀ (envX cn cs L a ccd cl) d) (hct : CtOk w call (d + 10)) (hcl : kd.k wPART = some .cell → ∃ c, cl = [(nm wPART, c)]) (hd : 10 ≤ d) (hk : cs.kind = .function) (hkd : KdOk kd cs) {b : Ss} {e : List Stmt} (h : MSs cs kd b e) : SSs w call A h₀ L (envX cn cs L a ccd cl) b e ∧ STh w call A h₀ L (envX cn cs L a ccd cl) b e := by
  obtain ⟨xa, ta⟩ := x_all H hc C hct hcl hd hk hkd
  refine MSs.rec (motive_1 := fun s e _ => SS w call A h₀ L (envX cn cs L a ccd cl) s e) (motive_2 := fun b e _ => SSs w call A h₀ L (envX cn cs L a ccd cl) b e ∧ STh w call A h₀ L (envX cn cs L a ccd cl) b e)
    ?opq ?asg ?asgL ?asgI ?asgW ?asg3 ?put ?expr ?iff ?ret ?asgC ?retN ?for2 ?nil ?cons h
  case opq => intro s m ls σ fl ls' σ' led s q; simp [exS] at q
  case asg => intro i n x e p1 pos e1 hi mx nc; subst e1; exact ss_asg H hk hkd hi mx nc (xa mx)
  case asgL => intro is ts k p i e pos hn mx; exact ss_asgT H C.hd hk hkd hn mx rfl (by cases mx; intro _; rfl) (xa mx)
  case asgI => intro is ts k p x i e pos hn mx; exact ss_asgT H C.hd hk hkd hn mx rfl (by cases mx; intro _; rfl) (xa mx)
  case asgW => intro i j n1 n2 x ts k p e pos e1 e2 hi hj mx nc hs; subst e1 e2; exact ss_asgW H C.hd hk hkd hi hj mx nc (hs _ _ _ _ _) (xa mx)
  case asg3 => intro i j l n1 n2 n3 x ts k p e pos e1 e2 e3 hi hj hl mx nc hs; subst e1 e2 e3; exact ss_asg3 H C.hd hk hkd hi hj hl mx nc (hs _ _ _ _ _) (xa mx)
  case put => intro o f so sf x e p1 p2 pos e1 e2 ho mx nc; subst e1 e2; exact ss_put H C hk hkd ho mx nc (xa mx)
  case expr => intro x e pos mx nc; exact ss_expr hk mx nc (xa mx)
  case iff => intro t a b et ea eb pos mt _ _ ih1 ih2; exact ss_iff (ta mt) ih1.1 ih2.1
  case ret => intro x e pos mx; exact ss_ret (xa mx)
  case asgC => intro x e p1 pos ho mx nc; obtain ⟨c, rfl⟩ := hcl ho; exact ss_asgC H hk hkd ho mx nc (xa mx)
  case retN => intro pos; exact ss_retN
  case for2 => intro is ts k p x e b eb pos hn mx _ ih; exact ss_for H C hk hkd hn mx (xa mx) ih.1
  case nil => exact ⟨sss_nil, sth_nil⟩
  case cons => intro s ss t ts _ _ ih1 ih2; exact ⟨sss_cons ih1 ih2.1, sth_cons ih1 ih2.2⟩
end
structure FnOk (w : World) (f : Nat) (ps : List Nat) (b : Ss) : Prop where
  ok : ∃ (name qual : Str) (params : Arguments) (body : List Stmt) (scope : Scope) (dV kV doc pm cdv ct oc : Value) (an od : Option Addr) (osl : Array (Option Value)) (kd : Kd),
    (KF w).lookup f = some ⟨oc, od, .func (fnOf name qual params body scope dV kV doc pm an cdv ct), osl⟩ ∧ codeIn (KF w) cdv qual = true ∧
    (∀ vs : List Value, vs.length = ps.length → bindArgs (fnOf name qual params body scope dV kV doc pm an cdv ct) ⟨vs, []⟩ = pure ((ps.map nm).zip vs)) ∧
    (∀ i ∈ ps, scope.names.lookup (nm i) = some .local) ∧ scope.isCoroutine = false ∧ scope.isGenerator = false ∧ scope.kind = .function ∧ (∀ x ∈ scope.names, x.2 ≠ .cell) ∧ kd.k wPART ≠ some .cell ∧ KdOk kd scope ∧ MSs scope kd b body
noncomputable def Ali (ρ : List Addr) : Locs → List (Str × Value) → Prop
  | [], [] => True
  | p :: r, q :: t => q.1 = nm p.1 ∧ VR ρ p.2 q.2 ∧ Ali ρ r t
  | _, _ => False
theorem Ali.look {w : World} (H : Stat w) {ρ : List Addr} : ∀ {l : Locs} {bs : List (Str × Value)} {i : Nat} {v : AV}, Ali ρ l bs → lookN i l = some v → ∃ u, bs.lookup (nm i) = some u ∧ VR ρ v u
  | p :: r, q :: t, i, v, ⟨h1, h2, h3⟩, e => by
    unfold lookN at e
    rw [List.lookup_cons]
    split at e
    · rename_i z
      cases e
      rw [h1, Nat.eq_of_beq_eq_true z]
      simp only [beq_self_eq_true]
      exact ⟨_, rfl, h2⟩
    · rename_i z
      have : (nm i == q.1) = false := by
        rw [h1, beq_eq_false_iff_ne]
        exact fun y => Nat.ne_of_beq_eq_false z (H.inj _ _ y).symm
      rw [this]
      exact Ali.look H h3 e
theorem bindAll_ali {ρ : List Addr} : ∀ {ps : List Nat} {as : List AV} {vs : List Value} {ls ls' : Locs} {bs : List (Str × Value)}, bindAll ps as ls = some ls' → VRs ρ as vs → Ali ρ ls bs → Ali ρ ls' (((ps.map nm).zip vs).reverse ++ bs)
  | [], [], [], _, _, _, e, _, h => by cases e; exact h
  | i :: is, v :: as, u :: vs, ls, ls', bs, e, ⟨h1, h2⟩, h => by
    have z := bindAll_ali (ps := is) (as := as) (vs := vs) (ls := (i, v) :: ls) (bs := (nm i, u) :: bs) e h2 ⟨rfl, h1, h⟩
    simpa using z
  | [], [], _ :: _, _, _, _, _, h, _ => by cases h
  | [], _ :: _, _, _, _, _, e, _, _ => by simp [bindAll] at e
  | _ :: _, [], _, _, _, _, e, _, _ => by simp [bindAll] at e
  | _ :: _, _ :: _, [], _, _, _, _, h, _ => by cases h
section
variable {w : World} (H : Stat w) (HF : ∀ f ps b, lookN f fnTab = some (ps, b) → FnOk w f ps b)
include H HF
theorem run_call {n : Nat} (hc : CallOk w (runF n) (n + 80)) (hct : CtOk w (runF n) (n + 90)) : CallOk w (runF (n + 1)) (n + 81) := fun f as σ av σ' e A h₀ L env m ls led s vs C hL hk I hv => by
  refine opq fun P' kP => ?_
  unfold runF at e
  split at e
  · rename_i ps b e1
    split at e
    · rename_i ls1 e2
      obtain ⟨name, qual, params, body, scope, dV, kV, doc, pm, cdv, ct, oc, an, od, osl, kd, g1, g2, g3, g4, g5, g6, g7, g8, gn, g9, ga⟩ := (HF f ps b e1).ok
      obtain ⟨A₀, base, outer, B, hA⟩ := C.below
      obtain ⟨p, loose, mean, mg, mb, T⟩ := C.top
      have hlen : vs.length = ps.length := by rw [← hv.len, bindAll_len e2]
      have hloc : ∀ y ∈ (ps.map nm).zip vs, scope.names.lookup y.1 = some .local := fun y hy => by
        obtain ⟨i, hi, e⟩ := List.mem_map.mp (List.of_mem_zip hy).1
        rw [← e]
        exact g4 i hi
      have hd := C.dep
      have hu := C.unt
      refine kP ?_
      refine code_def B I.fr C.kx I.nw T hA hL hk g1 g2 (by omega) (BindsTo.of_eq (g3 vs hlen)) hloc (fun g L' h₁ F F' N' B' X' T' => ?_) g5 g6 g7 g8
      have C' : Cx w (A.deeper (envX qual scope L' f cdv [])) g (envX qual scope L' f cdv []) (n + 80) := ⟨⟨A, base, env :: outer, B', Around.frames_deeper hA⟩, X', ⟨p, loose, mean, mg, mb, T'⟩, C.hd, by show A.depth + 1 + _ + _ < _; omega, by show A.units + 3 + _ + _ < _; omega⟩
      have I' : Inv g L' (fun y => ((ps.map nm).zip vs).reverse.lookup y) ls1 σ led h₁ := ⟨F', N', I.nd, I.ob, fun i v hi => by
        have z := bindAll_ali (ρ := adr led) (bs := []) e2 hv trivial
        rw [List.append_nil] at z
        exact z.look H hi⟩
      have S := (s_all H hc C' hct (fun q => absurd q gn) (by omega) g7 g9 ga).1
      have back : ∀ {σ₁ : Mem} {led' : List (Addr × Obj)} {h' : Heap} {tk : Nat} {m' : Str → Option Value} {ls₁ : Locs} {av : AV} {v : Value}, adr led <+: adr led' → Inv g L' m' ls₁ σ₁ led' h' → VR (adr led') av v →
          LeaveK h₀ L m g (RQ h₀ L m ls σ₁ (adr led) av s) v { s with heap := h', toks := tk } := fun {σ₁ led' h' tk m' ls₁ av v} p1 I1 hr =>
        leaveK_ I1.fr I1.nw fun F2 N2 => ⟨led', h', tk, rfl, p1, ⟨F2, N2, I1.nd, I1.ob, fun i x hx => by
          obtain ⟨u, h1, h2⟩ := I.lc i x hx
          exact ⟨u, h1, h2.up p1⟩⟩, hr⟩
      split at e
      · rename_i v ls2 σ2 e3
        cases e
        refine wpAny_mono (S _ _ _ _ _ _ _ { s with heap := h₁, toks := s.toks + ((ps.map nm).zip vs).length } e3 I' trivial) (fun fl s' q => ?_) fun _ _ q => q.elim
        obtain ⟨m1, led1, h1, tk1, rfl, p1, I1, u, rfl, r1⟩ := q
        exact back p1 I1 r1
      · rename_i ls2 σ2 e3
        cases e
        refine wpAny_mono (S _ _ _ _ _ _ _ { s with heap := h₁, toks := s.toks + ((ps.map nm).zip vs).length } e3 I' trivial) (fun fl s' q => ?_) fun _ _ q => q.elim
        obtain ⟨m1, led1, h1, tk1, rfl, p1, I1, rfl⟩ := q
        exact back p1 I1 rfl
      · cases e
    · cases e
  · cases e
theorem run_ct {n : Nat} (hc : CallOk w (runF n) (n + 80)) (hct : CtOk w (runF n) (n + 90)) : CtOk w (runF (n + 1)) (n + 91) := fun f as σ av σ' e led vs ho hn hv => by
  refine Ct.mk ?_
  intro p loose mean mg mb dp un gd base g env outer s R B kg sz X T N hd hu hO
  refine opq fun P' kP => ?_
  unfold runF at e
  split at e
  · rename_i ps b e1
    split at e
    · rename_i ls1 e2
      obtain ⟨name, qual, params, body, scope, dV, kV, doc, pm, cdv, ct, oc, an, od, osl, kd, g1, g2, g3, g4, g5, g6, g7, g8, gn, g9, ga⟩ := (HF f ps b e1).ok
      have hlen : vs.length = ps.length := by rw [← hv.len, bindAll_len e2]
      have hloc : ∀ y ∈ (ps.map nm).zip vs, scope.names.lookup y.1 = some .local := fun y hy => by
        obtain ⟨i, hi, e⟩ := List.mem_map.mp (List.of_mem_zip hy).1
        rw [← e]
        exact g4 i hi
      refine kP ?_
      refine ct_code B kg sz X T N g1 g2 (by show dp < _; omega) (BindsTo.of_eq (g3 vs hlen)) hloc (fun L' h₁ F' N' lt => ?_) g5 g6 g7 g8
      have C' : Cx w ((mkA dp un gd env outer).deeper (envX qual scope L' f cdv [])) g (envX qual scope L' f cdv []) (n + 80) := ⟨⟨_, base, env :: outer, B, Around.frames_deeper rfl⟩, X, ⟨p, loose, mean, mg, mb, T⟩, rfl, by show dp + 1 + _ + _ < _; omega, by show un + 3 + _ + _ < _; omega⟩
      have I' : Inv g L' (fun y => ((ps.map nm).zip vs).reverse.lookup y) ls1 σ led h₁ := ⟨F', N', hn, ho, fun i v hi => by
        have z := bindAll_ali (ρ := adr led) (bs := []) e2 hv trivial
        rw [List.append_nil] at z
        exact z.look H hi⟩
      have S := (s_all H hc C' hct (fun q => absurd q gn) (by omega) g7 g9 ga).1
      have back : ∀ {σ₁ : Mem} {led' : List (Addr × Obj)} {h' : Heap} {tk : Nat} {m' : Str → Option Value} {ls₁ : Locs} {av₁ : AV} {v : Value}, σ₁ = σ' → av₁ = av → adr led <+: adr led' → Inv g L' m' ls₁ σ₁ led' h' → VR (adr led') av₁ v →
          R (.ok (.ret v)) { s with heap := h', toks := tk } := fun {σ₁ led' h' tk m' ls₁ av₁ v} q1 q2 p1 I1 hr => by
        subst q1 q2
        exact hO ⟨led', v, p1, I1.ob, I1.nd, hr⟩ h' tk I1.fr.keep (fun q hq => ⟨(I1.nw q hq).1, (I1.nw q hq).2.2⟩) (fun a ha => by obtain ⟨q, hq, e⟩ := List.mem_map.mp ha; exact e ▸ (I1.nw q hq).2.2) trivial
      split at e
      · rename_i v ls2 σ2 e3
        cases e
        refine wpAny_mono (S _ _ _ _ _ _ _ { s with heap := h₁, toks := s.toks + ((ps.map nm).zip vs).length } e3 I' trivial) (fun fl s' q => ?_) fun _ _ q => q.elim
        obtain ⟨m1, led1, h1, tk1, rfl, p1, I1, u, rfl, r1⟩ := q
        exact back rfl rfl p1 I1 r1
      · rename_i ls2 σ2 e3
        cases e
        refine wpAny_mono (S _ _ _ _ _ _ _ { s with heap := h₁, toks := s.toks + ((ps.map nm).zip vs).length } e3 I' trivial) (fun fl s' q => ?_) fun _ _ q => q.elim
        obtain ⟨m1, led1, h1, tk1, rfl, p1, I1, rfl⟩ := q
        exact back rfl rfl p1 I1 rfl
      · cases e
    · cases e
  · cases e
theorem run_ok : ∀ n, CallOk w (runF n) (n + 80) ∧ CtOk w (runF n) (n + 90)
  | 0 => ⟨(fun f as σ av σ' e => by cases e), (fun f as σ av σ' e => by cases e)⟩
  | n + 1 => ⟨run_call H HF (run_ok n).1 (run_ok n).2, run_ct H HF (run_ok n).1 (run_ok n).2⟩
end
end

section
open PySem PySem.W PyProof.Rows PySem.Calls PySem.SeqAt

noncomputable def AllP {α : Type} (P : α → Prop) : List α → Prop
  | [] => True
  | x :: r => P x ∧ AllP P r
theorem AllP.mem {α : Type} {P : α → Prop} : ∀ {l : List α}, AllP P l → ∀ x ∈ l, P x
  | _ :: _, h, _, .head _ => h.1
  | _ :: _, h, _, .tail _ m => AllP.mem h.2 _ m
theorem lookN_mem {α : Type} : ∀ {l : List (Nat × α)} {i : Nat} {v : α}, lookN i l = some v → (i, v) ∈ l
  | p :: r, i, v, h => by
    unfold lookN at h
    split at h
    · rename_i q
      cases h
      rw [← Nat.eq_of_beq_eq_true q]
      exact .head _
    · exact .tail _ (lookN_mem h)
noncomputable def codeS (s : Str) : Nat := s.cps.toList.foldl (fun h c => h * 2000001 + c + 1) 0
noncomputable def dist : List Nat → Bool
  | [] => true
  | x :: r => r.all (fun y => !Nat.beq x y) && dist r
theorem dist_nth : ∀ {l : List Nat} {i j x : Nat}, dist l = true → nth l i = some x → nth l j = some x → i = j
  | y :: r, 0, 0, _, _, _, _ => rfl
  | y :: r, 0, j + 1, x, h, h1, h2 => by
    cases h1
    have := List.all_eq_true.mp (Bool.and_eq_true_iff.mp h).1 _ (nth_mem (l := r) (i := j) h2)
    rw [Nat.beq_refl] at this
    cases this
  | y :: r, i + 1, 0, x, h, h1, h2 => by
    cases h2
    have := List.all_eq_true.mp (Bool.and_eq_true_iff.mp h).1 _ (nth_mem (l := r) (i := i) h1)
    rw [Nat.beq_refl] at this
    cases this
  | y :: r, i + 1, j + 1, x, h, h1, h2 => congrArg (· + 1) (dist_nth (l := r) (Bool.and_eq_true_iff.mp h).2 h1 h2)
theorem codes_are : words.map codeS = [1744004336004328002160000548, 1856004648004580002256000550, 7680026720039696032728016216004812000788, 7424025536037776031208015492004620000771, 1568003936003984002020000509, 872001756001334000454, 108544602113512962274178273217587648791232281720070344011736001168, 14336057856101568101536063200025032006162000860, 217089312771628038061062820229448323169441352864420344092656013758001237, 58880291072649216859520747744446416185008052480009738001063, 57344288768652032870272760512454672188320053384009916001098, 1856004616004532002220000554, 436000660000341, 840001684001262000420, 3392010336012960008628003252000666, 1648004192004288002190000545, 448000670000325, 1792004520004512002222000551, 440000636000329, 440000652000327, 872001732001310000448, 880001768001340000455, 436000640000322, 3584010832013544008956003324000667, 12800052352093600095216060240024308006098000869, 928001800001322000430, 808001604001232000414, 1584004144004308002196000556, 81920451073126145683841677633171360585856210040052832008832000880, 800001648001250000415, 42496209152464896613760532704317904132400038040007190000806, 17664079104158656186432141456072016024604005418000700, 1840004496004448002200000552, 14080056448099136099632062512025004006204000884, 920001828001362000449, 54272273920619520827072722272431648179024050940009518001049, 14208056256098016097776060992024376006108000878, 3392010336012960008584003194000632, 5376018368027024022120010860003208000527, 928001844001344000438, 52736264448597888802624708544429504180824052152009834001091, 3584010608013080008652003230000653, 928001816001366000447, 13440053312093088093136058360023488005918000853, 282625830917493770099724687371501447742787919457490976420232085100011706000973, 12544050368088480088736055680022480005706000834, 491523166217423889154581302291053324628550280770344016648232129028017470001445, 679940706319151134056489036840791582451089350087584834531360634024115256014326001079, 117760641025589506368258355009640576816672290368072192011954001185, 58880291072649216859520747744446416185136052632009814001094, 51712257792580736777280683360411936172392049452009330001047, 25856115968232384272448205456103248034588007466000956, 928001800001326000430, 1840004496004376002126000538, 904001792001310000431, 904001748001300000443, 196000215, 917510418452815913501752848440611370276632057930485635483680868144157160019492001476, 56832281856631424841216737184443376185064052880009888001099, 14336057280099648098608060736023892005880000828, 56832281856631424841216737184443136184608052564009812001089, 928001800001326000446, 13568054912096576096512060072023888005926000835, 3296009936012520008420003200000647, 1920004760004684002308000560, 10752044160079584082016052600021404005426000809, 107520587777465090195458196417540288772624277184069672011682001170, 458754979848918032291860278290166540055046001442242096620880123856016872001421, 6784024064036256030208015124004552000766, 404000640000321, 3392010336012960008612003204000646, 50688256000582144784128692416418656175432050236009376001042, 98304547329382146092546111745492032753456272080068884011638001185, 7168025056037296030800015324004610000777, 24576112256227136267936203216102760034604007460000930, 117760638977577730341378320897613056801552284560070716011728001181, 936001852001368000439, 832001696001294000429, 7168025056037296030744015220004556000773, 896001824001356000450, 3712010880013400008844003300000667, 452000656000326] := by kernel_rfl
theorem codes_dist : dist [1744004336004328002160000548, 1856004648004580002256000550, 7680026720039696032728016216004812000788, 7424025536037776031208015492004620000771, 1568003936003984002020000509, 872001756001334000454, 108544602113512962274178273217587648791232281720070344011736001168, 14336057856101568101536063200025032006162000860, 217089312771628038061062820229448323169441352864420344092656013758001237, 58880291072649216859520747744446416185008052480009738001063, 57344288768652032870272760512454672188320053384009916001098, 1856004616004532002220000554, 436000660000341, 840001684001262000420, 3392010336012960008628003252000666, 1648004192004288002190000545, 448000670000325, 1792004520004512002222000551, 440000636000329, 440000652000327, 872001732001310000448, 880001768001340000455, 436000640000322, 3584010832013544008956003324000667, 12800052352093600095216060240024308006098000869, 928001800001322000430, 808001604001232000414, 1584004144004308002196000556, 81920451073126145683841677633171360585856210040052832008832000880, 800001648001250000415, 42496209152464896613760532704317904132400038040007190000806, 17664079104158656186432141456072016024604005418000700, 1840004496004448002200000552, 14080056448099136099632062512025004006204000884, 920001828001362000449, 54272273920619520827072722272431648179024050940009518001049, 14208056256098016097776060992024376006108000878, 3392010336012960008584003194000632, 5376018368027024022120010860003208000527, 928001844001344000438, 52736264448597888802624708544429504180824052152009834001091, 3584010608013080008652003230000653, 928001816001366000447, 13440053312093088093136058360023488005918000853, 282625830917493770099724687371501447742787919457490976420232085100011706000973, 12544050368088480088736055680022480005706000834, 491523166217423889154581302291053324628550280770344016648232129028017470001445, 679940706319151134056489036840791582451089350087584834531360634024115256014326001079, 117760641025589506368258355009640576816672290368072192011954001185, 58880291072649216859520747744446416185136052632009814001094, 51712257792580736777280683360411936172392049452009330001047, 25856115968232384272448205456103248034588007466000956, 928001800001326000430, 1840004496004376002126000538, 904001792001310000431, 904001748001300000443, 196000215, 917510418452815913501752848440611370276632057930485635483680868144157160019492001476, 56832281856631424841216737184443376185064052880009888001099, 14336057280099648098608060736023892005880000828, 56832281856631424841216737184443136184608052564009812001089, 928001800001326000446, 13568054912096576096512060072023888005926000835, 3296009936012520008420003200000647, 1920004760004684002308000560, 10752044160079584082016052600021404005426000809, 107520587777465090195458196417540288772624277184069672011682001170, 458754979848918032291860278290166540055046001442242096620880123856016872001421, 6784024064036256030208015124004552000766, 404000640000321, 3392010336012960008612003204000646, 50688256000582144784128692416418656175432050236009376001042, 98304547329382146092546111745492032753456272080068884011638001185, 7168025056037296030800015324004610000777, 24576112256227136267936203216102760034604007460000930, 117760638977577730341378320897613056801552284560070716011728001181, 936001852001368000439, 832001696001294000429, 7168025056037296030744015220004556000773, 896001824001356000450, 3712010880013400008844003300000667, 452000656000326] = true := by decide +kernel
theorem words_cps : (words.all fun s => match s.cps.toList with | c :: _ => Nat.blt c 2000000 | [] => false) = true := by kernel_rfl
theorem word_low {i : Nat} {s : Str} (h : nth words i = some s) (k : Nat) : s ≠ ⟨#[2000000 + k]⟩ := fun e => by
  have := List.all_eq_true.mp words_cps s (nth_mem h)
  rw [e] at this
  have := Nat.le_of_ble_eq_true this
  omega
theorem nm_inj (i j : Nat) (h : nm i = nm j) : i = j := by
  unfold nm at h
  cases h1 : nth words i with
  | some s =>
    rw [h1] at h
    cases h2 : nth words j with
    | some t =>
      rw [h2] at h
      have h : s = t := h
      subst h
      have d : dist (words.map codeS) = true := by rw [codes_are]; exact codes_dist
      exact dist_nth d (nth_map codeS h1) (nth_map codeS h2)
    | none =>
      rw [h2] at h
      exact absurd h (word_low h1 j)
  | none =>
    rw [h1] at h
    cases h2 : nth words j with
    | some t =>
      rw [h2] at h
      exact absurd h.symm (word_low h2 i)
    | none =>
      rw [h2] at h
      have h : (⟨#[2000000 + i]⟩ : Str) = ⟨#[2000000 + j]⟩ := h
      simp only [Str.mk.injEq] at h
      have : (#[2000000 + i] : Array Nat)[0]? = (#[2000000 + j] : Array Nat)[0]? := by rw [h]
      simpa using this
theorem words_dbg : (words.all fun s => !(s == ("__debug__" : Str))) = true := by kernel_rfl
theorem nm_dbg (i : Nat) : (nm i == ("__debug__" : Str)) = false := by
  unfold nm
  cases h : nth words i with
  | some s =>
    have := List.all_eq_true.mp words_dbg s (nth_mem h)
    simpa using this
  | none =>
    rw [beq_eq_false_iff_ne]
    intro e
    have e : (⟨#[2000000 + i]⟩ : Str) = "__debug__" := e
    have : (Str.mk #[2000000 + i]).cps.size = 9 := by rw [e]; kernel_rfl
    simp at this
section
variable (w : World)
noncomputable def GOk (p : Nat × AV) : Prop := (∃ b, p.2 = .blt b ∧ nsIn (KF w) mainGlobals (nm p.1) = some none ∧ bootBuiltins (nm p.1) = some (bltVal b) ∧ nm p.1 ≠ "__name__") ∨
    (∃ u, nsIn (KF w) mainGlobals (nm p.1) = some (some u) ∧ ∀ ρ, VR ρ p.2 u)
theorem g_all : AllP (GOk w) glbs :=
  ⟨.inr ⟨.ref 41, by kernel_rfl, fun _ => rfl⟩,
   .inr ⟨.ref 48, by kernel_rfl, fun _ => rfl⟩,
   .inr ⟨.ref 55, by kernel_rfl, fun _ => rfl⟩,
   .inr ⟨.ref 62, by kernel_rfl, fun _ => rfl⟩,
   .inr ⟨.ref 69, by kernel_rfl, fun _ => rfl⟩,
   .inr ⟨.ref 203, by kernel_rfl, fun _ => rfl⟩,
   .inr ⟨.ref 217, by kernel_rfl, fun _ => rfl⟩,
   .inr ⟨.ref 192, by kernel_rfl, fun _ => rfl⟩,
   .inr ⟨.ref 70, by kernel_rfl, fun _ => rfl⟩,
   .inr ⟨_, by rfl, fun _ => ⟨_, rfl⟩⟩,
   .inr ⟨_, by rfl, fun _ => ⟨_, rfl⟩⟩,
   .inr ⟨_, by rfl, fun _ => ⟨_, rfl⟩⟩,
   .inr ⟨_, by rfl, fun _ => ⟨_, rfl⟩⟩,
   .inr ⟨_, by rfl, fun _ => ⟨_, rfl⟩⟩,
   .inl ⟨0, rfl, by kernel_rfl, PySem.boot_len, by decide⟩,
   .inl ⟨1, rfl, by kernel_rfl, PyProof.Rows.boot_min, by decide⟩,
   .inl ⟨2, rfl, by kernel_rfl, PyProof.Rows.boot_max, by decide⟩,
   .inl ⟨3, rfl, by kernel_rfl, boot_list, by decide⟩,
   .inl ⟨4, rfl, by kernel_rfl, PyProof.Rows.boot_bytes, by decide⟩, trivial⟩
noncomputable def KpOk (p : Nat × AV) : Prop := ∀ x, p.2 = .top x → x ≠ 70 → keepIn (KF w) (.ref x) = true
theorem k_all : AllP (KpOk w) glbs :=
  ⟨(fun x e _ => by (cases e; kernel_rfl)),
   (fun x e _ => by (cases e; kernel_rfl)),
   (fun x e _ => by (cases e; kernel_rfl)),
   (fun x e _ => by (cases e; kernel_rfl)),
   (fun x e _ => by (cases e; kernel_rfl)),
   (fun x e _ => by (cases e; kernel_rfl)),
   (fun x e _ => by (cases e; kernel_rfl)),
   (fun x e _ => by (cases e; kernel_rfl)),
   (fun x e h => by (cases e; exact absurd rfl h)),
   (fun x e _ => by cases e),
   (fun x e _ => by cases e),
   (fun x e _ => by cases e),
   (fun x e _ => by cases e),
   (fun x e _ => by cases e),
   (fun x e _ => by cases e),
   (fun x e _ => by cases e),
   (fun x e _ => by cases e),
   (fun x e _ => by cases e),
   (fun x e _ => by cases e), trivial⟩
noncomputable def FdOk (f : Nat) : Prop := ∃ at_, findIn (KF w) (.ref 192) (nm f) = some at_ ∧ noGet (KF w) at_ = true ∧ takerIn (KF w) 192 (nm f) = some none
theorem f_all : AllP (FdOk w) [0, 1, 2, 3, 4, 5, 6, 7, 8, 9, 10] :=
  ⟨⟨none, by kernel_rfl, rfl, by kernel_rfl⟩,
   ⟨none, by kernel_rfl, rfl, by kernel_rfl⟩,
   ⟨none, by kernel_rfl, rfl, by kernel_rfl⟩,
   ⟨none, by kernel_rfl, rfl, by kernel_rfl⟩,
   ⟨none, by kernel_rfl, rfl, by kernel_rfl⟩,
   ⟨none, by kernel_rfl, rfl, by kernel_rfl⟩,
   ⟨none, by kernel_rfl, rfl, by kernel_rfl⟩,
   ⟨none, by kernel_rfl, rfl, by kernel_rfl⟩,
   ⟨none, by kernel_rfl, rfl, by kernel_rfl⟩,
   ⟨none, by kernel_rfl, rfl, by kernel_rfl⟩,
   ⟨none, by kernel_rfl, rfl, by kernel_rfl⟩, trivial⟩
noncomputable def MtOk (p : Nat × Nat) : Prop := (findIn (KF w) (.ref 192) (nm p.1) = some (some (.ref p.2)) ∧ isFn (KF w) (.ref p.2) = true ∧ keepIn (KF w) (.ref p.2) = true) ∧
  ∀ (K : PK) (v0 v1 v2 v3 v4 v5 v6 v7 v8 v9 va : Value), getL (nm p.1) [⟨K.h0, .str "limit" K.k0, v0⟩, ⟨K.h1, .str "state" K.k1, v1⟩, ⟨K.h2, .str "written" K.k2, v2⟩, ⟨K.h3, .str "sent_to" K.k3, v3⟩, ⟨K.h4, .str "acked" K.k4, v4⟩, ⟨K.h5, .str "lost" K.k5, v5⟩,
    ⟨K.h6, .str "is_finished" K.k6, v6⟩, ⟨K.h7, .str "owes_end" K.k7, v7⟩, ⟨K.h8, .str "is_end_acked" K.k8, v8⟩, ⟨K.h9, .str "reset_code" K.k9, v9⟩, ⟨K.ha, .str "owes_reset" K.ka, va⟩] = some none
theorem m_all : AllP (MtOk w) meths :=
  ⟨⟨⟨by kernel_rfl, by kernel_rfl, by kernel_rfl⟩, fun _ _ _ _ _ _ _ _ _ _ _ _ => by rfl⟩,
   ⟨⟨by kernel_rfl, by kernel_rfl, by kernel_rfl⟩, fun _ _ _ _ _ _ _ _ _ _ _ _ => by rfl⟩,
   ⟨⟨by kernel_rfl, by kernel_rfl, by kernel_rfl⟩, fun _ _ _ _ _ _ _ _ _ _ _ _ => by rfl⟩,
   ⟨⟨by kernel_rfl, by kernel_rfl, by kernel_rfl⟩, fun _ _ _ _ _ _ _ _ _ _ _ _ => by rfl⟩,
   ⟨⟨by kernel_rfl, by kernel_rfl, by kernel_rfl⟩, fun _ _ _ _ _ _ _ _ _ _ _ _ => by rfl⟩,
   ⟨⟨by kernel_rfl, by kernel_rfl, by kernel_rfl⟩, fun _ _ _ _ _ _ _ _ _ _ _ _ => by rfl⟩,
   ⟨⟨by kernel_rfl, by kernel_rfl, by kernel_rfl⟩, fun _ _ _ _ _ _ _ _ _ _ _ _ => by rfl⟩,
   ⟨⟨by kernel_rfl, by kernel_rfl, by kernel_rfl⟩, fun _ _ _ _ _ _ _ _ _ _ _ _ => by rfl⟩,
   ⟨⟨by kernel_rfl, by kernel_rfl, by kernel_rfl⟩, fun _ _ _ _ _ _ _ _ _ _ _ _ => by rfl⟩,
   ⟨⟨by kernel_rfl, by kernel_rfl, by kernel_rfl⟩, fun _ _ _ _ _ _ _ _ _ _ _ _ => by rfl⟩,
   ⟨⟨by kernel_rfl, by kernel_rfl, by kernel_rfl⟩, fun _ _ _ _ _ _ _ _ _ _ _ _ => by rfl⟩,
   ⟨⟨by kernel_rfl, by kernel_rfl, by kernel_rfl⟩, fun _ _ _ _ _ _ _ _ _ _ _ _ => by rfl⟩,
   ⟨⟨by kernel_rfl, by kernel_rfl, by kernel_rfl⟩, fun _ _ _ _ _ _ _ _ _ _ _ _ => by rfl⟩,
   ⟨⟨by kernel_rfl, by kernel_rfl, by kernel_rfl⟩, fun _ _ _ _ _ _ _ _ _ _ _ _ => by rfl⟩,
   ⟨⟨by kernel_rfl, by kernel_rfl, by kernel_rfl⟩, fun _ _ _ _ _ _ _ _ _ _ _ _ => by rfl⟩, trivial⟩
theorem stat : Stat w where
  glb := fun g v h => (g_all w).mem _ (lookN_mem h)
  keep := fun g x h hx => (k_all w).mem (g, .top x) (lookN_mem h) x rfl hx
  plain := fun _ => by kernel_rfl
  dict := by kernel_rfl
  fld := fun f h => (f_all w).mem f (by have := Nat.le_of_ble_eq_true h; simp; omega)
  setA := by kernel_rfl
  over := by kernel_rfl
  meth := fun f x h => ((m_all w).mem _ (lookN_mem h)).1
  methF := fun f x h => ((m_all w).mem _ (lookN_mem h)).2
  open70 := ⟨_, _, _, by rfl⟩
  dbg := nm_dbg
  inj := nm_inj
  mkI := by kernel_rfl
  ini := by kernel_rfl
  iniF := by kernel_rfl
end
end

section
open PySem PySem.W PyProof.Rows PySem.Calls PySem.SeqAt

noncomputable def KdAll (cs : Scope) (l : List (Nat × NameKind)) : Prop := AllP (fun p => cs.names.lookup (nm p.1) = some p.2) l
theorem kd_of {cs : Scope} {l : List (Nat × NameKind)} (h : KdAll cs l) : KdOk ⟨fun i => lookN i l, cs⟩ cs := ⟨rfl, fun _ _ e => AllP.mem h _ (lookN_mem e)⟩
theorem all0 {P : List Value → Prop} (h : P []) : ∀ vs : List Value, vs.length = 0 → P vs
  | [], _ => h
theorem allS {n : Nat} {P : List Value → Prop} (h : ∀ a vs, vs.length = n → P (a :: vs)) : ∀ vs : List Value, vs.length = n + 1 → P vs
  | a :: vs, e => h a vs (Nat.succ.inj e)
theorem all1 {P : List Value → Prop} (h : ∀ a, P [a]) : ∀ vs : List Value, vs.length = 1 → P vs := allS fun a => all0 (h a)
theorem all2 {P : List Value → Prop} (h : ∀ a b, P [a, b]) : ∀ vs : List Value, vs.length = 2 → P vs := allS fun a => all1 (h a)
theorem all3 {P : List Value → Prop} (h : ∀ a b c, P [a, b, c]) : ∀ vs : List Value, vs.length = 3 → P vs := allS fun a => all2 (h a)
theorem all4 {P : List Value → Prop} (h : ∀ a b c d, P [a, b, c, d]) : ∀ vs : List Value, vs.length = 4 → P vs := allS fun a => all3 (h a)
theorem FnOk.intro {w : World} {f : Nat} {ps : List Nat} {b : Ss} {name qual : Str} {params : Arguments} {body : List Stmt} {scope : Scope} {dV kV doc pm cdv ct oc : Value} {an od : Option Addr} {osl : Array (Option Value)} (kl : Nat → Option NameKind)
    (lk : (KF w).lookup f = some ⟨oc, od, .func (fnOf name qual params body scope dV kV doc pm an cdv ct), osl⟩) (cd : codeIn (KF w) cdv qual = true)
    (bi : ∀ vs : List Value, vs.length = ps.length → bindArgs (fnOf name qual params body scope dV kV doc pm an cdv ct) ⟨vs, []⟩ = pure ((ps.map nm).zip vs))
    (lo : AllP (fun i => scope.names.lookup (nm i) = some .local) ps) (co : scope.isCoroutine = false) (ge : scope.isGenerator = false) (ki : scope.kind = .function) (ce : ∀ x ∈ scope.names, x.2 ≠ .cell) (nc : kl wPART ≠ some .cell) (hkd : KdOk ⟨kl, scope⟩ scope) (ms : MSs scope ⟨kl, scope⟩ b body) : FnOk w f ps b :=
  ⟨⟨name, qual, params, body, scope, dV, kV, doc, pm, cdv, ct, oc, an, od, osl, ⟨kl, scope⟩, lk, cd, bi, lo.mem, co, ge, ki, ce, nc, hkd, ms⟩⟩
section
variable (w : World)
theorem fn_add_span : FnOk w 41 [11, 12, 13] b_add_span :=
  FnOk.intro (fun i => lookN i [(11, .local), (12, .local), (13, .local), (14, .local), (15, .local), (16, .local), (17, .local), (18, .globalImplicit), (19, .globalImplicit), (20, .globalImplicit)]) rfl (by kernel_rfl) (all3 fun _ _ _ => rfl) ⟨by kernel_rfl, by kernel_rfl, by kernel_rfl, trivial⟩ rfl rfl rfl (by decide) (by decide) (kd_of ⟨by kernel_rfl, by kernel_rfl, by kernel_rfl, by kernel_rfl, by kernel_rfl, by kernel_rfl, by kernel_rfl, by kernel_rfl, by kernel_rfl, by kernel_rfl, trivial⟩)
    (.cons (.iff (.cmp (.loc rfl rfl) (.loc rfl rfl)) (.cons (.ret (.callF rfl rfl (.cons (.loc rfl rfl) .nil))) .nil) .nil) (.cons (.asgW rfl rfl rfl rfl (.tup (.cons (.lst .nil) (.cons .bool .nil))) rfl (fun _ _ _ _ _ => by rfl)) (.cons (.for2 (.cons rfl rfl (.cons rfl rfl .nil)) (.loc rfl rfl) (.cons (.iff (.cmp (.loc rfl rfl) (.loc rfl rfl)) (.cons .opq .nil) (.cons (.iff (.cmp (.loc rfl rfl) (.loc rfl rfl)) (.cons (.iff (.not (.loc (.loc rfl rfl))) (.cons .opq (.cons (.asg rfl rfl .bool rfl) .nil)) .nil) (.cons .opq .nil)) (.cons (.asgW rfl rfl rfl rfl (.tup (.cons (.callF rfl rfl (.cons (.loc rfl rfl) (.cons (.loc rfl rfl) .nil))) (.cons (.callF rfl rfl (.cons (.loc rfl rfl) (.cons (.loc rfl rfl) .nil))) .nil))) rfl (fun _ _ _ _ _ => by rfl)) .nil)) .nil)) .nil)) (.cons (.ret (.ite (.loc (.loc rfl rfl)) (.loc rfl rfl) (.add (.loc rfl rfl) (.lst (.cons (.tup (.cons (.loc rfl rfl) (.cons (.loc rfl rfl) .nil))) .nil))))) .nil))))
theorem fn_cut_span : FnOk w 48 [11, 12, 13] b_cut_span :=
  FnOk.intro (fun i => lookN i [(11, .local), (12, .local), (13, .local), (15, .local), (16, .local), (17, .local), (18, .globalImplicit), (19, .globalImplicit), (20, .globalImplicit)]) rfl (by kernel_rfl) (all3 fun _ _ _ => rfl) ⟨by kernel_rfl, by kernel_rfl, by kernel_rfl, trivial⟩ rfl rfl rfl (by decide) (by decide) (kd_of ⟨by kernel_rfl, by kernel_rfl, by kernel_rfl, by kernel_rfl, by kernel_rfl, by kernel_rfl, by kernel_rfl, by kernel_rfl, by kernel_rfl, trivial⟩)
    (.cons (.asg rfl rfl (.lst .nil) rfl) (.cons (.for2 (.cons rfl rfl (.cons rfl rfl .nil)) (.loc rfl rfl) (.cons (.iff (.cmp (.loc rfl rfl) (.callF rfl rfl (.cons (.loc rfl rfl) (.cons (.loc rfl rfl) .nil)))) (.cons .opq .nil) .nil) (.cons (.iff (.cmp (.callF rfl rfl (.cons (.loc rfl rfl) (.cons (.loc rfl rfl) .nil))) (.loc rfl rfl)) (.cons .opq .nil) .nil) .nil))) (.cons (.ret (.ite (.cmp (.loc rfl rfl) (.loc rfl rfl)) (.loc rfl rfl) (.callF rfl rfl (.cons (.loc rfl rfl) .nil)))) .nil)))
theorem fn_has_span : FnOk w 55 [11, 12, 13] b_has_span :=
  FnOk.intro (fun i => lookN i [(11, .local), (12, .local), (13, .local), (16, .local), (17, .local)]) rfl (by kernel_rfl) (all3 fun _ _ _ => rfl) ⟨by kernel_rfl, by kernel_rfl, by kernel_rfl, trivial⟩ rfl rfl rfl (by decide) (by decide) (kd_of ⟨by kernel_rfl, by kernel_rfl, by kernel_rfl, by kernel_rfl, by kernel_rfl, trivial⟩)
    (.cons (.iff (.cmp (.loc rfl rfl) (.loc rfl rfl)) (.cons (.ret .bool) .nil) .nil) (.cons (.for2 (.cons rfl rfl (.cons rfl rfl .nil)) (.loc rfl rfl) (.cons (.iff (.and (.cons (.cmp (.loc rfl rfl) (.loc rfl rfl)) (.cons (.cmp (.loc rfl rfl) (.loc rfl rfl)) .nil))) (.cons (.ret .bool) .nil) .nil) .nil)) (.cons (.ret .bool) .nil)))
theorem fn_first_span : FnOk w 62 [11, 21] b_first_span :=
  FnOk.intro (fun i => lookN i [(11, .local), (12, .local), (13, .local), (19, .globalImplicit), (21, .local), (22, .globalImplicit)]) rfl (by kernel_rfl) (all2 fun _ _ => rfl) ⟨by kernel_rfl, by kernel_rfl, trivial⟩ rfl rfl rfl (by decide) (by decide) (kd_of ⟨by kernel_rfl, by kernel_rfl, by kernel_rfl, by kernel_rfl, by kernel_rfl, by kernel_rfl, trivial⟩)
    (.cons (.iff (.or (.cons (.cmp (.callF rfl rfl (.cons (.loc rfl rfl) .nil)) (.int rfl)) (.cons (.cmp (.loc rfl rfl) (.int rfl)) .nil))) (.cons (.ret .none) .nil) .nil) (.cons (.asgI (.cons rfl rfl (.cons rfl rfl .nil)) (.idx (.loc rfl rfl) (.int rfl))) (.cons (.ret (.tup (.cons (.loc rfl rfl) (.cons (.callF rfl rfl (.cons (.loc rfl rfl) (.cons (.add (.loc rfl rfl) (.loc rfl rfl)) .nil))) .nil)))) .nil)))
theorem fn_without_spans : FnOk w 69 [11, 23] b_without_spans :=
  FnOk.intro (fun i => lookN i [(11, .local), (12, .local), (13, .local), (15, .local), (20, .globalImplicit), (23, .local), (24, .globalImplicit)]) rfl (by kernel_rfl) (all2 fun _ _ => rfl) ⟨by kernel_rfl, by kernel_rfl, trivial⟩ rfl rfl rfl (by decide) (by decide) (kd_of ⟨by kernel_rfl, by kernel_rfl, by kernel_rfl, by kernel_rfl, by kernel_rfl, by kernel_rfl, by kernel_rfl, trivial⟩)
    (.cons (.asg rfl rfl (.callF rfl rfl (.cons (.loc rfl rfl) .nil)) rfl) (.cons (.for2 (.cons rfl rfl (.cons rfl rfl .nil)) (.loc rfl rfl) (.cons (.asg rfl rfl (.callF rfl rfl (.cons (.loc rfl rfl) (.cons (.loc rfl rfl) (.cons (.loc rfl rfl) .nil)))) rfl) .nil)) (.cons (.ret (.loc rfl rfl)) .nil)))
theorem fn_m_write : FnOk w 91 [25, 26] b_m_write :=
  FnOk.intro (fun i => lookN i [(25, .local), (26, .local), (27, .globalImplicit), (28, .globalImplicit)]) rfl (by kernel_rfl) (all2 fun _ _ => rfl) ⟨by kernel_rfl, by kernel_rfl, trivial⟩ rfl rfl rfl (by decide) (by decide) (kd_of ⟨by kernel_rfl, by kernel_rfl, by kernel_rfl, by kernel_rfl, trivial⟩)
    (.cons (.iff (.or (.cons (.cmp (.attr rfl rfl rfl) (.glb rfl rfl)) (.cons (.attr (.attr rfl rfl rfl)) .nil))) (.cons .opq .nil) .nil) (.cons (.put rfl rfl rfl (.add (.attr rfl rfl rfl) (.callF rfl rfl (.cons (.loc rfl rfl) .nil))) rfl) .nil))
theorem fn_m_finish : FnOk w 98 [25] b_m_finish :=
  FnOk.intro (fun i => lookN i [(25, .local), (28, .globalImplicit)]) rfl (by kernel_rfl) (all1 fun _ => rfl) ⟨by kernel_rfl, trivial⟩ rfl rfl rfl (by decide) (by decide) (kd_of ⟨by kernel_rfl, by kernel_rfl, trivial⟩)
    (.cons (.iff (.cmp (.attr rfl rfl rfl) (.glb rfl rfl)) (.cons .opq .nil) .nil) (.cons (.iff (.not (.attr (.attr rfl rfl rfl))) (.cons (.put rfl rfl rfl .bool rfl) (.cons (.put rfl rfl rfl .bool rfl) .nil)) .nil) .nil))
theorem fn_m_reset : FnOk w 105 [25, 29] b_m_reset :=
  FnOk.intro (fun i => lookN i [(25, .local), (28, .globalImplicit), (29, .local), (30, .globalImplicit), (31, .globalImplicit)]) rfl (by kernel_rfl) (all2 fun _ _ => rfl) ⟨by kernel_rfl, by kernel_rfl, trivial⟩ rfl rfl rfl (by decide) (by decide) (kd_of ⟨by kernel_rfl, by kernel_rfl, by kernel_rfl, by kernel_rfl, by kernel_rfl, trivial⟩)
    (.cons (.iff (.and (.cons (.cmp (.attr rfl rfl rfl) (.glb rfl rfl)) (.cons (.cmp (.attr rfl rfl rfl) (.glb rfl rfl)) .nil))) (.cons (.ret .bool) .nil) .nil) (.cons (.put rfl rfl rfl (.glb rfl rfl) rfl) (.cons (.put rfl rfl rfl (.loc rfl rfl) rfl) (.cons (.put rfl rfl rfl .bool rfl) (.cons (.put rfl rfl rfl (.lst .nil) rfl) (.cons (.put rfl rfl rfl .bool rfl) (.cons (.ret .bool) .nil)))))))
theorem fn_m_on_stop : FnOk w 112 [25, 29] b_m_on_stop :=
  FnOk.intro (fun i => lookN i [(25, .local), (29, .local)]) rfl (by kernel_rfl) (all2 fun _ _ => rfl) ⟨by kernel_rfl, by kernel_rfl, trivial⟩ rfl rfl rfl (by decide) (by decide) (kd_of ⟨by kernel_rfl, by kernel_rfl, trivial⟩)
    (.cons (.ret (.callM rfl rfl rfl (.cons (.loc rfl rfl) .nil) rfl)) .nil)
theorem fn_m_raise_limit : FnOk w 119 [25, 0] b_m_raise_limit :=
  FnOk.intro (fun i => lookN i [(0, .local), (18, .globalImplicit), (25, .local)]) rfl (by kernel_rfl) (all2 fun _ _ => rfl) ⟨by kernel_rfl, by kernel_rfl, trivial⟩ rfl rfl rfl (by decide) (by decide) (kd_of ⟨by kernel_rfl, by kernel_rfl, by kernel_rfl, trivial⟩)
    (.cons (.put rfl rfl rfl (.callF rfl rfl (.cons (.attr rfl rfl rfl) (.cons (.loc rfl rfl) .nil))) rfl) .nil)
theorem fn_m_new_room : FnOk w 126 [25, 33] b_m_new_room :=
  FnOk.intro (fun i => lookN i [(18, .globalImplicit), (19, .globalImplicit), (22, .globalImplicit), (25, .local), (28, .globalImplicit), (33, .local), (34, .local)]) rfl (by kernel_rfl) (all2 fun _ _ => rfl) ⟨by kernel_rfl, by kernel_rfl, trivial⟩ rfl rfl rfl (by decide) (by decide) (kd_of ⟨by kernel_rfl, by kernel_rfl, by kernel_rfl, by kernel_rfl, by kernel_rfl, by kernel_rfl, by kernel_rfl, trivial⟩)
    (.cons (.iff (.cmp (.attr rfl rfl rfl) (.glb rfl rfl)) (.cons (.ret (.int rfl)) .nil) .nil) (.cons (.asg rfl rfl (.sub (.callF rfl rfl (.cons (.callF rfl rfl (.cons (.attr rfl rfl rfl) .nil)) (.cons (.attr rfl rfl rfl) .nil))) (.attr rfl rfl rfl)) rfl) (.cons (.ret (.callF rfl rfl (.cons (.int rfl) (.cons (.ite (.cmp (.loc rfl rfl) .none) (.loc rfl rfl) (.callF rfl rfl (.cons (.loc rfl rfl) (.cons (.loc rfl rfl) .nil)))) .nil)))) .nil)))
theorem fn_m_blocked_at : FnOk w 133 [25] b_m_blocked_at :=
  FnOk.intro (fun i => lookN i [(22, .globalImplicit), (25, .local), (28, .globalImplicit), (35, .local)]) rfl (by kernel_rfl) (all1 fun _ => rfl) ⟨by kernel_rfl, trivial⟩ rfl rfl rfl (by decide) (by decide) (kd_of ⟨by kernel_rfl, by kernel_rfl, by kernel_rfl, by kernel_rfl, trivial⟩)
    (.cons (.asg rfl rfl (.and (.cons (.cmp (.attr rfl rfl rfl) (.glb rfl rfl)) (.cons (.cmp (.attr rfl rfl rfl) (.attr rfl rfl rfl)) (.cons (.cmp (.callF rfl rfl (.cons (.attr rfl rfl rfl) .nil)) (.attr rfl rfl rfl)) .nil)))) rfl) (.cons (.ret (.ite (.loc (.loc rfl rfl)) (.attr rfl rfl rfl) .none)) .nil))
theorem fn_m_has_to_send : FnOk w 140 [25, 33] b_m_has_to_send :=
  FnOk.intro (fun i => lookN i [(22, .globalImplicit), (25, .local), (33, .local)]) rfl (by kernel_rfl) (all2 fun _ _ => rfl) ⟨by kernel_rfl, by kernel_rfl, trivial⟩ rfl rfl rfl (by decide) (by decide) (kd_of ⟨by kernel_rfl, by kernel_rfl, by kernel_rfl, trivial⟩)
    (.cons (.iff (.or (.cons (.attr (.attr rfl rfl rfl)) (.cons (.cmp (.callF rfl rfl (.cons (.attr rfl rfl rfl) .nil)) (.int rfl)) (.cons (.cmp (.callM rfl rfl rfl (.cons (.loc rfl rfl) .nil) rfl) (.int rfl)) .nil)))) (.cons (.ret .bool) .nil) .nil) (.cons (.ret (.and (.cons (.attr rfl rfl rfl) (.cons (.cmp (.attr rfl rfl rfl) (.callF rfl rfl (.cons (.attr rfl rfl rfl) .nil))) .nil)))) .nil))
theorem fn_m_next_chunk : FnOk w 147 [25, 21, 33] b_m_next_chunk :=
  FnOk.intro (fun i => lookN i [(12, .local), (13, .local), (18, .globalImplicit), (19, .globalImplicit), (21, .local), (22, .globalImplicit), (24, .globalImplicit), (25, .local), (28, .globalImplicit), (31, .globalImplicit), (33, .local), (34, .local), (37, .local), (38, .globalImplicit), (39, .local), (40, .globalImplicit)]) rfl (by kernel_rfl) (all3 fun _ _ _ => rfl) ⟨by kernel_rfl, by kernel_rfl, by kernel_rfl, trivial⟩ rfl rfl rfl (by decide) (by decide) (kd_of ⟨by kernel_rfl, by kernel_rfl, by kernel_rfl, by kernel_rfl, by kernel_rfl, by kernel_rfl, by kernel_rfl, by kernel_rfl, by kernel_rfl, by kernel_rfl, by kernel_rfl, by kernel_rfl, by kernel_rfl, by kernel_rfl, by kernel_rfl, by kernel_rfl, trivial⟩)
    (.cons (.iff (.and (.cons (.cmp (.attr rfl rfl rfl) (.glb rfl rfl)) (.cons (.cmp (.attr rfl rfl rfl) (.glb rfl rfl)) .nil))) (.cons (.ret .none) .nil) .nil) (.cons (.asg rfl rfl (.callF rfl rfl (.cons (.attr rfl rfl rfl) (.cons (.loc rfl rfl) .nil))) rfl) (.cons (.iff (.cmp (.loc rfl rfl) .none) (.cons (.asg rfl rfl (.callF rfl rfl (.cons (.loc rfl rfl) (.cons (.callM rfl rfl rfl (.cons (.loc rfl rfl) .nil) rfl) .nil))) rfl) (.cons (.asg rfl rfl (.tup (.cons (.attr rfl rfl rfl) (.cons (.add (.attr rfl rfl rfl) (.callF rfl rfl (.cons (.int rfl) (.cons (.loc rfl rfl) .nil)))) .nil))) rfl) .nil)) .nil) (.cons (.asgL (.cons rfl rfl (.cons rfl rfl .nil)) (.loc rfl rfl)) (.cons (.asg rfl rfl (.and (.cons (.attr rfl rfl rfl) (.cons (.cmp (.loc rfl rfl) (.callF rfl rfl (.cons (.attr rfl rfl rfl) .nil))) (.cons (.or (.cons (.attr rfl rfl rfl) (.cons (.cmp (.loc rfl rfl) (.loc rfl rfl)) .nil))) .nil)))) rfl) (.cons (.iff (.and (.cons (.cmp (.loc rfl rfl) (.loc rfl rfl)) (.cons (.not (.loc (.loc rfl rfl))) .nil))) (.cons (.ret .none) .nil) .nil) (.cons (.put rfl rfl rfl (.callF rfl rfl (.cons (.attr rfl rfl rfl) (.cons (.loc rfl rfl) (.cons (.loc rfl rfl) .nil)))) rfl) (.cons (.put rfl rfl rfl (.callF rfl rfl (.cons (.attr rfl rfl rfl) (.cons (.loc rfl rfl) .nil))) rfl) (.cons (.iff (.loc (.loc rfl rfl)) (.cons (.put rfl rfl rfl .bool rfl) .nil) .nil) (.cons (.put rfl rfl rfl (.ite (.or (.cons (.loc (.loc rfl rfl)) (.cons (.cmp (.attr rfl rfl rfl) (.glb rfl rfl)) .nil))) (.glb rfl rfl) (.glb rfl rfl)) rfl) (.cons (.ret (.tup (.cons (.loc rfl rfl) (.cons (.cut (.attr rfl rfl rfl) (.loc rfl rfl) (.loc rfl rfl)) (.cons (.loc rfl rfl) .nil))))) .nil)))))))))))
theorem fn_m_next_reset : FnOk w 154 [25] b_m_next_reset :=
  FnOk.intro (fun i => lookN i [(25, .local)]) rfl (by kernel_rfl) (all1 fun _ => rfl) ⟨by kernel_rfl, trivial⟩ rfl rfl rfl (by decide) (by decide) (kd_of ⟨by kernel_rfl, trivial⟩)
    (.cons (.iff (.not (.attr (.attr rfl rfl rfl))) (.cons (.ret .none) .nil) .nil) (.cons (.put rfl rfl rfl .bool rfl) (.cons (.ret (.tup (.cons (.attr rfl rfl rfl) (.cons (.attr rfl rfl rfl) .nil)))) .nil)))
theorem fn_m_on_acked : FnOk w 161 [25, 41, 42, 37] b_m_on_acked :=
  FnOk.intro (fun i => lookN i [(22, .globalImplicit), (24, .globalImplicit), (25, .local), (31, .globalImplicit), (37, .local), (41, .local), (42, .local), (43, .globalImplicit), (44, .globalImplicit), (45, .globalImplicit)]) rfl (by kernel_rfl) (all4 fun _ _ _ _ => rfl) ⟨by kernel_rfl, by kernel_rfl, by kernel_rfl, by kernel_rfl, trivial⟩ rfl rfl rfl (by decide) (by decide) (kd_of ⟨by kernel_rfl, by kernel_rfl, by kernel_rfl, by kernel_rfl, by kernel_rfl, by kernel_rfl, by kernel_rfl, by kernel_rfl, by kernel_rfl, by kernel_rfl, trivial⟩)
    (.cons (.put rfl rfl rfl (.callF rfl rfl (.cons (.attr rfl rfl rfl) (.cons (.loc rfl rfl) (.cons (.add (.loc rfl rfl) (.loc rfl rfl)) .nil)))) rfl) (.cons (.put rfl rfl rfl (.callF rfl rfl (.cons (.attr rfl rfl rfl) (.cons (.loc rfl rfl) (.cons (.add (.loc rfl rfl) (.loc rfl rfl)) .nil)))) rfl) (.cons (.iff (.loc (.loc rfl rfl)) (.cons (.put rfl rfl rfl .bool rfl) (.cons (.put rfl rfl rfl .bool rfl) .nil)) .nil) (.cons (.iff (.and (.cons (.cmp (.attr rfl rfl rfl) (.glb rfl rfl)) (.cons (.attr (.attr rfl rfl rfl)) (.cons (.callF (.callF rfl rfl (.cons (.attr rfl rfl rfl) (.cons (.int rfl) (.cons (.callF rfl rfl (.cons (.attr rfl rfl rfl) .nil)) .nil))))) .nil)))) (.cons (.put rfl rfl rfl (.glb rfl rfl) rfl) .nil) .nil) .nil))))
theorem fn_m_on_lost : FnOk w 168 [25, 41, 42, 37] b_m_on_lost :=
  FnOk.intro (fun i => lookN i [(12, .local), (13, .local), (25, .local), (31, .globalImplicit), (37, .local), (38, .globalImplicit), (41, .local), (42, .local), (45, .globalImplicit), (46, .globalImplicit)]) rfl (by kernel_rfl) (all4 fun _ _ _ _ => rfl) ⟨by kernel_rfl, by kernel_rfl, by kernel_rfl, by kernel_rfl, trivial⟩ rfl rfl rfl (by decide) (by decide) (kd_of ⟨by kernel_rfl, by kernel_rfl, by kernel_rfl, by kernel_rfl, by kernel_rfl, by kernel_rfl, by kernel_rfl, by kernel_rfl, by kernel_rfl, by kernel_rfl, trivial⟩)
    (.cons (.iff (.cmp (.attr rfl rfl rfl) (.tup (.cons (.glb rfl rfl) (.cons (.glb rfl rfl) .nil)))) (.cons .retN .nil) .nil) (.cons (.for2 (.cons rfl rfl (.cons rfl rfl .nil)) (.callF rfl rfl (.cons (.ite (.cmp (.loc rfl rfl) (.int rfl)) (.lst (.cons (.tup (.cons (.loc rfl rfl) (.cons (.add (.loc rfl rfl) (.loc rfl rfl)) .nil))) .nil)) (.lst .nil)) (.cons (.attr rfl rfl rfl) .nil))) (.cons (.put rfl rfl rfl (.callF rfl rfl (.cons (.attr rfl rfl rfl) (.cons (.loc rfl rfl) (.cons (.loc rfl rfl) .nil)))) rfl) .nil)) (.cons (.iff (.and (.cons (.loc (.loc rfl rfl)) (.cons (.not (.attr (.attr rfl rfl rfl))) .nil))) (.cons (.put rfl rfl rfl .bool rfl) .nil) .nil) .nil)))
theorem fn_m_on_reset_acked : FnOk w 175 [25] b_m_on_reset_acked :=
  FnOk.intro (fun i => lookN i [(25, .local), (30, .globalImplicit), (47, .globalImplicit)]) rfl (by kernel_rfl) (all1 fun _ => rfl) ⟨by kernel_rfl, trivial⟩ rfl rfl rfl (by decide) (by decide) (kd_of ⟨by kernel_rfl, by kernel_rfl, by kernel_rfl, trivial⟩)
    (.cons (.put rfl rfl rfl .bool rfl) (.cons (.iff (.cmp (.attr rfl rfl rfl) (.glb rfl rfl)) (.cons (.put rfl rfl rfl (.glb rfl rfl) rfl) .nil) .nil) .nil))
theorem fn_m_on_reset_lost : FnOk w 182 [25] b_m_on_reset_lost :=
  FnOk.intro (fun i => lookN i [(25, .local), (30, .globalImplicit)]) rfl (by kernel_rfl) (all1 fun _ => rfl) ⟨by kernel_rfl, trivial⟩ rfl rfl rfl (by decide) (by decide) (kd_of ⟨by kernel_rfl, by kernel_rfl, trivial⟩)
    (.cons (.iff (.cmp (.attr rfl rfl rfl) (.glb rfl rfl)) (.cons (.put rfl rfl rfl .bool rfl) .nil) .nil) .nil)
theorem fn_m_is_over : FnOk w 189 [25] b_m_is_over :=
  FnOk.intro (fun i => lookN i [(25, .local), (44, .globalImplicit), (47, .globalImplicit)]) rfl (by kernel_rfl) (all1 fun _ => rfl) ⟨by kernel_rfl, trivial⟩ rfl rfl rfl (by decide) (by decide) (kd_of ⟨by kernel_rfl, by kernel_rfl, by kernel_rfl, trivial⟩)
    (.cons (.ret (.cmp (.attr rfl rfl rfl) (.tup (.cons (.glb rfl rfl) (.cons (.glb rfl rfl) .nil))))) .nil)
theorem fn_l_states : FnOk w 203 [] b_l_states :=
  FnOk.intro (fun i => lookN i []) rfl (by kernel_rfl) (all0 rfl) trivial rfl rfl rfl (by decide) (by decide) (kd_of trivial)
    (.cons (.ret (.lst (.cons (.str rfl) (.cons (.str rfl) (.cons (.str rfl) (.cons (.str rfl) (.cons (.str rfl) (.cons (.str rfl) .nil)))))))) .nil)
theorem fn_l_made : FnOk w 217 [54] b_l_made :=
  FnOk.intro (fun i => lookN i [(0, .local), (54, .local), (55, .local), (56, .local), (61, .local), (62, .local), (65, .globalImplicit)]) rfl (by kernel_rfl) (all1 fun _ => rfl) ⟨by kernel_rfl, trivial⟩ rfl rfl rfl (by decide) (by decide) (kd_of ⟨by kernel_rfl, by kernel_rfl, by kernel_rfl, by kernel_rfl, by kernel_rfl, by kernel_rfl, by kernel_rfl, trivial⟩)
    (.cons (.asgL (.cons rfl rfl (.cons rfl rfl (.cons rfl rfl (.cons rfl rfl .nil)))) (.loc rfl rfl)) (.cons (.asg rfl rfl (.callF rfl rfl (.cons (.loc rfl rfl) .nil)) rfl) (.cons (.expr (.callM rfl rfl rfl (.cons (.bytes rfl) .nil) rfl) rfl) (.cons (.iff (.loc (.loc rfl rfl)) (.cons (.expr (.callM rfl rfl rfl .nil rfl) rfl) .nil) .nil) (.cons (.iff (.cmp (.loc rfl rfl) (.int rfl)) (.cons (.expr (.callM rfl rfl rfl (.cons (.loc rfl rfl) (.cons .none .nil)) rfl) rfl) .nil) .nil) (.cons (.iff (.cmp (.loc rfl rfl) (.int rfl)) (.cons (.expr (.callM rfl rfl rfl (.cons (.int rfl) (.cons (.int rfl) (.cons .bool .nil))) rfl) rfl) .nil) .nil) (.cons (.iff (.cmp (.loc rfl rfl) (.int rfl)) (.cons (.expr (.callM rfl rfl rfl (.cons (.int rfl) .nil) rfl) rfl) (.cons (.expr (.callM rfl rfl rfl .nil rfl) rfl) .nil)) .nil) (.cons (.iff (.cmp (.loc rfl rfl) (.int rfl)) (.cons (.expr (.callM rfl rfl rfl .nil rfl) rfl) .nil) .nil) (.cons (.ret (.loc rfl rfl)) .nil)))))))))
theorem fn_l_giving_up_right : FnOk w 238 [54] b_l_giving_up_right :=
  FnOk.intro (fun i => lookN i [(0, .local), (19, .globalImplicit), (42, .local), (54, .local), (55, .local), (56, .local), (61, .local), (62, .local), (69, .local), (70, .local), (72, .globalImplicit), (74, .globalImplicit)]) rfl (by kernel_rfl) (all1 fun _ => rfl) ⟨by kernel_rfl, trivial⟩ rfl rfl rfl (by decide) (by decide) (kd_of ⟨by kernel_rfl, by kernel_rfl, by kernel_rfl, by kernel_rfl, by kernel_rfl, by kernel_rfl, by kernel_rfl, by kernel_rfl, by kernel_rfl, by kernel_rfl, by kernel_rfl, by kernel_rfl, trivial⟩)
    (.cons (.asgL (.cons rfl rfl (.cons rfl rfl (.cons rfl rfl (.cons rfl rfl .nil)))) (.loc rfl rfl)) (.cons (.asg rfl rfl (.callF rfl rfl (.cons (.loc rfl rfl) .nil)) rfl) (.cons (.asg rfl rfl (.cmp (.loc rfl rfl) (.int rfl)) rfl) (.cons (.iff (.or (.cons (.cmp (.callM rfl rfl rfl (.cons (.int rfl) .nil) rfl) (.loc rfl rfl)) (.cons (.cmp (.attr rfl rfl rfl) (.ite (.loc (.loc rfl rfl)) (.str rfl) (.idx (.callF rfl rfl .nil) (.loc rfl rfl)))) .nil))) (.cons (.ret .bool) .nil) .nil) (.cons (.asg rfl rfl (.ite (.cmp (.loc rfl rfl) (.int rfl)) (.int rfl) (.callF rfl rfl (.cons (.loc rfl rfl) (.cons (.loc rfl rfl) (.cons (.int rfl) .nil))))) rfl) (.cons (.iff (.or (.cons (.cmp (.attr rfl rfl rfl) (.ite (.loc (.loc rfl rfl)) (.int rfl) (.ite (.cmp (.loc rfl rfl) (.int rfl)) (.int rfl) .none))) (.cons (.cmp (.callM rfl rfl rfl .nil rfl) (.ite (.loc (.loc rfl rfl)) (.tup (.cons (.int rfl) (.cons (.loc rfl rfl) .nil))) .none)) (.cons (.cmp (.callM rfl rfl rfl .nil rfl) .none) .nil)))) (.cons (.ret .bool) .nil) .nil) (.cons (.iff (.or (.cons (.callM (.callM rfl rfl rfl (.cons (.int rfl) .nil) rfl)) (.cons (.cmp (.callM rfl rfl rfl (.cons (.int rfl) (.cons .none .nil)) rfl) .none) (.cons (.cmp (.callM rfl rfl rfl (.cons .none .nil) rfl) (.int rfl)) (.cons (.cmp (.callM rfl rfl rfl .nil rfl) .none) .nil))))) (.cons (.ret .bool) .nil) .nil) (.cons (.expr (.callM rfl rfl rfl .nil rfl) rfl) (.cons (.asg rfl rfl (.ite (.loc (.loc rfl rfl)) (.tup (.cons (.int rfl) (.cons (.loc rfl rfl) .nil))) (.ite (.cmp (.loc rfl rfl) (.int rfl)) (.tup (.cons (.int rfl) (.cons (.loc rfl rfl) .nil))) .none)) rfl) (.cons (.iff (.or (.cons (.cmp (.callM rfl rfl rfl (.cons .none .nil) rfl) (.cmp (.loc rfl rfl) .none)) (.cons (.cmp (.callM rfl rfl rfl .nil rfl) (.loc rfl rfl)) .nil))) (.cons (.ret .bool) .nil) .nil) (.cons (.expr (.callM rfl rfl rfl .nil rfl) rfl) (.cons (.iff (.or (.cons (.cmp (.attr rfl rfl rfl) (.ite (.cmp (.loc rfl rfl) (.int rfl)) (.str rfl) (.str rfl))) (.cons (.not (.callM (.callM rfl rfl rfl .nil rfl))) .nil))) (.cons (.ret .bool) .nil) .nil) (.cons (.expr (.callM rfl rfl rfl .nil rfl) rfl) (.cons (.ret (.and (.cons (.cmp (.callM rfl rfl rfl .nil rfl) .none) (.cons (.not (.callM rfl rfl rfl (.cons .none .nil) rfl)) .nil)))) .nil))))))))))))))
theorem fn_l_chunks_right : FnOk w 250 [54] b_l_chunks_right :=
  FnOk.intro (fun i => lookN i [(0, .local), (13, .local), (19, .globalImplicit), (54, .local), (55, .local), (56, .local), (61, .local), (62, .local), (69, .local), (74, .globalImplicit), (76, .local), (77, .local)]) rfl (by kernel_rfl) (all1 fun _ => rfl) ⟨by kernel_rfl, trivial⟩ rfl rfl rfl (by decide) (by decide) (kd_of ⟨by kernel_rfl, by kernel_rfl, by kernel_rfl, by kernel_rfl, by kernel_rfl, by kernel_rfl, by kernel_rfl, by kernel_rfl, by kernel_rfl, by kernel_rfl, by kernel_rfl, by kernel_rfl, trivial⟩)
    (.cons (.asgL (.cons rfl rfl (.cons rfl rfl (.cons rfl rfl (.cons rfl rfl .nil)))) (.loc rfl rfl)) (.cons (.asg rfl rfl (.callF rfl rfl (.cons (.loc rfl rfl) .nil)) rfl) (.cons (.asg rfl rfl (.ite (.cmp (.loc rfl rfl) (.int rfl)) (.int rfl) (.callF rfl rfl (.cons (.loc rfl rfl) (.cons (.loc rfl rfl) (.cons (.int rfl) .nil))))) rfl) (.cons (.iff (.cmp (.loc rfl rfl) (.int rfl)) (.cons (.expr (.callM rfl rfl rfl (.cons (.int rfl) (.cons (.int rfl) (.cons .bool .nil))) rfl) rfl) (.cons (.iff (.cmp (.callM rfl rfl rfl (.cons (.int rfl) (.cons (.int rfl) .nil)) rfl) (.ite (.cmp (.loc rfl rfl) (.tup (.cons (.int rfl) (.cons (.int rfl) .nil)))) (.tup (.cons (.int rfl) (.cons (.bytes rfl) (.cons .bool .nil)))) .none)) (.cons (.ret .bool) .nil) .nil) .nil)) .nil) (.cons (.asg rfl rfl (.callM rfl rfl rfl (.cons (.int rfl) (.cons .none .nil)) rfl) rfl) (.cons (.iff (.cmp (.loc rfl rfl) (.int rfl)) (.cons (.ret (.cmp (.loc rfl rfl) .none)) .nil) .nil) (.cons (.asg rfl rfl (.callF rfl rfl (.cons (.int rfl) (.cons (.loc rfl rfl) .nil))) rfl) (.cons (.asg rfl rfl (.ite (.cmp (.loc rfl rfl) (.loc rfl rfl)) (.tup (.cons (.loc rfl rfl) (.cons (.cut (.bytes rfl) (.loc rfl rfl) (.loc rfl rfl)) (.cons (.and (.cons (.loc rfl rfl) (.cons (.cmp (.loc rfl rfl) (.int rfl)) .nil))) .nil)))) .none) rfl) (.cons (.iff (.cmp (.loc rfl rfl) (.loc rfl rfl)) (.cons (.ret .bool) .nil) .nil) (.cons (.iff (.not (.loc (.loc rfl rfl))) (.cons (.expr (.callM rfl rfl rfl .nil rfl) rfl) .nil) .nil) (.cons (.expr (.callM rfl rfl rfl (.cons (.int rfl) .nil) rfl) rfl) (.cons (.iff (.and (.cons (.cmp (.loc rfl rfl) (.int rfl)) (.cons (.not (.loc (.loc rfl rfl))) .nil))) (.cons (.ret (.and (.cons (.cmp (.callM rfl rfl rfl (.cons (.int rfl) (.cons (.int rfl) .nil)) rfl) (.tup (.cons (.int rfl) (.cons (.bytes rfl) (.cons .bool .nil))))) (.cons (.cmp (.attr rfl rfl rfl) (.str rfl)) (.cons (.cmp (.callM rfl rfl rfl (.cons (.int rfl) (.cons (.int rfl) .nil)) rfl) .none) .nil))))) .nil) .nil) (.cons (.ret (.or (.cons (.cmp (.loc rfl rfl) (.int rfl)) (.cons (.and (.cons (.cmp (.callM rfl rfl rfl (.cons (.int rfl) (.cons .none .nil)) rfl) (.tup (.cons (.loc rfl rfl) (.cons (.cutN (.bytes rfl) (.loc rfl rfl)) (.cons .bool .nil))))) (.cons (.cmp (.attr rfl rfl rfl) (.str rfl)) .nil))) .nil)))) .nil)))))))))))))
noncomputable def FtOk (p : Nat × List Nat × Ss) : Prop := FnOk w p.1 p.2.1 p.2.2
theorem fn_all : AllP (FtOk w) fnTab := ⟨fn_add_span w, fn_cut_span w, fn_has_span w, fn_first_span w, fn_without_spans w, fn_m_write w, fn_m_finish w, fn_m_reset w, fn_m_on_stop w, fn_m_raise_limit w, fn_m_new_room w, fn_m_blocked_at w, fn_m_has_to_send w, fn_m_next_chunk w, fn_m_next_reset w, fn_m_on_acked w, fn_m_on_lost w, fn_m_on_reset_acked w, fn_m_on_reset_lost w, fn_m_is_over w, fn_l_states w, fn_l_made w, fn_l_giving_up_right w, fn_l_chunks_right w, trivial⟩
theorem fn_ok (f : Nat) (ps : List Nat) (b : Ss) (h : lookN f fnTab = some (ps, b)) : FnOk w f ps b := (fn_all w).mem _ (lookN_mem h)
theorem calls_ok (n : Nat) : CallOk w (runF n) (n + 80) := (run_ok (stat w) (fn_ok w) n).1
theorem cts_ok (n : Nat) : CtOk w (runF n) (n + 90) := (run_ok (stat w) (fn_ok w) n).2
end
end

section
open PySem PySem.W PyProof.Rows PySem.Calls PySem.SeqAt

theorem ct_run (w : World) {f : Nat} {avs : List AV} {vs : List Value} {σ σ' : Mem} {av : AV} {news : List (Addr × Obj)} (e : runF 8 f avs σ = some (av, σ')) (ho : ORs (adr news) σ news) (hl : live σ news = news) (hn : (adr news).Nodup) (hv : VRs (adr news) avs vs) :
    Ct w 98 (.ref f) vs news (Out (adr news) σ' av) (fun z => z.v) (fun z => live σ' z.led) (fun z => adr (live σ' z.led)) (fun _ => True) := by
  have z := cts_ok w 8 f avs σ av σ' e news vs ho (by rw [hl]; exact hn) hv
  rw [hl] at z
  exact z
end

section
open PySem PySem.W PyProof.Rows PySem.Calls PySem.SeqAt

theorem Ct.weakE {w : World} {d d' : Nat} {fv : Value} {vs : List Value} {news : List (Addr × Obj)} {T T' : Type} {val : T → Value} {out : T → List (Addr × Obj)} {fresh : T → List Addr} {fact : T → Prop} {val' : T' → Value} {out' : T' → List (Addr × Obj)} {fresh' : T' → List Addr} {fact' : T' → Prop}
    (C : Ct w d fv vs news T val out fresh fact) (h : ∀ t, fact t → ∃ t', val' t' = val t ∧ (∀ q ∈ out' t', q ∈ out t) ∧ (∀ a ∈ fresh' t', a ∈ fresh t) ∧ fact' t') (hd : d ≤ d') :
    Ct w d' fv vs news T' val' out' fresh' fact' := by
  refine Ct.mk ?_
  intro p loose mean mg mb dp un gd base g env outer s R B kg sz X T N hd' hu hO
  refine C.run p loose mean mg mb dp un gd base g env outer s R B kg sz X T N (by omega) (by omega) fun t h' tk' kp hn hfr hf => ?_
  obtain ⟨t', h1, h2, h3, h4⟩ := h t hf
  have q := hO t' h' tk' kp (fun q hq => hn q (h2 q hq)) (fun a ha => hfr a (h3 a ha)) h4
  rw [h1] at q
  exact q
noncomputable def pB (a l : Nat) (e : Bool) (s : Nat) : Bool := match Nat.beq a 2 || Nat.beq a 3 with
  | true => e && Nat.ble 4 l && Nat.ble 4 s
  | false => match Nat.beq a 1 && e with
    | true => Nat.blt s 4 || Nat.blt l 4
    | false => true
noncomputable def pOk (a l : Nat) (e : Bool) (s : Nat) : Bool := Nat.ble a 5 && (pB a l e s && ([2, 3, 4, 5].contains l && [1, 2, 9].contains s))
noncomputable def PlanF (a lim : Int) (e : Bool) (sent : Int) : Prop := ∃ a' l' s' : Nat, a = .ofNat a' ∧ lim = .ofNat l' ∧ sent = .ofNat s' ∧ pOk a' l' e s' = true
theorem PlanF.lo {a lim sent : Int} {e : Bool} (h : PlanF a lim e sent) : 0 ≤ a := by
  obtain ⟨a', _, _, rfl, _⟩ := h
  exact Int.natCast_nonneg a'
theorem PlanF.hi {a lim sent : Int} {e : Bool} (h : PlanF a lim e sent) : a ≤ 5 := by
  obtain ⟨a', _, _, rfl, _, _, h⟩ := h
  exact Int.ofNat_le.mpr (Nat.le_of_ble_eq_true (Bool.and_eq_true_iff.mp h).1)
noncomputable def imp (a b : Bool) : Bool := match a with
  | true => b
  | false => true
noncomputable def allB (F : Nat → Nat → Bool → Nat → Bool) (a : Nat) : Bool := [2, 3, 4, 5].all fun l => [false, true].all fun e => [1, 2, 9].all fun s => imp (pB a l e s) (F a l e s)
theorem allB_use {F : Nat → Nat → Bool → Nat → Bool} (h : ∀ a, a ≤ 5 → allB F a = true) {a lim sent : Int} {e : Bool} (hP : PlanF a lim e sent) :
    ∃ a' l' s' : Nat, a = .ofNat a' ∧ lim = .ofNat l' ∧ sent = .ofNat s' ∧ F a' l' e s' = true := by
  obtain ⟨a', l', s', q1, q2, q3, q⟩ := hP
  obtain ⟨ha, q⟩ := Bool.and_eq_true_iff.mp q
  obtain ⟨hp, q⟩ := Bool.and_eq_true_iff.mp q
  obtain ⟨hl, hs⟩ := Bool.and_eq_true_iff.mp q
  have h1 := List.all_eq_true.mp (h a' (Nat.le_of_ble_eq_true ha)) l' (List.contains_iff_mem.mp hl)
  have h2 := List.all_eq_true.mp h1 e (by cases e; exact .head _; exact .tail _ (.head _))
  have h3 := List.all_eq_true.mp h2 s' (List.contains_iff_mem.mp hs)
  rw [hp] at h3
  exact ⟨a', l', s', q1, q2, q3, h3⟩
noncomputable abbrev planT (a l : Nat) (e : Bool) (s : Nat) : List AV := [.int (.ofNat a), .int (.ofNat l), .bool e, .int (.ofNat s)]
noncomputable def okB (f a l : Nat) (e : Bool) (s : Nat) : Bool := match runF 8 f [.obj 0] [.tup (planT a l e s)] with
  | some (.bool true, σ) => match nth σ 0 with
    | some (.tup xs) => plainEqs xs (planT a l e s)
    | _ => false
  | _ => false
theorem peq_int {ρ : List Addr} {x : AV} {k : Int} {v : Value} (h : plainEq x (.int k) = true) (hv : VR ρ x v) : ∃ t, v = .int k t := by
  cases x <;> first | cases h | skip
  obtain ⟨t, rfl⟩ := hv
  exact ⟨t, by rw [(Z.eqB_iff _ _).mp h]⟩
theorem peq_bool {ρ : List Addr} {x : AV} {b : Bool} {v : Value} (h : plainEq x (.bool b) = true) (hv : VR ρ x v) : v = .bool b := by
  cases x <;> first | cases h | skip
  cases hv
  have h : sameB _ _ = true := h
  rw [bool_same] at h
  rw [eq_of_beq h]
theorem peqs_cut {ρ : List Addr} {xs ys : List AV} {y : AV} {vs : List Value} (h : plainEqs xs (y :: ys) = true) (hv : VRs ρ xs vs) : ∃ x v xs' vs', vs = v :: vs' ∧ plainEq x y = true ∧ VR ρ x v ∧ plainEqs xs' ys = true ∧ VRs ρ xs' vs' := by
  cases xs with
  | nil => cases h
  | cons x xs =>
    obtain ⟨v, vs, rfl, h1, h2⟩ := hv.cut
    exact ⟨x, v, xs, vs, rfl, (Bool.and_eq_true_iff.mp h).1, h1, (Bool.and_eq_true_iff.mp h).2, h2⟩
theorem plan_back {ρ : List Addr} {xs : List AV} {vs : List Value} {a l s : Nat} {e : Bool} (h : plainEqs xs (planT a l e s) = true) (hv : VRs ρ xs vs) : ∃ t1 t2 t3, vs = [.int (.ofNat a) t1, .int (.ofNat l) t2, .bool e, .int (.ofNat s) t3] := by
  obtain ⟨_, v1, _, vs, rfl, a1, b1, h, hv⟩ := peqs_cut h hv
  obtain ⟨_, v2, _, vs, rfl, a2, b2, h, hv⟩ := peqs_cut h hv
  obtain ⟨_, v3, _, vs, rfl, a3, b3, h, hv⟩ := peqs_cut h hv
  obtain ⟨_, v4, xs, vs, rfl, a4, b4, h, hv⟩ := peqs_cut h hv
  cases xs with
  | cons => cases h
  | nil =>
    cases hv.nil
    obtain ⟨t1, rfl⟩ := peq_int a1 b1
    obtain ⟨t2, rfl⟩ := peq_int a2 b2
    cases peq_bool a3 b3
    obtain ⟨t4, rfl⟩ := peq_int a4 b4
    exact ⟨t1, t2, t4, rfl⟩
section
variable (w : World) (pl : Addr) (t1 t2 t3 : Tok) (n : Nat)
theorem plan_rep (a l s : Nat) (e : Bool) : ORs (adr [(pl, plO (.ofNat a) (.ofNat l) (.ofNat s) e t1 t2 t3 n)]) [.tup (planT a l e s)] [(pl, plO (.ofNat a) (.ofNat l) (.ofNat s) e t1 t2 t3 n)] :=
  .cons ⟨[.int (.ofNat a) t1, .int (.ofNat l) t2, .bool e, .int (.ofNat s) t3], n, ⟨⟨_, rfl⟩, ⟨_, rfl⟩, rfl, ⟨_, rfl⟩, trivial⟩, rfl⟩ .nil
noncomputable abbrev PT := Tok × Tok × Tok × Nat
theorem ok_ct {f a l s : Nat} {e : Bool} (h : okB f a l e s = true) :
    Ct w 100 (.ref f) [.ref pl] [(pl, plO (.ofNat a) (.ofNat l) (.ofNat s) e t1 t2 t3 n)] PT (fun _ => .bool true) (fun z => [(pl, plO (.ofNat a) (.ofNat l) (.ofNat s) e z.1 z.2.1 z.2.2.1 z.2.2.2)]) (fun _ => []) (fun _ => True) := by
  unfold okB at h
  split at h
  · rename_i σ e1
    split at h
    · rename_i xs e2
      refine (ct_run w (vs := [.ref pl]) e1 (plan_rep pl t1 t2 t3 n a l s e) rfl (by simp [adr]) ⟨⟨pl, rfl, rfl⟩, trivial⟩).weakE (fun z _ => ?_) (by decide)
      obtain ⟨q, hq, vs, k, hvs, ho⟩ := z.ob.nth e2
      have hq1 : q.1 = pl := by
        have x1 : nth (adr z.led) 0 = some pl := nth_prefix z.pre rfl
        exact Option.some.inj ((nth_adr hq).symm.trans x1)
      obtain ⟨u1, u2, u3, rfl⟩ := plan_back h hvs
      refine ⟨(u1, u2, u3, k), z.vr.symm, fun p hp => ?_, fun a ha => (nomatch ha), trivial⟩
      rw [List.mem_singleton.mp hp]
      have := live_mem rfl e2 hq
      obtain ⟨q1, q2⟩ := q
      cases hq1
      cases ho
      exact this
    · cases h
  · cases h
end
end

section
open PySem PySem.W PyProof.Rows PySem.Calls PySem.SeqAt
structure FnC (w : World) (f : Nat) (b : Ss) : Prop where
  ok : ∃ (name qual : Str) (params : Arguments) (body : List Stmt) (scope : Scope) (dV kV doc pm cdv ct oc : Value) (an od : Option Addr) (osl : Array (Option Value)) (kd : Kd),
    (KF w).lookup f = some ⟨oc, od, .func (fnOf name qual params body scope dV kV doc pm an cdv ct), osl⟩ ∧ codeIn (KF w) cdv qual = true ∧
    (∀ v : Value, bindArgs (fnOf name qual params body scope dV kV doc pm an cdv ct) ⟨[v], []⟩ = pure [(nm 54, v)]) ∧
    scope.names.lookup (nm 54) = some .local ∧ (∀ l, cellsFrom l scope.names [] = [(nm wPART, l)]) ∧ scope.isCoroutine = false ∧ scope.isGenerator = false ∧ scope.kind = .function ∧ KdOk kd scope ∧ MSs scope kd b body
theorem FnC.intro {w : World} {f : Nat} {b : Ss} {name qual : Str} {params : Arguments} {body : List Stmt} {scope : Scope} {dV kV doc pm cdv ct oc : Value} {an od : Option Addr} {osl : Array (Option Value)} (kl : Nat → Option NameKind)
    (lk : (KF w).lookup f = some ⟨oc, od, .func (fnOf name qual params body scope dV kV doc pm an cdv ct), osl⟩) (cd : codeIn (KF w) cdv qual = true)
    (bi : ∀ v : Value, bindArgs (fnOf name qual params body scope dV kV doc pm an cdv ct) ⟨[v], []⟩ = pure [(nm 54, v)])
    (lo : scope.names.lookup (nm 54) = some .local) (ce : ∀ l, cellsFrom l scope.names [] = [(nm wPART, l)]) (co : scope.isCoroutine = false) (ge : scope.isGenerator = false) (ki : scope.kind = .function) (hkd : KdOk ⟨kl, scope⟩ scope) (ms : MSs scope ⟨kl, scope⟩ b body) : FnC w f b :=
  ⟨⟨name, qual, params, body, scope, dV, kV, doc, pm, cdv, ct, oc, an, od, osl, ⟨kl, scope⟩, lk, cd, bi, lo, ce, co, ge, ki, hkd, ms⟩⟩
theorem fn_room (w : World) : FnC w 243 b_l_room_right :=
  FnC.intro (fun i => lookN i [(0, .local), (19, .globalImplicit), (34, .local), (54, .local), (56, .local), (61, .local), (62, .local), (74, .globalImplicit), (77, .local), (79, .local), (55, .cell)]) rfl (by kernel_rfl) (fun _ => rfl) (by kernel_rfl) (fun _ => by rfl) rfl rfl rfl (kd_of ⟨by kernel_rfl, by kernel_rfl, by kernel_rfl, by kernel_rfl, by kernel_rfl, by kernel_rfl, by kernel_rfl, by kernel_rfl, by kernel_rfl, by kernel_rfl, by kernel_rfl, trivial⟩)
    (.cons (.asgL (.cons rfl rfl (.cons rfl rfl (.cons rfl rfl (.cons rfl rfl .nil)))) (.loc rfl rfl)) (.cons (.asgC rfl (.callF rfl rfl (.cons (.loc rfl rfl) .nil)) rfl) (.cons (.asg rfl rfl (.ite (.cmp (.loc rfl rfl) (.int rfl)) (.int rfl) (.callF rfl rfl (.cons (.loc rfl rfl) (.cons (.loc rfl rfl) (.cons (.int rfl) .nil))))) rfl) (.cons (.asg rfl rfl (.ite (.cmp (.loc rfl rfl) (.int rfl)) (.sub (.callF rfl rfl (.cons (.int rfl) (.cons (.loc rfl rfl) .nil))) (.loc rfl rfl)) (.int rfl)) rfl) (.cons (.iff (.cmp (.comp rfl rfl rfl (by exact ⟨fun _ _ _ _ _ => by with_unfolding_all rfl, by decide, rfl, by decide, rfl, fun _ _ _ _ _ _ => by rfl, fun _ _ _ _ _ _ => by rfl⟩) (.cons .none (.cons (.int rfl) (.cons (.int rfl) (.cons (.int rfl) .nil)))) rfl) (.lst (.cons (.loc rfl rfl) (.cons (.int rfl) (.cons (.callF rfl rfl (.cons (.loc rfl rfl) (.cons (.int rfl) .nil))) (.cons (.loc rfl rfl) .nil)))))) (.cons (.ret .bool) .nil) .nil) (.cons (.iff (.cmp (.celM rfl rfl .nil rfl) (.ite (.and (.cons (.cmp (.loc rfl rfl) (.int rfl)) (.cons (.cmp (.loc rfl rfl) (.loc rfl rfl)) (.cons (.cmp (.loc rfl rfl) (.int rfl)) .nil)))) (.loc rfl rfl) .none)) (.cons (.ret .bool) .nil) .nil) (.cons (.asg rfl rfl (.and (.cons (.loc rfl rfl) (.cons (.cmp (.loc rfl rfl) (.int rfl)) (.cons (.cmp (.loc rfl rfl) (.int rfl)) .nil)))) rfl) (.cons (.ret (.and (.cons (.cmp (.comp rfl rfl rfl (by exact ⟨fun _ _ _ _ _ => by with_unfolding_all rfl, by decide, rfl, by decide, rfl, fun _ _ _ _ _ _ => by rfl, fun _ _ _ _ _ _ => by rfl⟩) (.cons .none (.cons (.int rfl) .nil)) rfl) (.lst (.cons (.or (.cons (.cmp (.loc rfl rfl) (.int rfl)) (.cons (.loc rfl rfl) .nil))) (.cons (.loc rfl rfl) .nil)))) (.cons (.cmp (.celM rfl rfl .nil rfl) (.cmp (.loc rfl rfl) (.tup (.cons (.int rfl) (.cons (.int rfl) .nil))))) .nil)))) .nil))))))))
noncomputable def roomB (a l : Nat) (e : Bool) (s : Nat) : Bool := match exSs (runF 8) b_l_room_right [(54, .obj 0)] [.tup (planT a l e s), .cell none] with
  | some (.ret (.bool true), _, σ) => match nth σ 0 with
    | some (.tup xs) => plainEqs xs (planT a l e s)
    | _ => false
  | _ => false
theorem ct_room (w : World) (pl : Addr) (t1 t2 t3 : Tok) (n : Nat) {a l s : Nat} {e : Bool} (h : roomB a l e s = true) :
    Ct w 100 (.ref 243) [.ref pl] [(pl, plO (.ofNat a) (.ofNat l) (.ofNat s) e t1 t2 t3 n)] PT (fun _ => .bool true) (fun z => [(pl, plO (.ofNat a) (.ofNat l) (.ofNat s) e z.1 z.2.1 z.2.2.1 z.2.2.2)]) (fun _ => []) (fun _ => True) := by
  unfold roomB at h
  split at h
  · rename_i ls1 σ e1
    split at h
    · rename_i xs e2
      refine Ct.mk ?_
      intro p loose mean mg mb dp un gd base g env outer s' R B kg sz X T N hd hu hO
      refine opq fun P' kP => ?_
      obtain ⟨name, qual, params, body, scope, dV, kV, doc, pm, cdv, ct, oc, an, od, osl, kd, g1, g2, g3, g4, gc, g5, g6, g7, g9, ga⟩ := (fn_room w).ok
      refine kP ?_
      refine ct_codeC B kg sz X T N g1 g2 (by show dp < _; omega) (BindsTo.of_eq (g3 (.ref pl))) (by simp only [List.all_cons, List.all_nil]; rw [g4]; rfl) (by rw [gc]; simp) (fun L' h₁ tk cells F' N' Y lt => ?_) g5 g6 g7
      have hcells := gc (L' + 1)
      obtain ⟨co, rfl, hco⟩ := CellsAre.one (hcells ▸ Y)
      have hm : (bindL (envOfC qual scope L' 243 cdv).kindOf [(nm 54, Value.ref pl)] fun _ => none) (nm 54) = some (.ref pl) := by
        simp only [bindL]
        rw [if_pos (show (envOfC qual scope L' 243 cdv).kindOf _ = some .local from g4)]
        exact if_pos rfl
      have hc0 : (bindC (envOfC qual scope L' 243 cdv).kindOf [(nm 54, Value.ref pl)] fun _ => none) (nm wPART) = none := by
        simp only [bindC]
        rw [if_pos (show (envOfC qual scope L' 243 cdv).kindOf _ = some .local from g4)]
      rw [hc0] at hco
      have henv : envOfC qual scope L' 243 cdv = envX qual scope L' 243 cdv [(nm wPART, L' + 1)] := by
        show envX qual scope L' 243 cdv (cellsFrom (L' + 1) scope.names []) = _
        rw [hcells]
      rw [henv]
      have C' : Cx w ((mkA dp un gd env outer).deeper (envX qual scope L' 243 cdv [(nm wPART, L' + 1)])) g (envX qual scope L' 243 cdv [(nm wPART, L' + 1)]) 88 := ⟨⟨_, base, env :: outer, B, Around.frames_deeper rfl⟩, X, ⟨p, loose, mean, mg, mb, T⟩, rfl, by show dp + 1 + _ + _ < _; omega, by show un + 3 + _ + _ < _; omega⟩
      have I' : Inv g L' (bindL (envOfC qual scope L' 243 cdv).kindOf [(nm 54, Value.ref pl)] fun _ => none) [(54, .obj 0)] [.tup (planT a l e s), .cell none] [(pl, plO (.ofNat a) (.ofNat l) (.ofNat s) e t1 t2 t3 n), (L' + 1, co)] h₁ := by
        refine ⟨F', fun q hq => N' q ?_, ?_, .cons ⟨[.int (.ofNat a) t1, .int (.ofNat l) t2, .bool e, .int (.ofNat s) t3], n, ⟨⟨_, rfl⟩, ⟨_, rfl⟩, rfl, ⟨_, rfl⟩, trivial⟩, rfl⟩ (.cons hco .nil), fun i v hi => ?_⟩
        · rcases List.mem_cons.mp hq with rfl | hq
          · exact .tail _ (.head _)
          · cases List.mem_singleton.mp hq; exact .head _
        · have := lt _ (.head _)
          simp only [live, isJ, adr, List.map_cons, List.map_nil, List.nodup_cons, List.mem_singleton, List.not_mem_nil, not_false_eq_true, List.nodup_nil, and_true]
          exact Nat.ne_of_lt (Nat.lt_succ_of_lt this)
        · unfold lookN at hi
          split at hi
          · rename_i q
            cases hi
            rw [← Nat.eq_of_beq_eq_true q]
            exact ⟨_, hm, pl, rfl, rfl⟩
          · cases hi
      have S := (s_all (stat w) (calls_ok w 8) C' (cts_ok w 8) (fun _ => ⟨_, rfl⟩) (by omega) g7 g9 ga).1
      refine wpAny_mono (S _ _ _ _ _ _ _ { s' with heap := h₁, toks := tk } e1 I' ⟨rfl, rfl⟩) (fun fl s2 q => ?_) fun _ _ q => q.elim
      obtain ⟨m1, led1, h1, tk1, rfl, p1, I1, u, rfl, r1⟩ := q
      cases r1
      obtain ⟨q, hq, vs, k, hvs, ho⟩ := I1.ob.nth e2
      have hq1 : q.1 = pl := Option.some.inj ((nth_adr hq).symm.trans (nth_prefix p1 rfl))
      obtain ⟨u1, u2, u3, rfl⟩ := plan_back h hvs
      obtain ⟨q1, q2⟩ := q
      cases hq1
      cases ho
      refine hO (u1, u2, u3, k) h1 tk1 I1.fr.keep (fun p hp => ?_) (fun a ha => nomatch ha) trivial
      rw [List.mem_singleton.mp hp]
      have := I1.nw _ (live_mem rfl e2 hq)
      exact ⟨this.1, this.2.2⟩
    · cases h
  · cases h
end

section
open PySem PySem.W PyProof.Rows PySem.Calls PySem.SeqAt

theorem le5 {P : Nat → Prop} (h0 : P 0) (h1 : P 1) (h2 : P 2) (h3 : P 3) (h4 : P 4) (h5 : P 5) (a : Nat) (h : a ≤ 5) : P a := by
  match a, h with
  | 0, _ => exact h0
  | 1, _ => exact h1
  | 2, _ => exact h2
  | 3, _ => exact h3
  | 4, _ => exact h4
  | 5, _ => exact h5
  | a + 6, h => exact absurd h (by omega)
theorem giv_0 : allB (okB 238) 0 = true := by decide +kernel
theorem giv_1 : allB (okB 238) 1 = true := by decide +kernel
theorem giv_2 : allB (okB 238) 2 = true := by decide +kernel
theorem giv_3 : allB (okB 238) 3 = true := by decide +kernel
theorem giv_4 : allB (okB 238) 4 = true := by decide +kernel
theorem giv_5 : allB (okB 238) 5 = true := by decide +kernel
theorem chk_0 : allB (okB 250) 0 = true := by decide +kernel
theorem chk_1 : allB (okB 250) 1 = true := by decide +kernel
theorem chk_2 : allB (okB 250) 2 = true := by decide +kernel
theorem chk_3 : allB (okB 250) 3 = true := by decide +kernel
theorem chk_4 : allB (okB 250) 4 = true := by decide +kernel
theorem chk_5 : allB (okB 250) 5 = true := by decide +kernel
theorem room_0 : allB roomB 0 = true := by decide +kernel
theorem room_1 : allB roomB 1 = true := by decide +kernel
theorem room_2 : allB roomB 2 = true := by decide +kernel
theorem room_3 : allB roomB 3 = true := by decide +kernel
theorem room_4 : allB roomB 4 = true := by decide +kernel
theorem room_5 : allB roomB 5 = true := by decide +kernel
section
variable (w : World) (pl : Addr) (a lim sent : Int) (e : Bool) (n : Nat) (t1 t2 t3 : Tok) (hP : PlanF a lim e sent)
include hP
theorem giv_all : Ct w 100 (.ref 238) [.ref pl] [(pl, plO a lim sent e t1 t2 t3 n)] PT (fun _ => .bool true) (fun z => [(pl, plO a lim sent e z.1 z.2.1 z.2.2.1 z.2.2.2)]) (fun _ => []) (fun _ => True) := by
  obtain ⟨a', l', s', rfl, rfl, rfl, h⟩ := allB_use (F := okB 238) (le5 giv_0 giv_1 giv_2 giv_3 giv_4 giv_5) hP
  exact ok_ct w pl t1 t2 t3 n h
theorem chk_all : Ct w 100 (.ref 250) [.ref pl] [(pl, plO a lim sent e t1 t2 t3 n)] PT (fun _ => .bool true) (fun z => [(pl, plO a lim sent e z.1 z.2.1 z.2.2.1 z.2.2.2)]) (fun _ => []) (fun _ => True) := by
  obtain ⟨a', l', s', rfl, rfl, rfl, h⟩ := allB_use (F := okB 250) (le5 chk_0 chk_1 chk_2 chk_3 chk_4 chk_5) hP
  exact ok_ct w pl t1 t2 t3 n h
theorem room_all : Ct w 100 (.ref 243) [.ref pl] [(pl, plO a lim sent e t1 t2 t3 n)] PT (fun _ => .bool true) (fun z => [(pl, plO a lim sent e z.1 z.2.1 z.2.2.1 z.2.2.2)]) (fun _ => []) (fun _ => True) := by
  obtain ⟨a', l', s', rfl, rfl, rfl, h⟩ := allB_use (F := roomB) (le5 room_0 room_1 room_2 room_3 room_4 room_5) hP
  exact ct_room w pl t1 t2 t3 n h
end
end

section
open PySem PySem.W PyProof.Rows PySem.Calls PySem.SeqAt

noncomputable def stN (a : Nat) : Nat := match a with
  | 0 => 53
  | 1 => 52
  | 2 => 51
  | 3 => 50
  | 4 => 49
  | _ => 48
noncomputable def isI (k : Int) : AV → Bool
  | .int g => Z.eqB g k
  | _ => false
noncomputable def isG : AV → Bool
  | .int _ => true
  | _ => false
noncomputable def isS (k : Nat) : AV → Bool
  | .str g => Nat.beq g k
  | _ => false
noncomputable def isBy (k : List Nat) : AV → Bool
  | .bytes g => eqN g k
  | _ => false
noncomputable def isBo (k : Bool) : AV → Bool
  | .bool g => sameB g k
  | _ => false
noncomputable def isNo : AV → Bool
  | .none => true
  | _ => false
noncomputable def isO : AV → Bool
  | .obj _ => true
  | _ => false
noncomputable def objN : AV → Option Nat
  | .obj i => some i
  | _ => none
noncomputable def instN : Option AO → Option Nat
  | some (.inst d) => some d
  | _ => none
noncomputable def partN : Option AO → Option (List AV)
  | some (.part d) => some d
  | _ => none
noncomputable def tupN : Option AO → Option (List AV)
  | some (.tup d) => some d
  | _ => none
noncomputable def listN : Option AO → Option (List AV)
  | some (.list d) => some d
  | _ => none
noncomputable def fits : List (AV → Bool) → List AV → Bool
  | [], _ => true
  | p :: ps, [] => false
  | p :: ps, v :: vs => p v && fits ps vs
noncomputable def mdC (a l : Nat) (e : Bool) : Nat → List (AV → Bool) := fun _ =>
  [isI (.ofNat l), isS (stN a), isBy [97, 98, 99, 100], isG, isO, isO, isBo e, isBo (match Nat.blt a 2 with | true => e | false => false), isBo (Nat.beq a 3), match Nat.blt 3 a with | true => isI 7 | false => isNo, isBo false]
noncomputable def mdB (a l : Nat) (e : Bool) (s : Nat) : Bool :=
  ((runF 8 217 [.obj 0] [.tup (planT a l e s)]).any fun q => (objN q.1).any fun x => (instN (nth q.2 x)).any fun d => (partN (nth q.2 d)).any fun vs => ((nth vs 5).bind objN).any fun ll =>
    (tupN (nth q.2 0)).any fun xs => ((listN (nth q.2 ll)).any List.isEmpty && plainEqs xs (planT a l e s)) && fits (mdC a l e s) vs)
theorem md_0 : allB mdB 0 = true := by decide +kernel
theorem md_1 : allB mdB 1 = true := by decide +kernel
theorem md_2 : allB mdB 2 = true := by decide +kernel
theorem md_3 : allB mdB 3 = true := by decide +kernel
theorem md_4 : allB mdB 4 = true := by decide +kernel
theorem md_5 : allB mdB 5 = true := by decide +kernel
end

section
open PySem PySem.W PyProof.Rows PySem.Calls PySem.SeqAt
structure MX1 where
  (K : PK)
  (x dx la ll : Addr)
  (g : Int)
  (n5 n : Nat)
  (t1 t2 t3 u1 u2 u3 u4 : Tok)
  (st : Str)
  (ow ea : Bool)
  (code : Value)
noncomputable abbrev mxO (lim : Int) (e : Bool) (z : MX1) : Obj :=
  pD z.K (.int lim z.u4) (.str z.st z.t1) (.bytes #[97, 98, 99, 100] z.t2) (.int z.g z.t3) (.ref z.la) (.ref z.ll) (.bool e) (.bool z.ow) (.bool z.ea) z.code (.bool false)
noncomputable def MXF (a : Int) (e : Bool) (z : MX1) : Prop := z.st = stOf a ∧ z.ow = owesOf a e ∧ z.ea = eackOf a ∧ ∃ t, z.code = codeOf a t
theorem live_ne {x y : AO} {σ : Mem} {l : List (Addr × Obj)} {i j : Nat} {p q : Addr × Obj} (hn : (adr (live σ l)).Nodup) (hx : isJ x = false) (hy : isJ y = false) (h1 : nth σ i = some x) (h2 : nth σ j = some y) (xy : x ≠ y) (h3 : nth l i = some p) (h4 : nth l j = some q) : Apart p.1 q.1 :=
  fun e => ((live_drop (a := p.1) (o := p.2) hx hn h1 h3).1 q (live_mem hy ((nth_setN_ne (fun z => xy (Option.some.inj (h1.symm.trans ((congrArg (nth σ) z).trans h2)))) ).trans h2) h4)).2 e.symm
theorem stN_is (a : Nat) (h : a ≤ 5) : nm (stN a) = stOf (.ofNat a) := by
  match a, h with
  | 0, _ => rfl
  | 1, _ => rfl
  | 2, _ => rfl
  | 3, _ => rfl
  | 4, _ => rfl
  | 5, _ => rfl
  | a + 6, h => exact absurd h (by omega)
theorem any_get {α : Type} {o : Option α} {p : α → Bool} (h : o.any p = true) : ∃ x, o = some x ∧ p x = true := by
  cases o with
  | none => cases h
  | some x => exact ⟨x, rfl, h⟩
theorem instN_is {o : Option AO} {d : Nat} (h : instN o = some d) : o = some (.inst d) := by
  rcases o with _ | x
  · cases h
  · cases x <;> cases h; rfl
theorem partN_is {o : Option AO} {d : List AV} (h : partN o = some d) : o = some (.part d) := by
  rcases o with _ | x
  · cases h
  · cases x <;> cases h; rfl
theorem tupN_is {o : Option AO} {d : List AV} (h : tupN o = some d) : o = some (.tup d) := by
  rcases o with _ | x
  · cases h
  · cases x <;> cases h; rfl
theorem listN_is {o : Option AO} {d : List AV} (h : listN o = some d) : o = some (.list d) := by
  rcases o with _ | x
  · cases h
  · cases x <;> cases h; rfl
section
variable {ρ : List Addr} {v : AV} {u : Value}
theorem objN_is {d : Nat} (h : objN v = some d) : v = .obj d := by cases v <;> cases h; rfl
theorem objN_at {d : Nat} (h : objN v = some d) (hv : VR ρ v u) : ∃ a, nth ρ d = some a ∧ u = .ref a := by cases objN_is h; exact hv
theorem isI_at {k : Int} (h : isI k v = true) (hv : VR ρ v u) : ∃ t, u = .int k t := by
  cases v <;> first | cases h | skip
  cases (Z.eqB_iff _ _).mp h
  exact hv
theorem isG_at (h : isG v = true) (hv : VR ρ v u) : ∃ k t, u = .int k t := by
  cases v <;> first | cases h | skip
  exact ⟨_, hv⟩
theorem isS_at {k : Nat} (h : isS k v = true) (hv : VR ρ v u) : ∃ t, u = .str (nm k) t := by
  cases v <;> first | cases h | skip
  cases Nat.eq_of_beq_eq_true h
  exact hv
theorem isBo_at {k : Bool} (h : isBo k v = true) (hv : VR ρ v u) : u = .bool k := by
  cases v <;> first | cases h | skip
  cases eq_of_beq ((bool_same _ _).symm.trans h)
  exact hv
theorem isNo_at (h : isNo v = true) (hv : VR ρ v u) : u = .none := by
  cases v <;> first | cases h | skip
  exact hv
theorem isO_at (h : isO v = true) (hv : VR ρ v u) : ∃ a, u = .ref a := by
  cases v <;> first | cases h | skip
  exact hv.imp fun _ z => z.2
theorem fits_cons {p : AV → Bool} {ps : List (AV → Bool)} {vs : List AV} {us : List Value} (h : fits (p :: ps) vs = true) (hv : VRs ρ vs (u :: us)) : ∃ v r, p v = true ∧ VR ρ v u ∧ fits ps r = true ∧ VRs ρ r us := by
  cases vs with
  | nil => cases h
  | cons v r => exact ⟨v, r, (Bool.and_eq_true_iff.mp h).1, hv.1, (Bool.and_eq_true_iff.mp h).2, hv.2⟩
end
theorem owes_is (a : Nat) (e : Bool) : (match Nat.blt a 2 with | true => e | false => false) = owesOf (.ofNat a) e := by
  unfold owesOf
  match a with
  | 0 => rfl
  | 1 => rfl
  | a + 2 => have h : ¬ (Int.ofNat (a + 2) < 2) := by show ¬ (((a + 2 : Nat) : Int) < 2); omega
             rw [if_neg h]; rfl
theorem eack_is (a : Nat) : Nat.beq a 3 = eackOf (.ofNat a) := by
  unfold eackOf
  match a with
  | 0 => rfl
  | 1 => rfl
  | 2 => rfl
  | 3 => rfl
  | a + 4 => have h : ¬ (Int.ofNat (a + 4) = 3) := by show ¬ (((a + 4 : Nat) : Int) = 3); omega
             rw [if_neg h]; rfl
theorem code_at {ρ : List Addr} {v : AV} {u : Value} (a : Nat) (h : (match Nat.blt 3 a with | true => isI 7 | false => isNo) v = true) (hv : VR ρ v u) : ∃ t, u = codeOf (.ofNat a) t := by
  unfold codeOf
  match a with
  | 0 => exact ⟨0, isNo_at h hv⟩
  | 1 => exact ⟨0, isNo_at h hv⟩
  | 2 => exact ⟨0, isNo_at h hv⟩
  | 3 => exact ⟨0, isNo_at h hv⟩
  | a + 4 => have q : (3 : Int) < Int.ofNat (a + 4) := by show (3 : Int) < ((a + 4 : Nat) : Int); omega
             exact (isI_at h hv).imp fun t z => z.trans (if_pos q).symm
structure PartV (a l : Nat) (e : Bool) (v0 v1 v2 v3 v4 v6 v7 v8 v9 va : Value) : Prop where
  h0 : ∃ t, v0 = .int (.ofNat l) t
  h1 : ∃ t, v1 = .str (nm (stN a)) t
  h2 : ∃ t, v2 = .bytes #[97, 98, 99, 100] t
  h3 : ∃ k t, v3 = .int k t
  h4 : ∃ q, v4 = .ref q
  h6 : v6 = .bool e
  h7 : v7 = .bool (owesOf (.ofNat a) e)
  h8 : v8 = .bool (eackOf (.ofNat a))
  h9 : ∃ t, v9 = codeOf (.ofNat a) t
  ha : va = .bool false
theorem isBy_at {ρ : List Addr} {v : AV} {u : Value} (h : isBy [97, 98, 99, 100] v = true) (hv : VR ρ v u) : ∃ t, u = .bytes #[97, 98, 99, 100] t := by
  cases v <;> first | cases h | skip
  cases eqN_is h
  exact hv
theorem fits_use {ρ : List Addr} {a l s : Nat} {e : Bool} {vs : List AV} {v0 v1 v2 v3 v4 v5 v6 v7 v8 v9 va : Value} (h : fits (mdC a l e s) vs = true) (hv : VRs ρ vs [v0, v1, v2, v3, v4, v5, v6, v7, v8, v9, va]) : PartV a l e v0 v1 v2 v3 v4 v6 v7 v8 v9 va := by
  obtain ⟨_, _, a0, b0, h, hv⟩ := fits_cons h hv
  obtain ⟨_, _, a1, b1, h, hv⟩ := fits_cons h hv
  obtain ⟨_, _, a2, b2, h, hv⟩ := fits_cons h hv
  obtain ⟨_, _, a3, b3, h, hv⟩ := fits_cons h hv
  obtain ⟨_, _, a4, b4, h, hv⟩ := fits_cons h hv
  obtain ⟨_, _, _, _, h, hv⟩ := fits_cons h hv
  obtain ⟨_, _, a6, b6, h, hv⟩ := fits_cons h hv
  obtain ⟨_, _, a7, b7, h, hv⟩ := fits_cons h hv
  obtain ⟨_, _, a8, b8, h, hv⟩ := fits_cons h hv
  obtain ⟨_, _, a9, b9, h, hv⟩ := fits_cons h hv
  obtain ⟨_, _, aa, ba, _, _⟩ := fits_cons h hv
  exact ⟨isI_at a0 b0, isS_at a1 b1, isBy_at a2 b2, isG_at a3 b3, isO_at a4 b4, isBo_at a6 b6, (isBo_at a7 b7).trans (congrArg _ (owes_is a e)), (isBo_at a8 b8).trans (congrArg _ (eack_is a)), code_at a a9 b9, isBo_at aa ba⟩
theorem forall4 {α : Type} {P : α → Prop} {a b c d : α} (h1 : P a) (h2 : P b) (h3 : P c) (h4 : P d) : ∀ q ∈ [a, b, c, d], P q :=
  List.forall_mem_cons.mpr ⟨h1, List.forall_mem_cons.mpr ⟨h2, List.forall_mem_cons.mpr ⟨h3, List.forall_mem_singleton.mpr h4⟩⟩⟩
theorem forall3 {α : Type} {P : α → Prop} {a b c : α} (h1 : P a) (h2 : P b) (h3 : P c) : ∀ q ∈ [a, b, c], P q :=
  List.forall_mem_cons.mpr ⟨h1, List.forall_mem_cons.mpr ⟨h2, List.forall_mem_singleton.mpr h3⟩⟩
theorem md_use (w : World) (pl : Addr) (a l s : Nat) (e : Bool) (n : Nat) (t1 t2 t3 : Tok) (ha : a ≤ 5) (h : mdB a l e s = true) :
    Ct w 100 (.ref 217) [.ref pl] [(pl, plO (.ofNat a) (.ofNat l) (.ofNat s) e t1 t2 t3 n)] MX1 (fun z => .ref z.x)
      (fun z => [(pl, plO (.ofNat a) (.ofNat l) (.ofNat s) e z.u1 z.u2 z.u3 z.n), (z.x, instObj 192 z.dx), (z.dx, mxO (.ofNat l) e z), (z.ll, listOf #[] z.n5)])
      (fun z => [z.x, z.dx, z.ll]) (fun z => (Apart pl z.x ∧ Apart pl z.dx ∧ Apart pl z.ll ∧ Apart z.dx z.x ∧ Apart z.dx z.ll ∧ Apart z.x z.ll) ∧ MXF (.ofNat a) e z) := by
  obtain ⟨⟨av, σ⟩, e1, h⟩ := any_get h
  obtain ⟨x, ex, h⟩ := any_get h
  obtain ⟨d, e3, h⟩ := any_get h
  obtain ⟨vs, e4, h⟩ := any_get h
  obtain ⟨ll, e5, h⟩ := any_get h
  obtain ⟨xs, e2, h⟩ := any_get h
  obtain ⟨h, hf⟩ := Bool.and_eq_true_iff.mp h
  obtain ⟨h, b1⟩ := Bool.and_eq_true_iff.mp h
  obtain ⟨ws, e6, h⟩ := any_get h
  cases List.isEmpty_iff.mp h
  replace e3 := instN_is e3
  replace e4 := partN_is e4
  replace e2 := tupN_is e2
  replace e6 := listN_is e6
  obtain ⟨v5', e7, e5⟩ := Option.bind_eq_some_iff.mp e5
  clear h
  refine (ct_run w (vs := [.ref pl]) e1 (plan_rep pl t1 t2 t3 n a l s e) rfl (by simp [adr]) ⟨⟨pl, rfl, rfl⟩, trivial⟩).weakE (fun z _ => ?_) (by decide)
  clear e1
  refine opq fun P' kP => ?_
  obtain ⟨⟨q1, q2⟩, hq, us, c, hvs, rfl⟩ := z.ob.nth e2
  cases Option.some.inj ((nth_adr hq).symm.trans (nth_prefix z.pre rfl))
  obtain ⟨u1, u2, u3, rfl⟩ := plan_back b1 hvs
  obtain ⟨⟨ax, ox⟩, hx, dx, hdx, rfl⟩ := z.ob.nth e3
  obtain ⟨⟨ad, od⟩, hd, K, v0, v1, v2, v3, v4, v5, v6, v7, v8, v9, va, hus, rfl⟩ := z.ob.nth e4
  cases Option.some.inj ((nth_adr hd).symm.trans hdx)
  obtain ⟨⟨al, ol⟩, hl, ws, c5, hws, rfl⟩ := z.ob.nth e6
  cases ws with
  | cons _ _ => exact hws.elim
  | nil =>
  obtain ⟨w5, hw5, h5⟩ := hus.nth e7
  cases Option.some.inj hw5
  obtain ⟨al', hal, rfl⟩ := objN_at e5 h5
  cases Option.some.inj (hal.symm.trans (nth_adr hl))
  obtain ⟨av, hav, hvv⟩ := objN_at ex z.vr
  cases Option.some.inj (hav.symm.trans (nth_adr hx))
  obtain ⟨⟨k0, rfl⟩, ⟨k1, rfl⟩, ⟨k2, rfl⟩, ⟨g, k3, rfl⟩, ⟨ala, rfl⟩, rfl, rfl, rfl, h9, rfl⟩ := fits_use hf hus
  have m1 := live_mem rfl e3 hx
  have m2 := live_mem rfl e4 hd
  have m3 := live_mem rfl e6 hl
  refine kP ?_
  exact ⟨⟨K, ax, ad, ala, al, g, c5, c, k1, k2, k3, u1, u2, u3, k0, nm (stN a), owesOf (.ofNat a) e, eackOf (.ofNat a), v9⟩, hvv.symm, forall4 (live_mem rfl e2 hq) m1 m2 m3,
    forall3 (List.mem_map_of_mem (f := Prod.fst) m1) (List.mem_map_of_mem (f := Prod.fst) m2) (List.mem_map_of_mem (f := Prod.fst) m3),
    ⟨live_ne z.nd rfl rfl e2 e3 (by nofun) hq hx, live_ne z.nd rfl rfl e2 e4 (by nofun) hq hd, live_ne z.nd rfl rfl e2 e6 (by nofun) hq hl, live_ne z.nd rfl rfl e4 e3 (by nofun) hd hx, live_ne z.nd rfl rfl e4 e6 (by nofun) hd hl, live_ne z.nd rfl rfl e3 e6 (by nofun) hx hl⟩,
    stN_is a ha, rfl, rfl, h9⟩
theorem ct_made (w : World) (pl : Addr) (a lim sent : Int) (e : Bool) (n : Nat) (t1 t2 t3 : Tok) (hP : PlanF a lim e sent) :
    Ct w 100 (.ref 217) [.ref pl] [(pl, plO a lim sent e t1 t2 t3 n)] MX1 (fun z => .ref z.x)
      (fun z => [(pl, plO a lim sent e z.u1 z.u2 z.u3 z.n), (z.x, instObj 192 z.dx), (z.dx, mxO lim e z), (z.ll, listOf #[] z.n5)])
      (fun z => [z.x, z.dx, z.ll]) (fun z => (Apart pl z.x ∧ Apart pl z.dx ∧ Apart pl z.ll ∧ Apart z.dx z.x ∧ Apart z.dx z.ll ∧ Apart z.x z.ll) ∧ MXF a e z) := by
  have hi := hP.hi
  obtain ⟨a', l', s', rfl, rfl, rfl, h⟩ := allB_use (F := mdB) (fun a h => by
    match a, h with
    | 0, _ => exact md_0
    | 1, _ => exact md_1
    | 2, _ => exact md_2
    | 3, _ => exact md_3
    | 4, _ => exact md_4
    | 5, _ => exact md_5
    | a + 6, h => exact absurd h (by omega)) hP
  exact md_use w pl a' l' s' e n t1 t2 t3 (by have : (a' : Int) ≤ 5 := hi; omega) h
end

section
open PySem PySem.W PyProof.Rows PySem.Calls

section
variable (w : World) (pl : Addr) (lim sent : Int) (e : Bool) (n : Nat) (t1 t2 t3 : Tok)
noncomputable abbrev MC (w : World) (pl : Addr) (a lim sent : Int) (e : Bool) (n : Nat) (t1 t2 t3 : Tok) (fact : MX1 → Prop) : Prop :=
  Ct w 100 (.ref 217) [.ref pl] [(pl, plO a lim sent e t1 t2 t3 n)] MX1 (fun z => .ref z.x)
      (fun z => [(pl, plO a lim sent e z.u1 z.u2 z.u3 z.n), (z.x, instObj 192 z.dx), (z.dx, mxO lim e z), (z.ll, listOf #[] z.n5)])
      (fun z => [z.x, z.dx, z.ll]) (fun z => (Apart pl z.x ∧ Apart pl z.dx ∧ Apart pl z.ll ∧ Apart z.dx z.x ∧ Apart z.dx z.ll ∧ Apart z.x z.ll) ∧ fact z)
theorem mc_of {a : Int} {fact : MX1 → Prop} (hP : PlanF a lim e sent) (h : ∀ z, MXF a e z → fact z) : MC w pl a lim sent e n t1 t2 t3 fact :=
  (ct_made w pl a lim sent e n t1 t2 t3 hP).weakE (fun z hz => ⟨z, rfl, fun _ h => h, fun _ h => h, hz.1, h z hz.2⟩) (Nat.le_refl _)
theorem ct_mlow (a : Int) (ha : a = 0 ∨ a = 1) (hP : PlanF a lim e sent) : MC w pl a lim sent e n t1 t2 t3 (fun z => (z.st = "ready" ∨ z.st = "send") ∧ z.ow = e ∧ z.ea = false ∧ z.code = .none) :=
  mc_of w pl lim sent e n t1 t2 t3 hP fun z h => by
    obtain ⟨h2, h3, h4, t, h5⟩ := h
    rcases ha with rfl | rfl
    · exact ⟨.inl h2, h3, h4, h5⟩
    · exact ⟨.inr h2, h3, h4, h5⟩
theorem ct_mhigh (a : Int) (ha : 2 ≤ a) (hP : PlanF a lim e sent) : MC w pl a lim sent e n t1 t2 t3 (fun z => (z.st = "data_sent" ∨ z.st = "data_recvd" ∨ z.st = "reset_sent" ∨ z.st = "reset_recvd") ∧ z.ow = false) :=
  mc_of w pl lim sent e n t1 t2 t3 hP fun z h => by
    obtain ⟨h2, h3, h4, t, h5⟩ := h
    have ha : a = 2 ∨ a = 3 ∨ a = 4 ∨ a = 5 := by have := hP.hi; omega
    rcases ha with rfl | rfl | rfl | rfl
    · exact ⟨.inl h2, h3⟩
    · exact ⟨.inr (.inl h2), h3⟩
    · exact ⟨.inr (.inr (.inl h2)), h3⟩
    · exact ⟨.inr (.inr (.inr h2)), h3⟩
end
end

section
open PySem PySem.W PyProof.Rows PySem.Calls
theorem wrhighF (w : World) (pl : Addr) (a : Int) (lim sent : Int) (n : Nat) (t1 t2 t3 : Tok) (ha : 2 ≤ a) (hP : PlanF a lim false sent) (hpl : Apart pl 226) :
    CtW w 130 (.ref 231) [.ref pl] [(pl, plO a lim sent false t1 t2 t3 n), (226, tabObj #[])] (Array Value × Tok × Tok × Tok × Nat) (fun _ => .bool true) (fun z => [(pl, plO a lim sent false z.2.1 z.2.2.1 z.2.2.2.1 z.2.2.2.2), (226, tabObj z.1)]) (fun _ => []) (fun _ => True) := by
  refine CtW.mk ?_
  intro p loose mean mg mb dp un gd base g env outer s R B kg sz X T XB TB HB N hd hu hO
  revert X XB; k_fill; intro X XB
  (k_dflt (refine' ct_codeC ?k1 ?ka ?kb ?k3 ?k5 ?k4 ?k6 ?k7 ?k8 ?k9 ?kB ?kD ?_ ?c2 ?c3 ?c4; (case k1 => assumption); (case ka => assumption); (case kb => assumption); (case k3 => assumption); (case k5 => assumption); (case k4 => assumption); (case k6 => k_is); (case k7 => k_is); (case k8 => k_room); (case k9 => exact BindsTo.of_eq rfl); (case kB => exact rfl); (case kD => decide +kernel); (case c2 => exact rfl); (case c3 => exact rfl); (case c4 => exact rfl); k_whole; intro L' h' tk' cells' F' N' Y' l1; (try k_lt l1); k_cells Y'; (try simp only [List.cons_append, List.nil_append] at N'); (try dsimp only); (try k_fold)))
  k_steps
  repeat (any_goals (refine Stop.mk ?_; first | ((with_reducible show wpAny _ _ (call (Value.ref 217) [Value.ref _]) _ _ _); refine wpAny_call ?_; k_dflt (refine' ct_use (ct_mhigh (ha := ?pha) (hP := ?phP) ..) ?cB ?cF ?cX ?cN ?cT ?cA ?cG ?cK ?cs ?cr ?cd ?cu ?ch ?_; (case cA => exact rfl); (case cG => exact rfl); (case cK => exact rfl); (case cF => k_asm); (case cB => k_asm); (case cX => k_asm); (case cN => k_asm); (case cT => k_asm); (case cs => ((try dsimp only); repeat (first | exact List.forall_mem_nil _ | (refine' memCons ?cta ?_; (case cta => k_mem); (try dsimp only))))); (case pha => first | assumption | omega); (case phP => first | assumption | omega); (case cr => ((try simp only [List.map_cons, List.map_nil]); (repeat ((try ((with_reducible show List _); rotate_left)); first | exact Rst.nil | (refine' Rst.drop' ?ctm ?_; (case ctm => k_mem)) | (refine' Rst.keep ?ctn ?_; (case ctn => (repeat (first | exact List.forall_mem_nil _ | (refine' memCons ?cta ?_; (case cta => k_ne)))))) | (refine' Rst.drop ?_))))); (case cd => k_room); (case cu => (((try simp only [units_in1, units_deeper, units_caller, Around.mark_units, units_make]); first | omega | (simp only [cLine_is]; omega)))); (case ch => (first | assumption | (with_unfolding_all assumption) | exact rfl))); rintro ⟨zK, zx, zd, za, zl, zg, zn, zm, zt1, zt2, zt3, zu1, zu2, zu3, zu4, zst, zow, zea, zco⟩ h' tk' F' N' hX' hY'; (try dsimp only at N' hX' hY'); (try dsimp only); ((obtain ⟨hap9, hst9, hE1⟩ := hY'); subst hE1;  skip); (try simp only [List.cons_append, List.nil_append, List.append_nil] at N'); (try simp only [AllAparts, Aparts, and_true] at hX'); (try k_sweep); (repeat ((rename And _ _ => hAnd9); (have hA9 := hAnd9.1); (have hB9 := hAnd9.2); (clear hAnd9)))) | ((with_reducible show wpAny _ _ (call (Value.ref 224) [Value.ref _]) _ _ _); refine wpAny_call ?_; k_dflt (refine' ctw_use (told_lam (hE := ?phE) (hoc := ?phoc) (hv := ?phv) (hco := ?phco) (hst := ?phst) ..) ?cB ?cF ?cX ?cN ?cT ?cXB ?cTB ?cHB ?cA ?cG ?cK ?cs ?cr ?cd ?cu ?ch ?_; (case cA => exact rfl); (case cG => exact rfl); (case cK => exact rfl); (case cF => k_asm); (case cB => k_asm); (case cX => k_asm); (case cN => k_asm); (case cT => k_asm); (case cXB => k_asm); (case cTB => k_asm); (case cHB => k_asm); (case cs => ((try dsimp only); repeat (first | exact List.forall_mem_nil _ | (refine' memCons ?cta ?_; (case cta => k_mem); (try dsimp only))))); (case phE => exact fun _ => ⟨_, rfl⟩); (case phoc => first | with_reducible assumption | assumption); (case phv => first | with_reducible assumption | assumption); (case phco => first | with_reducible assumption | assumption); (case phst => (repeat' (first | ((try dsimp only); (with_reducible show @Eq Bool _ _); (first | exact rfl | (refine decide_eq_true ?ctc; (case ctc => omega)) | (refine decide_eq_false ?ctc; (case ctc => omega)) | (refine decide_eq_decide.mpr ?ctc; (case ctc => omega)) | (refine (decide_eq_true ?ctc).symm; (case ctc => omega)) | (refine (decide_eq_false ?ctc).symm; (case ctc => omega)) | (refine Bool.eq_iff_iff.mpr ?ctc; (case ctc => ((simp only [decide_eq_true_eq, beq_iff_eq, bne_iff_ne, ne_eq, List.size_toArray, List.length_cons, List.length_nil, true_and, Bool.false_eq_true, false_and, or_false, Bool.or_eq_true, Bool.and_eq_true]); omega))) | (subst_vars; (first | exact rfl | (refine Bool.eq_iff_iff.mpr ?ctc; (case ctc => ((simp only [decide_eq_true_eq, beq_iff_eq, bne_iff_ne, ne_eq, List.size_toArray, List.length_cons, List.length_nil, true_and, Bool.false_eq_true, false_and, or_false, Bool.or_eq_true, Bool.and_eq_true]); omega))) | (simp; done) | (simp; omega))) | (simp; done) | (simp; omega))) | exact True.intro | exact rfl | (intro _; omega) | (intro ctZ; cases ctZ; done) | (dsimp only; done) | ((try dsimp only); first | with_reducible assumption | (refine And.intro ?_ ?_) | (refine Apart.of ?_; k_ne) | exact Or.inl rfl | (refine Or.inr ?_) | exact rfl | omega)))); (case cr => ((try simp only [List.map_cons, List.map_nil]); (repeat ((try ((with_reducible show List _); rotate_left)); first | exact Rst.nil | (refine' Rst.drop' ?ctm ?_; (case ctm => k_mem)) | (refine' Rst.keep ?ctn ?_; (case ctn => (repeat (first | exact List.forall_mem_nil _ | (refine' memCons ?cta ?_; (case cta => k_ne)))))) | (refine' Rst.drop ?_))))); (case cd => k_room); (case cu => (((try simp only [units_in1, units_deeper, units_caller, Around.mark_units, units_make]); first | omega | (simp only [cLine_is]; omega)))); (case ch => (first | assumption | (with_unfolding_all assumption) | exact rfl))); rintro ⟨z1, z2, z3, z4, z5⟩ h' tk' g' KT' F' N' B' X' T' hX' hY'; (try dsimp only at N' hX' hY'); (try dsimp only); (try simp only [List.cons_append, List.nil_append, List.append_nil] at N'); (try simp only [AllAparts, Aparts, and_true] at hX'); (try k_sweep); (repeat ((rename And _ _ => hAnd9); (have hA9 := hAnd9.1); (have hB9 := hAnd9.2); (clear hAnd9)))) | ((with_reducible show wpAny _ _ (call (Value.ref 224) [Value.ref _]) _ _ _); refine wpAny_call ?_; k_dflt (refine' ctw_use (told_metE (hst := ?phst) (hap := ?phap) (h1 := ?ph1) (h2 := ?ph2) ..) ?cB ?cF ?cX ?cN ?cT ?cXB ?cTB ?cHB ?cA ?cG ?cK ?cs ?cr ?cd ?cu ?ch ?_; (case cA => exact rfl); (case cG => exact rfl); (case cK => exact rfl); (case cF => k_asm); (case cB => k_asm); (case cX => k_asm); (case cN => k_asm); (case cT => k_asm); (case cXB => k_asm); (case cTB => k_asm); (case cHB => k_asm); (case cs => ((try dsimp only); repeat (first | exact List.forall_mem_nil _ | (refine' memCons ?cta ?_; (case cta => k_mem); (try dsimp only))))); (case phst => (repeat' (first | ((try dsimp only); (with_reducible show @Eq Bool _ _); (first | exact rfl | (refine decide_eq_true ?ctc; (case ctc => omega)) | (refine decide_eq_false ?ctc; (case ctc => omega)) | (refine decide_eq_decide.mpr ?ctc; (case ctc => omega)) | (refine (decide_eq_true ?ctc).symm; (case ctc => omega)) | (refine (decide_eq_false ?ctc).symm; (case ctc => omega)) | (refine Bool.eq_iff_iff.mpr ?ctc; (case ctc => ((simp only [decide_eq_true_eq, beq_iff_eq, bne_iff_ne, ne_eq, List.size_toArray, List.length_cons, List.length_nil, true_and, Bool.false_eq_true, false_and, or_false, Bool.or_eq_true, Bool.and_eq_true]); omega))) | (subst_vars; (first | exact rfl | (refine Bool.eq_iff_iff.mpr ?ctc; (case ctc => ((simp only [decide_eq_true_eq, beq_iff_eq, bne_iff_ne, ne_eq, List.size_toArray, List.length_cons, List.length_nil, true_and, Bool.false_eq_true, false_and, or_false, Bool.or_eq_true, Bool.and_eq_true]); omega))) | (simp; done) | (simp; omega))) | (simp; done) | (simp; omega))) | exact True.intro | exact rfl | (intro _; omega) | (intro ctZ; cases ctZ; done) | (dsimp only; done) | ((try dsimp only); first | with_reducible assumption | (refine And.intro ?_ ?_) | (refine Apart.of ?_; k_ne) | exact Or.inl rfl | (refine Or.inr ?_) | exact rfl | omega)))); (case phap => (repeat' (first | ((try dsimp only); (with_reducible show @Eq Bool _ _); (first | exact rfl | (refine decide_eq_true ?ctc; (case ctc => omega)) | (refine decide_eq_false ?ctc; (case ctc => omega)) | (refine decide_eq_decide.mpr ?ctc; (case ctc => omega)) | (refine (decide_eq_true ?ctc).symm; (case ctc => omega)) | (refine (decide_eq_false ?ctc).symm; (case ctc => omega)) | (refine Bool.eq_iff_iff.mpr ?ctc; (case ctc => ((simp only [decide_eq_true_eq, beq_iff_eq, bne_iff_ne, ne_eq, List.size_toArray, List.length_cons, List.length_nil, true_and, Bool.false_eq_true, false_and, or_false, Bool.or_eq_true, Bool.and_eq_true]); omega))) | (subst_vars; (first | exact rfl | (refine Bool.eq_iff_iff.mpr ?ctc; (case ctc => ((simp only [decide_eq_true_eq, beq_iff_eq, bne_iff_ne, ne_eq, List.size_toArray, List.length_cons, List.length_nil, true_and, Bool.false_eq_true, false_and, or_false, Bool.or_eq_true, Bool.and_eq_true]); omega))) | (simp; done) | (simp; omega))) | (simp; done) | (simp; omega))) | exact True.intro | exact rfl | (intro _; omega) | (intro ctZ; cases ctZ; done) | (dsimp only; done) | ((try dsimp only); first | with_reducible assumption | (refine And.intro ?_ ?_) | (refine Apart.of ?_; k_ne) | exact Or.inl rfl | (refine Or.inr ?_) | exact rfl | omega)))); (case ph1 => (repeat' (first | ((try dsimp only); (with_reducible show @Eq Bool _ _); (first | exact rfl | (refine decide_eq_true ?ctc; (case ctc => omega)) | (refine decide_eq_false ?ctc; (case ctc => omega)) | (refine decide_eq_decide.mpr ?ctc; (case ctc => omega)) | (refine (decide_eq_true ?ctc).symm; (case ctc => omega)) | (refine (decide_eq_false ?ctc).symm; (case ctc => omega)) | (refine Bool.eq_iff_iff.mpr ?ctc; (case ctc => ((simp only [decide_eq_true_eq, beq_iff_eq, bne_iff_ne, ne_eq, List.size_toArray, List.length_cons, List.length_nil, true_and, Bool.false_eq_true, false_and, or_false, Bool.or_eq_true, Bool.and_eq_true]); omega))) | (subst_vars; (first | exact rfl | (refine Bool.eq_iff_iff.mpr ?ctc; (case ctc => ((simp only [decide_eq_true_eq, beq_iff_eq, bne_iff_ne, ne_eq, List.size_toArray, List.length_cons, List.length_nil, true_and, Bool.false_eq_true, false_and, or_false, Bool.or_eq_true, Bool.and_eq_true]); omega))) | (simp; done) | (simp; omega))) | (simp; done) | (simp; omega))) | exact True.intro | exact rfl | (intro _; omega) | (intro ctZ; cases ctZ; done) | (dsimp only; done) | ((try dsimp only); first | with_reducible assumption | (refine And.intro ?_ ?_) | (refine Apart.of ?_; k_ne) | exact Or.inl rfl | (refine Or.inr ?_) | exact rfl | omega)))); (case ph2 => (repeat' (first | ((try dsimp only); (with_reducible show @Eq Bool _ _); (first | exact rfl | (refine decide_eq_true ?ctc; (case ctc => omega)) | (refine decide_eq_false ?ctc; (case ctc => omega)) | (refine decide_eq_decide.mpr ?ctc; (case ctc => omega)) | (refine (decide_eq_true ?ctc).symm; (case ctc => omega)) | (refine (decide_eq_false ?ctc).symm; (case ctc => omega)) | (refine Bool.eq_iff_iff.mpr ?ctc; (case ctc => ((simp only [decide_eq_true_eq, beq_iff_eq, bne_iff_ne, ne_eq, List.size_toArray, List.length_cons, List.length_nil, true_and, Bool.false_eq_true, false_and, or_false, Bool.or_eq_true, Bool.and_eq_true]); omega))) | (subst_vars; (first | exact rfl | (refine Bool.eq_iff_iff.mpr ?ctc; (case ctc => ((simp only [decide_eq_true_eq, beq_iff_eq, bne_iff_ne, ne_eq, List.size_toArray, List.length_cons, List.length_nil, true_and, Bool.false_eq_true, false_and, or_false, Bool.or_eq_true, Bool.and_eq_true]); omega))) | (simp; done) | (simp; omega))) | (simp; done) | (simp; omega))) | exact True.intro | exact rfl | (intro _; omega) | (intro ctZ; cases ctZ; done) | (dsimp only; done) | ((try dsimp only); first | with_reducible assumption | (refine And.intro ?_ ?_) | (refine Apart.of ?_; k_ne) | exact Or.inl rfl | (refine Or.inr ?_) | exact rfl | omega)))); (case cr => ((try simp only [List.map_cons, List.map_nil]); (repeat ((try ((with_reducible show List _); rotate_left)); first | exact Rst.nil | (refine' Rst.drop' ?ctm ?_; (case ctm => k_mem)) | (refine' Rst.keep ?ctn ?_; (case ctn => (repeat (first | exact List.forall_mem_nil _ | (refine' memCons ?cta ?_; (case cta => k_ne)))))) | (refine' Rst.drop ?_))))); (case cd => k_room); (case cu => (((try simp only [units_in1, units_deeper, units_caller, Around.mark_units, units_make]); first | omega | (simp only [cLine_is]; omega)))); (case ch => (first | assumption | (with_unfolding_all assumption) | exact rfl))); rintro ⟨z1, z2, z3, z4, z5⟩ h' tk' g' KT' F' N' B' X' T' hX' hY'; (try dsimp only at N' hX' hY'); (try dsimp only); (try simp only [List.cons_append, List.nil_append, List.append_nil] at N'); (try simp only [AllAparts, Aparts, and_true] at hX'); (try k_sweep); (repeat ((rename And _ _ => hAnd9); (have hA9 := hAnd9.1); (have hB9 := hAnd9.2); (clear hAnd9)))) | ((with_reducible show wpAny _ _ (getAttr (Value.ref _) (Str.ofString "code") _) _ _ _); k_dflt (refine' exc_code ?Fz0 ?Xz0 ?Nz0 ?mz0 ?m2z0 ?cz0 ?dz0 ?vz0 ?qz0 ?_; (case Fz0 => k_asm); (case Xz0 => k_asm); (case Nz0 => k_asm); (case cz0 => with_reducible assumption); (case dz0 => with_reducible assumption); (case vz0 => with_reducible assumption); (case qz0 => with_reducible assumption); (case mz0 => k_mem); (case m2z0 => k_mem)); intro t') | ((with_reducible show wpAny _ _ (getAttr (Value.ref _) (Str.ofString "frame_type") _) _ _ _); k_dflt (refine' exc_frame ?Fz1 ?Xz1 ?Nz1 ?mz1 ?m2z1 ?cz1 ?dz1 ?vz1 ?qz1 ?_; (case Fz1 => k_asm); (case Xz1 => k_asm); (case Nz1 => k_asm); (case cz1 => with_reducible assumption); (case dz1 => with_reducible assumption); (case vz1 => with_reducible assumption); (case qz1 => with_reducible assumption); (case mz1 => k_mem); (case m2z1 => k_mem)); intro t') | (k_dflt (refine' caught_Q ?Kz2 ?hnz2 ?haz2 ?Rz2 ?XBz2 ?TBz2 ?exz2 ?_ ?h1z2 ?h2z2 ?h3z2 ?h4z2; (case Rz2 => with_reducible assumption); (case Kz2 => k_asm); (case hnz2 => with_reducible assumption); (case haz2 => exact Fr.above (by k_asm)); (case XBz2 => with_reducible assumption); (case TBz2 => with_reducible assumption); (case exz2 => k_is); (case h1z2 => exact rfl); (case h2z2 => exact rfl); (case h3z2 => exact rfl); (case h4z2 => decide)); intro h' g' oe' vs' tk' KT' F' N' hc' hd' hv' B' X' T')); (try k_steps))
  all_goals try dsimp only
  all_goals (refine' fin_bool ?cE ?cH; (case cH => (refine' ctw_fin ?cT ?cF ?cN ?cS ?cR ?cA (hO (⟨_, _, _, _, _⟩) _ _); (case cF => k_asm); (case cN => k_asm); (case cT => (repeat (first | with_reducible assumption | exact KtsTurn.refl | (refine' KtsTurn.trans ?cta ?_; (case cta => with_reducible assumption))))); (case cS => ((try dsimp only); repeat (first | exact List.forall_mem_nil _ | (refine' memCons ?cta ?_; (case cta => k_mem); (try dsimp only))))); (case cR => ((try dsimp only); repeat (first | exact List.forall_mem_nil _ | (intro ctA ctH; cases ctH; done) | (refine' memCons ⟨_, ?cta⟩ ?_; (case cta => k_mem); (try dsimp only))))); (case cA => (repeat' (first | ((try dsimp only); (with_reducible show @Eq Bool _ _); (first | exact rfl | (refine decide_eq_true ?ctc; (case ctc => omega)) | (refine decide_eq_false ?ctc; (case ctc => omega)) | (refine decide_eq_decide.mpr ?ctc; (case ctc => omega)) | (refine (decide_eq_true ?ctc).symm; (case ctc => omega)) | (refine (decide_eq_false ?ctc).symm; (case ctc => omega)) | (refine Bool.eq_iff_iff.mpr ?ctc; (case ctc => ((simp only [decide_eq_true_eq, beq_iff_eq, bne_iff_ne, ne_eq, List.size_toArray, List.length_cons, List.length_nil, true_and, Bool.false_eq_true, false_and, or_false, Bool.or_eq_true, Bool.and_eq_true]); omega))) | (subst_vars; (first | exact rfl | (refine Bool.eq_iff_iff.mpr ?ctc; (case ctc => ((simp only [decide_eq_true_eq, beq_iff_eq, bne_iff_ne, ne_eq, List.size_toArray, List.length_cons, List.length_nil, true_and, Bool.false_eq_true, false_and, or_false, Bool.or_eq_true, Bool.and_eq_true]); omega))) | (simp; done) | (simp; omega))) | (simp; done) | (simp; omega))) | exact True.intro | exact rfl | (intro _; omega) | (intro ctZ; cases ctZ; done) | (dsimp only; done) | ((try dsimp only); first | with_reducible assumption | (refine And.intro ?_ ?_) | (refine Apart.of ?_; k_ne) | exact Or.inl rfl | (refine Or.inr ?_) | exact rfl | omega)))))); (case cE => (first | exact rfl | (refine decide_eq_true ?ctc; (case ctc => omega)) | (refine decide_eq_false ?ctc; (case ctc => omega)) | (refine decide_eq_decide.mpr ?ctc; (case ctc => omega)) | (refine (decide_eq_true ?ctc).symm; (case ctc => omega)) | (refine (decide_eq_false ?ctc).symm; (case ctc => omega)) | (refine Bool.eq_iff_iff.mpr ?ctc; (case ctc => ((simp only [decide_eq_true_eq, beq_iff_eq, bne_iff_ne, ne_eq, List.size_toArray, List.length_cons, List.length_nil, true_and, Bool.false_eq_true, false_and, or_false, Bool.or_eq_true, Bool.and_eq_true]); omega))) | (subst_vars; (first | exact rfl | (refine Bool.eq_iff_iff.mpr ?ctc; (case ctc => ((simp only [decide_eq_true_eq, beq_iff_eq, bne_iff_ne, ne_eq, List.size_toArray, List.length_cons, List.length_nil, true_and, Bool.false_eq_true, false_and, or_false, Bool.or_eq_true, Bool.and_eq_true]); omega))) | (simp; done) | (simp; omega))) | (simp; done) | (simp; omega))))
theorem wrhighT (w : World) (pl : Addr) (a : Int) (lim sent : Int) (n : Nat) (t1 t2 t3 : Tok) (ha : 2 ≤ a) (hP : PlanF a lim true sent) (hpl : Apart pl 226) :
    CtW w 130 (.ref 231) [.ref pl] [(pl, plO a lim sent true t1 t2 t3 n), (226, tabObj #[])] (Array Value × Tok × Tok × Tok × Nat) (fun _ => .bool true) (fun z => [(pl, plO a lim sent true z.2.1 z.2.2.1 z.2.2.2.1 z.2.2.2.2), (226, tabObj z.1)]) (fun _ => []) (fun _ => True) := by
  refine CtW.mk ?_
  intro p loose mean mg mb dp un gd base g env outer s R B kg sz X T XB TB HB N hd hu hO
  revert X XB; k_fill; intro X XB
  (k_dflt (refine' ct_codeC ?k1 ?ka ?kb ?k3 ?k5 ?k4 ?k6 ?k7 ?k8 ?k9 ?kB ?kD ?_ ?c2 ?c3 ?c4; (case k1 => assumption); (case ka => assumption); (case kb => assumption); (case k3 => assumption); (case k5 => assumption); (case k4 => assumption); (case k6 => k_is); (case k7 => k_is); (case k8 => k_room); (case k9 => exact BindsTo.of_eq rfl); (case kB => exact rfl); (case kD => decide +kernel); (case c2 => exact rfl); (case c3 => exact rfl); (case c4 => exact rfl); k_whole; intro L' h' tk' cells' F' N' Y' l1; (try k_lt l1); k_cells Y'; (try simp only [List.cons_append, List.nil_append] at N'); (try dsimp only); (try k_fold)))
  k_steps
  repeat (any_goals (refine Stop.mk ?_; first | ((with_reducible show wpAny _ _ (call (Value.ref 217) [Value.ref _]) _ _ _); refine wpAny_call ?_; k_dflt (refine' ct_use (ct_mhigh (ha := ?pha) (hP := ?phP) ..) ?cB ?cF ?cX ?cN ?cT ?cA ?cG ?cK ?cs ?cr ?cd ?cu ?ch ?_; (case cA => exact rfl); (case cG => exact rfl); (case cK => exact rfl); (case cF => k_asm); (case cB => k_asm); (case cX => k_asm); (case cN => k_asm); (case cT => k_asm); (case cs => ((try dsimp only); repeat (first | exact List.forall_mem_nil _ | (refine' memCons ?cta ?_; (case cta => k_mem); (try dsimp only))))); (case pha => first | assumption | omega); (case phP => first | assumption | omega); (case cr => ((try simp only [List.map_cons, List.map_nil]); (repeat ((try ((with_reducible show List _); rotate_left)); first | exact Rst.nil | (refine' Rst.drop' ?ctm ?_; (case ctm => k_mem)) | (refine' Rst.keep ?ctn ?_; (case ctn => (repeat (first | exact List.forall_mem_nil _ | (refine' memCons ?cta ?_; (case cta => k_ne)))))) | (refine' Rst.drop ?_))))); (case cd => k_room); (case cu => (((try simp only [units_in1, units_deeper, units_caller, Around.mark_units, units_make]); first | omega | (simp only [cLine_is]; omega)))); (case ch => (first | assumption | (with_unfolding_all assumption) | exact rfl))); rintro ⟨zK, zx, zd, za, zl, zg, zn, zm, zt1, zt2, zt3, zu1, zu2, zu3, zu4, zst, zow, zea, zco⟩ h' tk' F' N' hX' hY'; (try dsimp only at N' hX' hY'); (try dsimp only); ((obtain ⟨hap9, hst9, hE1⟩ := hY'); subst hE1;  skip); (try simp only [List.cons_append, List.nil_append, List.append_nil] at N'); (try simp only [AllAparts, Aparts, and_true] at hX'); (try k_sweep); (repeat ((rename And _ _ => hAnd9); (have hA9 := hAnd9.1); (have hB9 := hAnd9.2); (clear hAnd9)))) | ((with_reducible show wpAny _ _ (call (Value.ref 224) [Value.ref _]) _ _ _); refine wpAny_call ?_; k_dflt (refine' ctw_use (told_lam (hE := ?phE) (hoc := ?phoc) (hv := ?phv) (hco := ?phco) (hst := ?phst) ..) ?cB ?cF ?cX ?cN ?cT ?cXB ?cTB ?cHB ?cA ?cG ?cK ?cs ?cr ?cd ?cu ?ch ?_; (case cA => exact rfl); (case cG => exact rfl); (case cK => exact rfl); (case cF => k_asm); (case cB => k_asm); (case cX => k_asm); (case cN => k_asm); (case cT => k_asm); (case cXB => k_asm); (case cTB => k_asm); (case cHB => k_asm); (case cs => ((try dsimp only); repeat (first | exact List.forall_mem_nil _ | (refine' memCons ?cta ?_; (case cta => k_mem); (try dsimp only))))); (case phE => exact fun _ => ⟨_, rfl⟩); (case phoc => first | with_reducible assumption | assumption); (case phv => first | with_reducible assumption | assumption); (case phco => first | with_reducible assumption | assumption); (case phst => (repeat' (first | ((try dsimp only); (with_reducible show @Eq Bool _ _); (first | exact rfl | (refine decide_eq_true ?ctc; (case ctc => omega)) | (refine decide_eq_false ?ctc; (case ctc => omega)) | (refine decide_eq_decide.mpr ?ctc; (case ctc => omega)) | (refine (decide_eq_true ?ctc).symm; (case ctc => omega)) | (refine (decide_eq_false ?ctc).symm; (case ctc => omega)) | (refine Bool.eq_iff_iff.mpr ?ctc; (case ctc => ((simp only [decide_eq_true_eq, beq_iff_eq, bne_iff_ne, ne_eq, List.size_toArray, List.length_cons, List.length_nil, true_and, Bool.false_eq_true, false_and, or_false, Bool.or_eq_true, Bool.and_eq_true]); omega))) | (subst_vars; (first | exact rfl | (refine Bool.eq_iff_iff.mpr ?ctc; (case ctc => ((simp only [decide_eq_true_eq, beq_iff_eq, bne_iff_ne, ne_eq, List.size_toArray, List.length_cons, List.length_nil, true_and, Bool.false_eq_true, false_and, or_false, Bool.or_eq_true, Bool.and_eq_true]); omega))) | (simp; done) | (simp; omega))) | (simp; done) | (simp; omega))) | exact True.intro | exact rfl | (intro _; omega) | (intro ctZ; cases ctZ; done) | (dsimp only; done) | ((try dsimp only); first | with_reducible assumption | (refine And.intro ?_ ?_) | (refine Apart.of ?_; k_ne) | exact Or.inl rfl | (refine Or.inr ?_) | exact rfl | omega)))); (case cr => ((try simp only [List.map_cons, List.map_nil]); (repeat ((try ((with_reducible show List _); rotate_left)); first | exact Rst.nil | (refine' Rst.drop' ?ctm ?_; (case ctm => k_mem)) | (refine' Rst.keep ?ctn ?_; (case ctn => (repeat (first | exact List.forall_mem_nil _ | (refine' memCons ?cta ?_; (case cta => k_ne)))))) | (refine' Rst.drop ?_))))); (case cd => k_room); (case cu => (((try simp only [units_in1, units_deeper, units_caller, Around.mark_units, units_make]); first | omega | (simp only [cLine_is]; omega)))); (case ch => (first | assumption | (with_unfolding_all assumption) | exact rfl))); rintro ⟨z1, z2, z3, z4, z5⟩ h' tk' g' KT' F' N' B' X' T' hX' hY'; (try dsimp only at N' hX' hY'); (try dsimp only); (try simp only [List.cons_append, List.nil_append, List.append_nil] at N'); (try simp only [AllAparts, Aparts, and_true] at hX'); (try k_sweep); (repeat ((rename And _ _ => hAnd9); (have hA9 := hAnd9.1); (have hB9 := hAnd9.2); (clear hAnd9)))) | ((with_reducible show wpAny _ _ (call (Value.ref 224) [Value.ref _]) _ _ _); refine wpAny_call ?_; k_dflt (refine' ctw_use (told_metE (hst := ?phst) (hap := ?phap) (h1 := ?ph1) (h2 := ?ph2) ..) ?cB ?cF ?cX ?cN ?cT ?cXB ?cTB ?cHB ?cA ?cG ?cK ?cs ?cr ?cd ?cu ?ch ?_; (case cA => exact rfl); (case cG => exact rfl); (case cK => exact rfl); (case cF => k_asm); (case cB => k_asm); (case cX => k_asm); (case cN => k_asm); (case cT => k_asm); (case cXB => k_asm); (case cTB => k_asm); (case cHB => k_asm); (case cs => ((try dsimp only); repeat (first | exact List.forall_mem_nil _ | (refine' memCons ?cta ?_; (case cta => k_mem); (try dsimp only))))); (case phst => (repeat' (first | ((try dsimp only); (with_reducible show @Eq Bool _ _); (first | exact rfl | (refine decide_eq_true ?ctc; (case ctc => omega)) | (refine decide_eq_false ?ctc; (case ctc => omega)) | (refine decide_eq_decide.mpr ?ctc; (case ctc => omega)) | (refine (decide_eq_true ?ctc).symm; (case ctc => omega)) | (refine (decide_eq_false ?ctc).symm; (case ctc => omega)) | (refine Bool.eq_iff_iff.mpr ?ctc; (case ctc => ((simp only [decide_eq_true_eq, beq_iff_eq, bne_iff_ne, ne_eq, List.size_toArray, List.length_cons, List.length_nil, true_and, Bool.false_eq_true, false_and, or_false, Bool.or_eq_true, Bool.and_eq_true]); omega))) | (subst_vars; (first | exact rfl | (refine Bool.eq_iff_iff.mpr ?ctc; (case ctc => ((simp only [decide_eq_true_eq, beq_iff_eq, bne_iff_ne, ne_eq, List.size_toArray, List.length_cons, List.length_nil, true_and, Bool.false_eq_true, false_and, or_false, Bool.or_eq_true, Bool.and_eq_true]); omega))) | (simp; done) | (simp; omega))) | (simp; done) | (simp; omega))) | exact True.intro | exact rfl | (intro _; omega) | (intro ctZ; cases ctZ; done) | (dsimp only; done) | ((try dsimp only); first | with_reducible assumption | (refine And.intro ?_ ?_) | (refine Apart.of ?_; k_ne) | exact Or.inl rfl | (refine Or.inr ?_) | exact rfl | omega)))); (case phap => (repeat' (first | ((try dsimp only); (with_reducible show @Eq Bool _ _); (first | exact rfl | (refine decide_eq_true ?ctc; (case ctc => omega)) | (refine decide_eq_false ?ctc; (case ctc => omega)) | (refine decide_eq_decide.mpr ?ctc; (case ctc => omega)) | (refine (decide_eq_true ?ctc).symm; (case ctc => omega)) | (refine (decide_eq_false ?ctc).symm; (case ctc => omega)) | (refine Bool.eq_iff_iff.mpr ?ctc; (case ctc => ((simp only [decide_eq_true_eq, beq_iff_eq, bne_iff_ne, ne_eq, List.size_toArray, List.length_cons, List.length_nil, true_and, Bool.false_eq_true, false_and, or_false, Bool.or_eq_true, Bool.and_eq_true]); omega))) | (subst_vars; (first | exact rfl | (refine Bool.eq_iff_iff.mpr ?ctc; (case ctc => ((simp only [decide_eq_true_eq, beq_iff_eq, bne_iff_ne, ne_eq, List.size_toArray, List.length_cons, List.length_nil, true_and, Bool.false_eq_true, false_and, or_false, Bool.or_eq_true, Bool.and_eq_true]); omega))) | (simp; done) | (simp; omega))) | (simp; done) | (simp; omega))) | exact True.intro | exact rfl | (intro _; omega) | (intro ctZ; cases ctZ; done) | (dsimp only; done) | ((try dsimp only); first | with_reducible assumption | (refine And.intro ?_ ?_) | (refine Apart.of ?_; k_ne) | exact Or.inl rfl | (refine Or.inr ?_) | exact rfl | omega)))); (case ph1 => (repeat' (first | ((try dsimp only); (with_reducible show @Eq Bool _ _); (first | exact rfl | (refine decide_eq_true ?ctc; (case ctc => omega)) | (refine decide_eq_false ?ctc; (case ctc => omega)) | (refine decide_eq_decide.mpr ?ctc; (case ctc => omega)) | (refine (decide_eq_true ?ctc).symm; (case ctc => omega)) | (refine (decide_eq_false ?ctc).symm; (case ctc => omega)) | (refine Bool.eq_iff_iff.mpr ?ctc; (case ctc => ((simp only [decide_eq_true_eq, beq_iff_eq, bne_iff_ne, ne_eq, List.size_toArray, List.length_cons, List.length_nil, true_and, Bool.false_eq_true, false_and, or_false, Bool.or_eq_true, Bool.and_eq_true]); omega))) | (subst_vars; (first | exact rfl | (refine Bool.eq_iff_iff.mpr ?ctc; (case ctc => ((simp only [decide_eq_true_eq, beq_iff_eq, bne_iff_ne, ne_eq, List.size_toArray, List.length_cons, List.length_nil, true_and, Bool.false_eq_true, false_and, or_false, Bool.or_eq_true, Bool.and_eq_true]); omega))) | (simp; done) | (simp; omega))) | (simp; done) | (simp; omega))) | exact True.intro | exact rfl | (intro _; omega) | (intro ctZ; cases ctZ; done) | (dsimp only; done) | ((try dsimp only); first | with_reducible assumption | (refine And.intro ?_ ?_) | (refine Apart.of ?_; k_ne) | exact Or.inl rfl | (refine Or.inr ?_) | exact rfl | omega)))); (case ph2 => (repeat' (first | ((try dsimp only); (with_reducible show @Eq Bool _ _); (first | exact rfl | (refine decide_eq_true ?ctc; (case ctc => omega)) | (refine decide_eq_false ?ctc; (case ctc => omega)) | (refine decide_eq_decide.mpr ?ctc; (case ctc => omega)) | (refine (decide_eq_true ?ctc).symm; (case ctc => omega)) | (refine (decide_eq_false ?ctc).symm; (case ctc => omega)) | (refine Bool.eq_iff_iff.mpr ?ctc; (case ctc => ((simp only [decide_eq_true_eq, beq_iff_eq, bne_iff_ne, ne_eq, List.size_toArray, List.length_cons, List.length_nil, true_and, Bool.false_eq_true, false_and, or_false, Bool.or_eq_true, Bool.and_eq_true]); omega))) | (subst_vars; (first | exact rfl | (refine Bool.eq_iff_iff.mpr ?ctc; (case ctc => ((simp only [decide_eq_true_eq, beq_iff_eq, bne_iff_ne, ne_eq, List.size_toArray, List.length_cons, List.length_nil, true_and, Bool.false_eq_true, false_and, or_false, Bool.or_eq_true, Bool.and_eq_true]); omega))) | (simp; done) | (simp; omega))) | (simp; done) | (simp; omega))) | exact True.intro | exact rfl | (intro _; omega) | (intro ctZ; cases ctZ; done) | (dsimp only; done) | ((try dsimp only); first | with_reducible assumption | (refine And.intro ?_ ?_) | (refine Apart.of ?_; k_ne) | exact Or.inl rfl | (refine Or.inr ?_) | exact rfl | omega)))); (case cr => ((try simp only [List.map_cons, List.map_nil]); (repeat ((try ((with_reducible show List _); rotate_left)); first | exact Rst.nil | (refine' Rst.drop' ?ctm ?_; (case ctm => k_mem)) | (refine' Rst.keep ?ctn ?_; (case ctn => (repeat (first | exact List.forall_mem_nil _ | (refine' memCons ?cta ?_; (case cta => k_ne)))))) | (refine' Rst.drop ?_))))); (case cd => k_room); (case cu => (((try simp only [units_in1, units_deeper, units_caller, Around.mark_units, units_make]); first | omega | (simp only [cLine_is]; omega)))); (case ch => (first | assumption | (with_unfolding_all assumption) | exact rfl))); rintro ⟨z1, z2, z3, z4, z5⟩ h' tk' g' KT' F' N' B' X' T' hX' hY'; (try dsimp only at N' hX' hY'); (try dsimp only); (try simp only [List.cons_append, List.nil_append, List.append_nil] at N'); (try simp only [AllAparts, Aparts, and_true] at hX'); (try k_sweep); (repeat ((rename And _ _ => hAnd9); (have hA9 := hAnd9.1); (have hB9 := hAnd9.2); (clear hAnd9)))) | ((with_reducible show wpAny _ _ (getAttr (Value.ref _) (Str.ofString "code") _) _ _ _); k_dflt (refine' exc_code ?Fz0 ?Xz0 ?Nz0 ?mz0 ?m2z0 ?cz0 ?dz0 ?vz0 ?qz0 ?_; (case Fz0 => k_asm); (case Xz0 => k_asm); (case Nz0 => k_asm); (case cz0 => with_reducible assumption); (case dz0 => with_reducible assumption); (case vz0 => with_reducible assumption); (case qz0 => with_reducible assumption); (case mz0 => k_mem); (case m2z0 => k_mem)); intro t') | ((with_reducible show wpAny _ _ (getAttr (Value.ref _) (Str.ofString "frame_type") _) _ _ _); k_dflt (refine' exc_frame ?Fz1 ?Xz1 ?Nz1 ?mz1 ?m2z1 ?cz1 ?dz1 ?vz1 ?qz1 ?_; (case Fz1 => k_asm); (case Xz1 => k_asm); (case Nz1 => k_asm); (case cz1 => with_reducible assumption); (case dz1 => with_reducible assumption); (case vz1 => with_reducible assumption); (case qz1 => with_reducible assumption); (case mz1 => k_mem); (case m2z1 => k_mem)); intro t') | (k_dflt (refine' caught_Q ?Kz2 ?hnz2 ?haz2 ?Rz2 ?XBz2 ?TBz2 ?exz2 ?_ ?h1z2 ?h2z2 ?h3z2 ?h4z2; (case Rz2 => with_reducible assumption); (case Kz2 => k_asm); (case hnz2 => with_reducible assumption); (case haz2 => exact Fr.above (by k_asm)); (case XBz2 => with_reducible assumption); (case TBz2 => with_reducible assumption); (case exz2 => k_is); (case h1z2 => exact rfl); (case h2z2 => exact rfl); (case h3z2 => exact rfl); (case h4z2 => decide)); intro h' g' oe' vs' tk' KT' F' N' hc' hd' hv' B' X' T')); (try k_steps))
  all_goals try dsimp only
  all_goals (refine' fin_bool ?cE ?cH; (case cH => (refine' ctw_fin ?cT ?cF ?cN ?cS ?cR ?cA (hO (⟨_, _, _, _, _⟩) _ _); (case cF => k_asm); (case cN => k_asm); (case cT => (repeat (first | with_reducible assumption | exact KtsTurn.refl | (refine' KtsTurn.trans ?cta ?_; (case cta => with_reducible assumption))))); (case cS => ((try dsimp only); repeat (first | exact List.forall_mem_nil _ | (refine' memCons ?cta ?_; (case cta => k_mem); (try dsimp only))))); (case cR => ((try dsimp only); repeat (first | exact List.forall_mem_nil _ | (intro ctA ctH; cases ctH; done) | (refine' memCons ⟨_, ?cta⟩ ?_; (case cta => k_mem); (try dsimp only))))); (case cA => (repeat' (first | ((try dsimp only); (with_reducible show @Eq Bool _ _); (first | exact rfl | (refine decide_eq_true ?ctc; (case ctc => omega)) | (refine decide_eq_false ?ctc; (case ctc => omega)) | (refine decide_eq_decide.mpr ?ctc; (case ctc => omega)) | (refine (decide_eq_true ?ctc).symm; (case ctc => omega)) | (refine (decide_eq_false ?ctc).symm; (case ctc => omega)) | (refine Bool.eq_iff_iff.mpr ?ctc; (case ctc => ((simp only [decide_eq_true_eq, beq_iff_eq, bne_iff_ne, ne_eq, List.size_toArray, List.length_cons, List.length_nil, true_and, Bool.false_eq_true, false_and, or_false, Bool.or_eq_true, Bool.and_eq_true]); omega))) | (subst_vars; (first | exact rfl | (refine Bool.eq_iff_iff.mpr ?ctc; (case ctc => ((simp only [decide_eq_true_eq, beq_iff_eq, bne_iff_ne, ne_eq, List.size_toArray, List.length_cons, List.length_nil, true_and, Bool.false_eq_true, false_and, or_false, Bool.or_eq_true, Bool.and_eq_true]); omega))) | (simp; done) | (simp; omega))) | (simp; done) | (simp; omega))) | exact True.intro | exact rfl | (intro _; omega) | (intro ctZ; cases ctZ; done) | (dsimp only; done) | ((try dsimp only); first | with_reducible assumption | (refine And.intro ?_ ?_) | (refine Apart.of ?_; k_ne) | exact Or.inl rfl | (refine Or.inr ?_) | exact rfl | omega)))))); (case cE => (first | exact rfl | (refine decide_eq_true ?ctc; (case ctc => omega)) | (refine decide_eq_false ?ctc; (case ctc => omega)) | (refine decide_eq_decide.mpr ?ctc; (case ctc => omega)) | (refine (decide_eq_true ?ctc).symm; (case ctc => omega)) | (refine (decide_eq_false ?ctc).symm; (case ctc => omega)) | (refine Bool.eq_iff_iff.mpr ?ctc; (case ctc => ((simp only [decide_eq_true_eq, beq_iff_eq, bne_iff_ne, ne_eq, List.size_toArray, List.length_cons, List.length_nil, true_and, Bool.false_eq_true, false_and, or_false, Bool.or_eq_true, Bool.and_eq_true]); omega))) | (subst_vars; (first | exact rfl | (refine Bool.eq_iff_iff.mpr ?ctc; (case ctc => ((simp only [decide_eq_true_eq, beq_iff_eq, bne_iff_ne, ne_eq, List.size_toArray, List.length_cons, List.length_nil, true_and, Bool.false_eq_true, false_and, or_false, Bool.or_eq_true, Bool.and_eq_true]); omega))) | (simp; done) | (simp; omega))) | (simp; done) | (simp; omega))))
theorem wrlowF (w : World) (pl : Addr) (a : Int) (lim sent : Int) (n : Nat) (t1 t2 t3 : Tok) (ha : a = 0 ∨ a = 1) (hP : PlanF a lim false sent) (hpl : Apart pl 226) :
    CtW w 130 (.ref 231) [.ref pl] [(pl, plO a lim sent false t1 t2 t3 n), (226, tabObj #[])] (Array Value × Tok × Tok × Tok × Nat) (fun _ => .bool true) (fun z => [(pl, plO a lim sent false z.2.1 z.2.2.1 z.2.2.2.1 z.2.2.2.2), (226, tabObj z.1)]) (fun _ => []) (fun _ => True) := by
  refine CtW.mk ?_
  intro p loose mean mg mb dp un gd base g env outer s R B kg sz X T XB TB HB N hd hu hO
  revert X XB; k_fill; intro X XB
  (k_dflt (refine' ct_codeC ?k1 ?ka ?kb ?k3 ?k5 ?k4 ?k6 ?k7 ?k8 ?k9 ?kB ?kD ?_ ?c2 ?c3 ?c4; (case k1 => assumption); (case ka => assumption); (case kb => assumption); (case k3 => assumption); (case k5 => assumption); (case k4 => assumption); (case k6 => k_is); (case k7 => k_is); (case k8 => k_room); (case k9 => exact BindsTo.of_eq rfl); (case kB => exact rfl); (case kD => decide +kernel); (case c2 => exact rfl); (case c3 => exact rfl); (case c4 => exact rfl); k_whole; intro L' h' tk' cells' F' N' Y' l1; (try k_lt l1); k_cells Y'; (try simp only [List.cons_append, List.nil_append] at N'); (try dsimp only); (try k_fold)))
  k_steps
  repeat (any_goals (refine Stop.mk ?_; first | ((with_reducible show wpAny _ _ (call (Value.ref 217) [Value.ref _]) _ _ _); refine wpAny_call ?_; k_dflt (refine' ct_use (ct_mlow (ha := ?pha) (hP := ?phP) ..) ?cB ?cF ?cX ?cN ?cT ?cA ?cG ?cK ?cs ?cr ?cd ?cu ?ch ?_; (case cA => exact rfl); (case cG => exact rfl); (case cK => exact rfl); (case cF => k_asm); (case cB => k_asm); (case cX => k_asm); (case cN => k_asm); (case cT => k_asm); (case cs => ((try dsimp only); repeat (first | exact List.forall_mem_nil _ | (refine' memCons ?cta ?_; (case cta => k_mem); (try dsimp only))))); (case pha => first | assumption | omega); (case phP => first | assumption | omega); (case cr => ((try simp only [List.map_cons, List.map_nil]); (repeat ((try ((with_reducible show List _); rotate_left)); first | exact Rst.nil | (refine' Rst.drop' ?ctm ?_; (case ctm => k_mem)) | (refine' Rst.keep ?ctn ?_; (case ctn => (repeat (first | exact List.forall_mem_nil _ | (refine' memCons ?cta ?_; (case cta => k_ne)))))) | (refine' Rst.drop ?_))))); (case cd => k_room); (case cu => (((try simp only [units_in1, units_deeper, units_caller, Around.mark_units, units_make]); first | omega | (simp only [cLine_is]; omega)))); (case ch => (first | assumption | (with_unfolding_all assumption) | exact rfl))); rintro ⟨zK, zx, zd, za, zl, zg, zn, zm, zt1, zt2, zt3, zu1, zu2, zu3, zu4, zst, zow, zea, zco⟩ h' tk' F' N' hX' hY'; (try dsimp only at N' hX' hY'); (try dsimp only); ((obtain ⟨hap9, hst9, hE1, hE2, hE3⟩ := hY'); subst hE1; subst hE2; subst hE3;  skip); (try simp only [List.cons_append, List.nil_append, List.append_nil] at N'); (try simp only [AllAparts, Aparts, and_true] at hX'); (try k_sweep); (repeat ((rename And _ _ => hAnd9); (have hA9 := hAnd9.1); (have hB9 := hAnd9.2); (clear hAnd9)))) | ((with_reducible show wpAny _ _ (call (Value.ref 224) [Value.ref _]) _ _ _); refine wpAny_call ?_; k_dflt (refine' ctw_use (told_lamO (hE := ?phE) (hoc := ?phoc) (hv := ?phv) (hco := ?phco) (hst := ?phst) (hap := ?phap) (h1 := ?ph1) (h2 := ?ph2) (h3 := ?ph3) (h4 := ?ph4) (h5 := ?ph5) (h6 := ?ph6) ..) ?cB ?cF ?cX ?cN ?cT ?cXB ?cTB ?cHB ?cA ?cG ?cK ?cs ?cr ?cd ?cu ?ch ?_; (case cA => exact rfl); (case cG => exact rfl); (case cK => exact rfl); (case cF => k_asm); (case cB => k_asm); (case cX => k_asm); (case cN => k_asm); (case cT => k_asm); (case cXB => k_asm); (case cTB => k_asm); (case cHB => k_asm); (case cs => ((try dsimp only); repeat (first | exact List.forall_mem_nil _ | (refine' memCons ?cta ?_; (case cta => k_mem); (try dsimp only))))); (case phE => exact fun _ => ⟨_, rfl⟩); (case phoc => first | with_reducible assumption | assumption); (case phv => first | with_reducible assumption | assumption); (case phco => first | with_reducible assumption | assumption); (case phst => (repeat' (first | ((try dsimp only); (with_reducible show @Eq Bool _ _); (first | exact rfl | (refine decide_eq_true ?ctc; (case ctc => omega)) | (refine decide_eq_false ?ctc; (case ctc => omega)) | (refine decide_eq_decide.mpr ?ctc; (case ctc => omega)) | (refine (decide_eq_true ?ctc).symm; (case ctc => omega)) | (refine (decide_eq_false ?ctc).symm; (case ctc => omega)) | (refine Bool.eq_iff_iff.mpr ?ctc; (case ctc => ((simp only [decide_eq_true_eq, beq_iff_eq, bne_iff_ne, ne_eq, List.size_toArray, List.length_cons, List.length_nil, true_and, Bool.false_eq_true, false_and, or_false, Bool.or_eq_true, Bool.and_eq_true]); omega))) | (subst_vars; (first | exact rfl | (refine Bool.eq_iff_iff.mpr ?ctc; (case ctc => ((simp only [decide_eq_true_eq, beq_iff_eq, bne_iff_ne, ne_eq, List.size_toArray, List.length_cons, List.length_nil, true_and, Bool.false_eq_true, false_and, or_false, Bool.or_eq_true, Bool.and_eq_true]); omega))) | (simp; done) | (simp; omega))) | (simp; done) | (simp; omega))) | exact True.intro | exact rfl | (intro _; omega) | (intro ctZ; cases ctZ; done) | (dsimp only; done) | ((try dsimp only); first | with_reducible assumption | (refine And.intro ?_ ?_) | (refine Apart.of ?_; k_ne) | exact Or.inl rfl | (refine Or.inr ?_) | exact rfl | omega)))); (case phap => (repeat' (first | ((try dsimp only); (with_reducible show @Eq Bool _ _); (first | exact rfl | (refine decide_eq_true ?ctc; (case ctc => omega)) | (refine decide_eq_false ?ctc; (case ctc => omega)) | (refine decide_eq_decide.mpr ?ctc; (case ctc => omega)) | (refine (decide_eq_true ?ctc).symm; (case ctc => omega)) | (refine (decide_eq_false ?ctc).symm; (case ctc => omega)) | (refine Bool.eq_iff_iff.mpr ?ctc; (case ctc => ((simp only [decide_eq_true_eq, beq_iff_eq, bne_iff_ne, ne_eq, List.size_toArray, List.length_cons, List.length_nil, true_and, Bool.false_eq_true, false_and, or_false, Bool.or_eq_true, Bool.and_eq_true]); omega))) | (subst_vars; (first | exact rfl | (refine Bool.eq_iff_iff.mpr ?ctc; (case ctc => ((simp only [decide_eq_true_eq, beq_iff_eq, bne_iff_ne, ne_eq, List.size_toArray, List.length_cons, List.length_nil, true_and, Bool.false_eq_true, false_and, or_false, Bool.or_eq_true, Bool.and_eq_true]); omega))) | (simp; done) | (simp; omega))) | (simp; done) | (simp; omega))) | exact True.intro | exact rfl | (intro _; omega) | (intro ctZ; cases ctZ; done) | (dsimp only; done) | ((try dsimp only); first | with_reducible assumption | (refine And.intro ?_ ?_) | (refine Apart.of ?_; k_ne) | exact Or.inl rfl | (refine Or.inr ?_) | exact rfl | omega)))); (case ph1 => (repeat' (first | ((try dsimp only); (with_reducible show @Eq Bool _ _); (first | exact rfl | (refine decide_eq_true ?ctc; (case ctc => omega)) | (refine decide_eq_false ?ctc; (case ctc => omega)) | (refine decide_eq_decide.mpr ?ctc; (case ctc => omega)) | (refine (decide_eq_true ?ctc).symm; (case ctc => omega)) | (refine (decide_eq_false ?ctc).symm; (case ctc => omega)) | (refine Bool.eq_iff_iff.mpr ?ctc; (case ctc => ((simp only [decide_eq_true_eq, beq_iff_eq, bne_iff_ne, ne_eq, List.size_toArray, List.length_cons, List.length_nil, true_and, Bool.false_eq_true, false_and, or_false, Bool.or_eq_true, Bool.and_eq_true]); omega))) | (subst_vars; (first | exact rfl | (refine Bool.eq_iff_iff.mpr ?ctc; (case ctc => ((simp only [decide_eq_true_eq, beq_iff_eq, bne_iff_ne, ne_eq, List.size_toArray, List.length_cons, List.length_nil, true_and, Bool.false_eq_true, false_and, or_false, Bool.or_eq_true, Bool.and_eq_true]); omega))) | (simp; done) | (simp; omega))) | (simp; done) | (simp; omega))) | exact True.intro | exact rfl | (intro _; omega) | (intro ctZ; cases ctZ; done) | (dsimp only; done) | ((try dsimp only); first | with_reducible assumption | (refine And.intro ?_ ?_) | (refine Apart.of ?_; k_ne) | exact Or.inl rfl | (refine Or.inr ?_) | exact rfl | omega)))); (case ph2 => (repeat' (first | ((try dsimp only); (with_reducible show @Eq Bool _ _); (first | exact rfl | (refine decide_eq_true ?ctc; (case ctc => omega)) | (refine decide_eq_false ?ctc; (case ctc => omega)) | (refine decide_eq_decide.mpr ?ctc; (case ctc => omega)) | (refine (decide_eq_true ?ctc).symm; (case ctc => omega)) | (refine (decide_eq_false ?ctc).symm; (case ctc => omega)) | (refine Bool.eq_iff_iff.mpr ?ctc; (case ctc => ((simp only [decide_eq_true_eq, beq_iff_eq, bne_iff_ne, ne_eq, List.size_toArray, List.length_cons, List.length_nil, true_and, Bool.false_eq_true, false_and, or_false, Bool.or_eq_true, Bool.and_eq_true]); omega))) | (subst_vars; (first | exact rfl | (refine Bool.eq_iff_iff.mpr ?ctc; (case ctc => ((simp only [decide_eq_true_eq, beq_iff_eq, bne_iff_ne, ne_eq, List.size_toArray, List.length_cons, List.length_nil, true_and, Bool.false_eq_true, false_and, or_false, Bool.or_eq_true, Bool.and_eq_true]); omega))) | (simp; done) | (simp; omega))) | (simp; done) | (simp; omega))) | exact True.intro | exact rfl | (intro _; omega) | (intro ctZ; cases ctZ; done) | (dsimp only; done) | ((try dsimp only); first | with_reducible assumption | (refine And.intro ?_ ?_) | (refine Apart.of ?_; k_ne) | exact Or.inl rfl | (refine Or.inr ?_) | exact rfl | omega)))); (case ph3 => (repeat' (first | ((try dsimp only); (with_reducible show @Eq Bool _ _); (first | exact rfl | (refine decide_eq_true ?ctc; (case ctc => omega)) | (refine decide_eq_false ?ctc; (case ctc => omega)) | (refine decide_eq_decide.mpr ?ctc; (case ctc => omega)) | (refine (decide_eq_true ?ctc).symm; (case ctc => omega)) | (refine (decide_eq_false ?ctc).symm; (case ctc => omega)) | (refine Bool.eq_iff_iff.mpr ?ctc; (case ctc => ((simp only [decide_eq_true_eq, beq_iff_eq, bne_iff_ne, ne_eq, List.size_toArray, List.length_cons, List.length_nil, true_and, Bool.false_eq_true, false_and, or_false, Bool.or_eq_true, Bool.and_eq_true]); omega))) | (subst_vars; (first | exact rfl | (refine Bool.eq_iff_iff.mpr ?ctc; (case ctc => ((simp only [decide_eq_true_eq, beq_iff_eq, bne_iff_ne, ne_eq, List.size_toArray, List.length_cons, List.length_nil, true_and, Bool.false_eq_true, false_and, or_false, Bool.or_eq_true, Bool.and_eq_true]); omega))) | (simp; done) | (simp; omega))) | (simp; done) | (simp; omega))) | exact True.intro | exact rfl | (intro _; omega) | (intro ctZ; cases ctZ; done) | (dsimp only; done) | ((try dsimp only); first | with_reducible assumption | (refine And.intro ?_ ?_) | (refine Apart.of ?_; k_ne) | exact Or.inl rfl | (refine Or.inr ?_) | exact rfl | omega)))); (case ph4 => (repeat' (first | ((try dsimp only); (with_reducible show @Eq Bool _ _); (first | exact rfl | (refine decide_eq_true ?ctc; (case ctc => omega)) | (refine decide_eq_false ?ctc; (case ctc => omega)) | (refine decide_eq_decide.mpr ?ctc; (case ctc => omega)) | (refine (decide_eq_true ?ctc).symm; (case ctc => omega)) | (refine (decide_eq_false ?ctc).symm; (case ctc => omega)) | (refine Bool.eq_iff_iff.mpr ?ctc; (case ctc => ((simp only [decide_eq_true_eq, beq_iff_eq, bne_iff_ne, ne_eq, List.size_toArray, List.length_cons, List.length_nil, true_and, Bool.false_eq_true, false_and, or_false, Bool.or_eq_true, Bool.and_eq_true]); omega))) | (subst_vars; (first | exact rfl | (refine Bool.eq_iff_iff.mpr ?ctc; (case ctc => ((simp only [decide_eq_true_eq, beq_iff_eq, bne_iff_ne, ne_eq, List.size_toArray, List.length_cons, List.length_nil, true_and, Bool.false_eq_true, false_and, or_false, Bool.or_eq_true, Bool.and_eq_true]); omega))) | (simp; done) | (simp; omega))) | (simp; done) | (simp; omega))) | exact True.intro | exact rfl | (intro _; omega) | (intro ctZ; cases ctZ; done) | (dsimp only; done) | ((try dsimp only); first | with_reducible assumption | (refine And.intro ?_ ?_) | (refine Apart.of ?_; k_ne) | exact Or.inl rfl | (refine Or.inr ?_) | exact rfl | omega)))); (case ph5 => (repeat' (first | ((try dsimp only); (with_reducible show @Eq Bool _ _); (first | exact rfl | (refine decide_eq_true ?ctc; (case ctc => omega)) | (refine decide_eq_false ?ctc; (case ctc => omega)) | (refine decide_eq_decide.mpr ?ctc; (case ctc => omega)) | (refine (decide_eq_true ?ctc).symm; (case ctc => omega)) | (refine (decide_eq_false ?ctc).symm; (case ctc => omega)) | (refine Bool.eq_iff_iff.mpr ?ctc; (case ctc => ((simp only [decide_eq_true_eq, beq_iff_eq, bne_iff_ne, ne_eq, List.size_toArray, List.length_cons, List.length_nil, true_and, Bool.false_eq_true, false_and, or_false, Bool.or_eq_true, Bool.and_eq_true]); omega))) | (subst_vars; (first | exact rfl | (refine Bool.eq_iff_iff.mpr ?ctc; (case ctc => ((simp only [decide_eq_true_eq, beq_iff_eq, bne_iff_ne, ne_eq, List.size_toArray, List.length_cons, List.length_nil, true_and, Bool.false_eq_true, false_and, or_false, Bool.or_eq_true, Bool.and_eq_true]); omega))) | (simp; done) | (simp; omega))) | (simp; done) | (simp; omega))) | exact True.intro | exact rfl | (intro _; omega) | (intro ctZ; cases ctZ; done) | (dsimp only; done) | ((try dsimp only); first | with_reducible assumption | (refine And.intro ?_ ?_) | (refine Apart.of ?_; k_ne) | exact Or.inl rfl | (refine Or.inr ?_) | exact rfl | omega)))); (case ph6 => (repeat' (first | ((try dsimp only); (with_reducible show @Eq Bool _ _); (first | exact rfl | (refine decide_eq_true ?ctc; (case ctc => omega)) | (refine decide_eq_false ?ctc; (case ctc => omega)) | (refine decide_eq_decide.mpr ?ctc; (case ctc => omega)) | (refine (decide_eq_true ?ctc).symm; (case ctc => omega)) | (refine (decide_eq_false ?ctc).symm; (case ctc => omega)) | (refine Bool.eq_iff_iff.mpr ?ctc; (case ctc => ((simp only [decide_eq_true_eq, beq_iff_eq, bne_iff_ne, ne_eq, List.size_toArray, List.length_cons, List.length_nil, true_and, Bool.false_eq_true, false_and, or_false, Bool.or_eq_true, Bool.and_eq_true]); omega))) | (subst_vars; (first | exact rfl | (refine Bool.eq_iff_iff.mpr ?ctc; (case ctc => ((simp only [decide_eq_true_eq, beq_iff_eq, bne_iff_ne, ne_eq, List.size_toArray, List.length_cons, List.length_nil, true_and, Bool.false_eq_true, false_and, or_false, Bool.or_eq_true, Bool.and_eq_true]); omega))) | (simp; done) | (simp; omega))) | (simp; done) | (simp; omega))) | exact True.intro | exact rfl | (intro _; omega) | (intro ctZ; cases ctZ; done) | (dsimp only; done) | ((try dsimp only); first | with_reducible assumption | (refine And.intro ?_ ?_) | (refine Apart.of ?_; k_ne) | exact Or.inl rfl | (refine Or.inr ?_) | exact rfl | omega)))); (case cr => ((try simp only [List.map_cons, List.map_nil]); (repeat ((try ((with_reducible show List _); rotate_left)); first | exact Rst.nil | (refine' Rst.drop' ?ctm ?_; (case ctm => k_mem)) | (refine' Rst.keep ?ctn ?_; (case ctn => (repeat (first | exact List.forall_mem_nil _ | (refine' memCons ?cta ?_; (case cta => k_ne)))))) | (refine' Rst.drop ?_))))); (case cd => k_room); (case cu => (((try simp only [units_in1, units_deeper, units_caller, Around.mark_units, units_make]); first | omega | (simp only [cLine_is]; omega)))); (case ch => (first | assumption | (with_unfolding_all assumption) | exact rfl))); rintro z1 h' tk' g' KT' F' N' B' X' T' hX' hY'; (try dsimp only at N' hX' hY'); (try dsimp only); (try simp only [List.cons_append, List.nil_append, List.append_nil] at N'); (try simp only [AllAparts, Aparts, and_true] at hX'); (try k_sweep); (repeat ((rename And _ _ => hAnd9); (have hA9 := hAnd9.1); (have hB9 := hAnd9.2); (clear hAnd9)))) | ((with_reducible show wpAny _ _ (call (Value.ref 224) [Value.ref _]) _ _ _); refine wpAny_call ?_; k_dflt (refine' ctw_use (told_metB (hst := ?phst) (hap := ?phap) (h1 := ?ph1) (h2 := ?ph2) ..) ?cB ?cF ?cX ?cN ?cT ?cXB ?cTB ?cHB ?cA ?cG ?cK ?cs ?cr ?cd ?cu ?ch ?_; (case cA => exact rfl); (case cG => exact rfl); (case cK => exact rfl); (case cF => k_asm); (case cB => k_asm); (case cX => k_asm); (case cN => k_asm); (case cT => k_asm); (case cXB => k_asm); (case cTB => k_asm); (case cHB => k_asm); (case cs => ((try dsimp only); repeat (first | exact List.forall_mem_nil _ | (refine' memCons ?cta ?_; (case cta => k_mem); (try dsimp only))))); (case phst => (repeat' (first | ((try dsimp only); (with_reducible show @Eq Bool _ _); (first | exact rfl | (refine decide_eq_true ?ctc; (case ctc => omega)) | (refine decide_eq_false ?ctc; (case ctc => omega)) | (refine decide_eq_decide.mpr ?ctc; (case ctc => omega)) | (refine (decide_eq_true ?ctc).symm; (case ctc => omega)) | (refine (decide_eq_false ?ctc).symm; (case ctc => omega)) | (refine Bool.eq_iff_iff.mpr ?ctc; (case ctc => ((simp only [decide_eq_true_eq, beq_iff_eq, bne_iff_ne, ne_eq, List.size_toArray, List.length_cons, List.length_nil, true_and, Bool.false_eq_true, false_and, or_false, Bool.or_eq_true, Bool.and_eq_true]); omega))) | (subst_vars; (first | exact rfl | (refine Bool.eq_iff_iff.mpr ?ctc; (case ctc => ((simp only [decide_eq_true_eq, beq_iff_eq, bne_iff_ne, ne_eq, List.size_toArray, List.length_cons, List.length_nil, true_and, Bool.false_eq_true, false_and, or_false, Bool.or_eq_true, Bool.and_eq_true]); omega))) | (simp; done) | (simp; omega))) | (simp; done) | (simp; omega))) | exact True.intro | exact rfl | (intro _; omega) | (intro ctZ; cases ctZ; done) | (dsimp only; done) | ((try dsimp only); first | with_reducible assumption | (refine And.intro ?_ ?_) | (refine Apart.of ?_; k_ne) | exact Or.inl rfl | (refine Or.inr ?_) | exact rfl | omega)))); (case phap => (repeat' (first | ((try dsimp only); (with_reducible show @Eq Bool _ _); (first | exact rfl | (refine decide_eq_true ?ctc; (case ctc => omega)) | (refine decide_eq_false ?ctc; (case ctc => omega)) | (refine decide_eq_decide.mpr ?ctc; (case ctc => omega)) | (refine (decide_eq_true ?ctc).symm; (case ctc => omega)) | (refine (decide_eq_false ?ctc).symm; (case ctc => omega)) | (refine Bool.eq_iff_iff.mpr ?ctc; (case ctc => ((simp only [decide_eq_true_eq, beq_iff_eq, bne_iff_ne, ne_eq, List.size_toArray, List.length_cons, List.length_nil, true_and, Bool.false_eq_true, false_and, or_false, Bool.or_eq_true, Bool.and_eq_true]); omega))) | (subst_vars; (first | exact rfl | (refine Bool.eq_iff_iff.mpr ?ctc; (case ctc => ((simp only [decide_eq_true_eq, beq_iff_eq, bne_iff_ne, ne_eq, List.size_toArray, List.length_cons, List.length_nil, true_and, Bool.false_eq_true, false_and, or_false, Bool.or_eq_true, Bool.and_eq_true]); omega))) | (simp; done) | (simp; omega))) | (simp; done) | (simp; omega))) | exact True.intro | exact rfl | (intro _; omega) | (intro ctZ; cases ctZ; done) | (dsimp only; done) | ((try dsimp only); first | with_reducible assumption | (refine And.intro ?_ ?_) | (refine Apart.of ?_; k_ne) | exact Or.inl rfl | (refine Or.inr ?_) | exact rfl | omega)))); (case ph1 => (repeat' (first | ((try dsimp only); (with_reducible show @Eq Bool _ _); (first | exact rfl | (refine decide_eq_true ?ctc; (case ctc => omega)) | (refine decide_eq_false ?ctc; (case ctc => omega)) | (refine decide_eq_decide.mpr ?ctc; (case ctc => omega)) | (refine (decide_eq_true ?ctc).symm; (case ctc => omega)) | (refine (decide_eq_false ?ctc).symm; (case ctc => omega)) | (refine Bool.eq_iff_iff.mpr ?ctc; (case ctc => ((simp only [decide_eq_true_eq, beq_iff_eq, bne_iff_ne, ne_eq, List.size_toArray, List.length_cons, List.length_nil, true_and, Bool.false_eq_true, false_and, or_false, Bool.or_eq_true, Bool.and_eq_true]); omega))) | (subst_vars; (first | exact rfl | (refine Bool.eq_iff_iff.mpr ?ctc; (case ctc => ((simp only [decide_eq_true_eq, beq_iff_eq, bne_iff_ne, ne_eq, List.size_toArray, List.length_cons, List.length_nil, true_and, Bool.false_eq_true, false_and, or_false, Bool.or_eq_true, Bool.and_eq_true]); omega))) | (simp; done) | (simp; omega))) | (simp; done) | (simp; omega))) | exact True.intro | exact rfl | (intro _; omega) | (intro ctZ; cases ctZ; done) | (dsimp only; done) | ((try dsimp only); first | with_reducible assumption | (refine And.intro ?_ ?_) | (refine Apart.of ?_; k_ne) | exact Or.inl rfl | (refine Or.inr ?_) | exact rfl | omega)))); (case ph2 => (repeat' (first | ((try dsimp only); (with_reducible show @Eq Bool _ _); (first | exact rfl | (refine decide_eq_true ?ctc; (case ctc => omega)) | (refine decide_eq_false ?ctc; (case ctc => omega)) | (refine decide_eq_decide.mpr ?ctc; (case ctc => omega)) | (refine (decide_eq_true ?ctc).symm; (case ctc => omega)) | (refine (decide_eq_false ?ctc).symm; (case ctc => omega)) | (refine Bool.eq_iff_iff.mpr ?ctc; (case ctc => ((simp only [decide_eq_true_eq, beq_iff_eq, bne_iff_ne, ne_eq, List.size_toArray, List.length_cons, List.length_nil, true_and, Bool.false_eq_true, false_and, or_false, Bool.or_eq_true, Bool.and_eq_true]); omega))) | (subst_vars; (first | exact rfl | (refine Bool.eq_iff_iff.mpr ?ctc; (case ctc => ((simp only [decide_eq_true_eq, beq_iff_eq, bne_iff_ne, ne_eq, List.size_toArray, List.length_cons, List.length_nil, true_and, Bool.false_eq_true, false_and, or_false, Bool.or_eq_true, Bool.and_eq_true]); omega))) | (simp; done) | (simp; omega))) | (simp; done) | (simp; omega))) | exact True.intro | exact rfl | (intro _; omega) | (intro ctZ; cases ctZ; done) | (dsimp only; done) | ((try dsimp only); first | with_reducible assumption | (refine And.intro ?_ ?_) | (refine Apart.of ?_; k_ne) | exact Or.inl rfl | (refine Or.inr ?_) | exact rfl | omega)))); (case cr => ((try simp only [List.map_cons, List.map_nil]); (repeat ((try ((with_reducible show List _); rotate_left)); first | exact Rst.nil | (refine' Rst.drop' ?ctm ?_; (case ctm => k_mem)) | (refine' Rst.keep ?ctn ?_; (case ctn => (repeat (first | exact List.forall_mem_nil _ | (refine' memCons ?cta ?_; (case cta => k_ne)))))) | (refine' Rst.drop ?_))))); (case cd => k_room); (case cu => (((try simp only [units_in1, units_deeper, units_caller, Around.mark_units, units_make]); first | omega | (simp only [cLine_is]; omega)))); (case ch => (first | assumption | (with_unfolding_all assumption) | exact rfl))); rintro z1 h' tk' g' KT' F' N' B' X' T' hX' hY'; (try dsimp only at N' hX' hY'); (try dsimp only); (try simp only [List.cons_append, List.nil_append, List.append_nil] at N'); (try simp only [AllAparts, Aparts, and_true] at hX'); (try k_sweep); (repeat ((rename And _ _ => hAnd9); (have hA9 := hAnd9.1); (have hB9 := hAnd9.2); (clear hAnd9)))) | ((with_reducible show wpAny _ _ (call (Value.ref 224) [Value.ref _]) _ _ _); refine wpAny_call ?_; k_dflt (refine' ctw_use (told_metA (hst := ?phst) (hap := ?phap) (h1 := ?ph1) (h2 := ?ph2) ..) ?cB ?cF ?cX ?cN ?cT ?cXB ?cTB ?cHB ?cA ?cG ?cK ?cs ?cr ?cd ?cu ?ch ?_; (case cA => exact rfl); (case cG => exact rfl); (case cK => exact rfl); (case cF => k_asm); (case cB => k_asm); (case cX => k_asm); (case cN => k_asm); (case cT => k_asm); (case cXB => k_asm); (case cTB => k_asm); (case cHB => k_asm); (case cs => ((try dsimp only); repeat (first | exact List.forall_mem_nil _ | (refine' memCons ?cta ?_; (case cta => k_mem); (try dsimp only))))); (case phst => (repeat' (first | ((try dsimp only); (with_reducible show @Eq Bool _ _); (first | exact rfl | (refine decide_eq_true ?ctc; (case ctc => omega)) | (refine decide_eq_false ?ctc; (case ctc => omega)) | (refine decide_eq_decide.mpr ?ctc; (case ctc => omega)) | (refine (decide_eq_true ?ctc).symm; (case ctc => omega)) | (refine (decide_eq_false ?ctc).symm; (case ctc => omega)) | (refine Bool.eq_iff_iff.mpr ?ctc; (case ctc => ((simp only [decide_eq_true_eq, beq_iff_eq, bne_iff_ne, ne_eq, List.size_toArray, List.length_cons, List.length_nil, true_and, Bool.false_eq_true, false_and, or_false, Bool.or_eq_true, Bool.and_eq_true]); omega))) | (subst_vars; (first | exact rfl | (refine Bool.eq_iff_iff.mpr ?ctc; (case ctc => ((simp only [decide_eq_true_eq, beq_iff_eq, bne_iff_ne, ne_eq, List.size_toArray, List.length_cons, List.length_nil, true_and, Bool.false_eq_true, false_and, or_false, Bool.or_eq_true, Bool.and_eq_true]); omega))) | (simp; done) | (simp; omega))) | (simp; done) | (simp; omega))) | exact True.intro | exact rfl | (intro _; omega) | (intro ctZ; cases ctZ; done) | (dsimp only; done) | ((try dsimp only); first | with_reducible assumption | (refine And.intro ?_ ?_) | (refine Apart.of ?_; k_ne) | exact Or.inl rfl | (refine Or.inr ?_) | exact rfl | omega)))); (case phap => (repeat' (first | ((try dsimp only); (with_reducible show @Eq Bool _ _); (first | exact rfl | (refine decide_eq_true ?ctc; (case ctc => omega)) | (refine decide_eq_false ?ctc; (case ctc => omega)) | (refine decide_eq_decide.mpr ?ctc; (case ctc => omega)) | (refine (decide_eq_true ?ctc).symm; (case ctc => omega)) | (refine (decide_eq_false ?ctc).symm; (case ctc => omega)) | (refine Bool.eq_iff_iff.mpr ?ctc; (case ctc => ((simp only [decide_eq_true_eq, beq_iff_eq, bne_iff_ne, ne_eq, List.size_toArray, List.length_cons, List.length_nil, true_and, Bool.false_eq_true, false_and, or_false, Bool.or_eq_true, Bool.and_eq_true]); omega))) | (subst_vars; (first | exact rfl | (refine Bool.eq_iff_iff.mpr ?ctc; (case ctc => ((simp only [decide_eq_true_eq, beq_iff_eq, bne_iff_ne, ne_eq, List.size_toArray, List.length_cons, List.length_nil, true_and, Bool.false_eq_true, false_and, or_false, Bool.or_eq_true, Bool.and_eq_true]); omega))) | (simp; done) | (simp; omega))) | (simp; done) | (simp; omega))) | exact True.intro | exact rfl | (intro _; omega) | (intro ctZ; cases ctZ; done) | (dsimp only; done) | ((try dsimp only); first | with_reducible assumption | (refine And.intro ?_ ?_) | (refine Apart.of ?_; k_ne) | exact Or.inl rfl | (refine Or.inr ?_) | exact rfl | omega)))); (case ph1 => (repeat' (first | ((try dsimp only); (with_reducible show @Eq Bool _ _); (first | exact rfl | (refine decide_eq_true ?ctc; (case ctc => omega)) | (refine decide_eq_false ?ctc; (case ctc => omega)) | (refine decide_eq_decide.mpr ?ctc; (case ctc => omega)) | (refine (decide_eq_true ?ctc).symm; (case ctc => omega)) | (refine (decide_eq_false ?ctc).symm; (case ctc => omega)) | (refine Bool.eq_iff_iff.mpr ?ctc; (case ctc => ((simp only [decide_eq_true_eq, beq_iff_eq, bne_iff_ne, ne_eq, List.size_toArray, List.length_cons, List.length_nil, true_and, Bool.false_eq_true, false_and, or_false, Bool.or_eq_true, Bool.and_eq_true]); omega))) | (subst_vars; (first | exact rfl | (refine Bool.eq_iff_iff.mpr ?ctc; (case ctc => ((simp only [decide_eq_true_eq, beq_iff_eq, bne_iff_ne, ne_eq, List.size_toArray, List.length_cons, List.length_nil, true_and, Bool.false_eq_true, false_and, or_false, Bool.or_eq_true, Bool.and_eq_true]); omega))) | (simp; done) | (simp; omega))) | (simp; done) | (simp; omega))) | exact True.intro | exact rfl | (intro _; omega) | (intro ctZ; cases ctZ; done) | (dsimp only; done) | ((try dsimp only); first | with_reducible assumption | (refine And.intro ?_ ?_) | (refine Apart.of ?_; k_ne) | exact Or.inl rfl | (refine Or.inr ?_) | exact rfl | omega)))); (case ph2 => (repeat' (first | ((try dsimp only); (with_reducible show @Eq Bool _ _); (first | exact rfl | (refine decide_eq_true ?ctc; (case ctc => omega)) | (refine decide_eq_false ?ctc; (case ctc => omega)) | (refine decide_eq_decide.mpr ?ctc; (case ctc => omega)) | (refine (decide_eq_true ?ctc).symm; (case ctc => omega)) | (refine (decide_eq_false ?ctc).symm; (case ctc => omega)) | (refine Bool.eq_iff_iff.mpr ?ctc; (case ctc => ((simp only [decide_eq_true_eq, beq_iff_eq, bne_iff_ne, ne_eq, List.size_toArray, List.length_cons, List.length_nil, true_and, Bool.false_eq_true, false_and, or_false, Bool.or_eq_true, Bool.and_eq_true]); omega))) | (subst_vars; (first | exact rfl | (refine Bool.eq_iff_iff.mpr ?ctc; (case ctc => ((simp only [decide_eq_true_eq, beq_iff_eq, bne_iff_ne, ne_eq, List.size_toArray, List.length_cons, List.length_nil, true_and, Bool.false_eq_true, false_and, or_false, Bool.or_eq_true, Bool.and_eq_true]); omega))) | (simp; done) | (simp; omega))) | (simp; done) | (simp; omega))) | exact True.intro | exact rfl | (intro _; omega) | (intro ctZ; cases ctZ; done) | (dsimp only; done) | ((try dsimp only); first | with_reducible assumption | (refine And.intro ?_ ?_) | (refine Apart.of ?_; k_ne) | exact Or.inl rfl | (refine Or.inr ?_) | exact rfl | omega)))); (case cr => ((try simp only [List.map_cons, List.map_nil]); (repeat ((try ((with_reducible show List _); rotate_left)); first | exact Rst.nil | (refine' Rst.drop' ?ctm ?_; (case ctm => k_mem)) | (refine' Rst.keep ?ctn ?_; (case ctn => (repeat (first | exact List.forall_mem_nil _ | (refine' memCons ?cta ?_; (case cta => k_ne)))))) | (refine' Rst.drop ?_))))); (case cd => k_room); (case cu => (((try simp only [units_in1, units_deeper, units_caller, Around.mark_units, units_make]); first | omega | (simp only [cLine_is]; omega)))); (case ch => (first | assumption | (with_unfolding_all assumption) | exact rfl))); rintro z1 h' tk' g' KT' F' N' B' X' T' hX' hY'; (try dsimp only at N' hX' hY'); (try dsimp only); (try simp only [List.cons_append, List.nil_append, List.append_nil] at N'); (try simp only [AllAparts, Aparts, and_true] at hX'); (try k_sweep); (repeat ((rename And _ _ => hAnd9); (have hA9 := hAnd9.1); (have hB9 := hAnd9.2); (clear hAnd9)))) | ((with_reducible show wpAny _ _ (getAttr (Value.ref _) (Str.ofString "code") _) _ _ _); k_dflt (refine' exc_code ?Fz0 ?Xz0 ?Nz0 ?mz0 ?m2z0 ?cz0 ?dz0 ?vz0 ?qz0 ?_; (case Fz0 => k_asm); (case Xz0 => k_asm); (case Nz0 => k_asm); (case cz0 => with_reducible assumption); (case dz0 => with_reducible assumption); (case vz0 => with_reducible assumption); (case qz0 => with_reducible assumption); (case mz0 => k_mem); (case m2z0 => k_mem)); intro t') | ((with_reducible show wpAny _ _ (getAttr (Value.ref _) (Str.ofString "frame_type") _) _ _ _); k_dflt (refine' exc_frame ?Fz1 ?Xz1 ?Nz1 ?mz1 ?m2z1 ?cz1 ?dz1 ?vz1 ?qz1 ?_; (case Fz1 => k_asm); (case Xz1 => k_asm); (case Nz1 => k_asm); (case cz1 => with_reducible assumption); (case dz1 => with_reducible assumption); (case vz1 => with_reducible assumption); (case qz1 => with_reducible assumption); (case mz1 => k_mem); (case m2z1 => k_mem)); intro t') | (k_dflt (refine' caught_Q ?Kz2 ?hnz2 ?haz2 ?Rz2 ?XBz2 ?TBz2 ?exz2 ?_ ?h1z2 ?h2z2 ?h3z2 ?h4z2; (case Rz2 => with_reducible assumption); (case Kz2 => k_asm); (case hnz2 => with_reducible assumption); (case haz2 => exact Fr.above (by k_asm)); (case XBz2 => with_reducible assumption); (case TBz2 => with_reducible assumption); (case exz2 => k_is); (case h1z2 => exact rfl); (case h2z2 => exact rfl); (case h3z2 => exact rfl); (case h4z2 => decide)); intro h' g' oe' vs' tk' KT' F' N' hc' hd' hv' B' X' T')); (try k_steps))
  all_goals try dsimp only
  all_goals (refine' fin_bool ?cE ?cH; (case cH => (refine' ctw_fin ?cT ?cF ?cN ?cS ?cR ?cA (hO (⟨_, _, _, _, _⟩) _ _); (case cF => k_asm); (case cN => k_asm); (case cT => (repeat (first | with_reducible assumption | exact KtsTurn.refl | (refine' KtsTurn.trans ?cta ?_; (case cta => with_reducible assumption))))); (case cS => ((try dsimp only); repeat (first | exact List.forall_mem_nil _ | (refine' memCons ?cta ?_; (case cta => k_mem); (try dsimp only))))); (case cR => ((try dsimp only); repeat (first | exact List.forall_mem_nil _ | (intro ctA ctH; cases ctH; done) | (refine' memCons ⟨_, ?cta⟩ ?_; (case cta => k_mem); (try dsimp only))))); (case cA => (repeat' (first | ((try dsimp only); (with_reducible show @Eq Bool _ _); (first | exact rfl | (refine decide_eq_true ?ctc; (case ctc => omega)) | (refine decide_eq_false ?ctc; (case ctc => omega)) | (refine decide_eq_decide.mpr ?ctc; (case ctc => omega)) | (refine (decide_eq_true ?ctc).symm; (case ctc => omega)) | (refine (decide_eq_false ?ctc).symm; (case ctc => omega)) | (refine Bool.eq_iff_iff.mpr ?ctc; (case ctc => ((simp only [decide_eq_true_eq, beq_iff_eq, bne_iff_ne, ne_eq, List.size_toArray, List.length_cons, List.length_nil, true_and, Bool.false_eq_true, false_and, or_false, Bool.or_eq_true, Bool.and_eq_true]); omega))) | (subst_vars; (first | exact rfl | (refine Bool.eq_iff_iff.mpr ?ctc; (case ctc => ((simp only [decide_eq_true_eq, beq_iff_eq, bne_iff_ne, ne_eq, List.size_toArray, List.length_cons, List.length_nil, true_and, Bool.false_eq_true, false_and, or_false, Bool.or_eq_true, Bool.and_eq_true]); omega))) | (simp; done) | (simp; omega))) | (simp; done) | (simp; omega))) | exact True.intro | exact rfl | (intro _; omega) | (intro ctZ; cases ctZ; done) | (dsimp only; done) | ((try dsimp only); first | with_reducible assumption | (refine And.intro ?_ ?_) | (refine Apart.of ?_; k_ne) | exact Or.inl rfl | (refine Or.inr ?_) | exact rfl | omega)))))); (case cE => (first | exact rfl | (refine decide_eq_true ?ctc; (case ctc => omega)) | (refine decide_eq_false ?ctc; (case ctc => omega)) | (refine decide_eq_decide.mpr ?ctc; (case ctc => omega)) | (refine (decide_eq_true ?ctc).symm; (case ctc => omega)) | (refine (decide_eq_false ?ctc).symm; (case ctc => omega)) | (refine Bool.eq_iff_iff.mpr ?ctc; (case ctc => ((simp only [decide_eq_true_eq, beq_iff_eq, bne_iff_ne, ne_eq, List.size_toArray, List.length_cons, List.length_nil, true_and, Bool.false_eq_true, false_and, or_false, Bool.or_eq_true, Bool.and_eq_true]); omega))) | (subst_vars; (first | exact rfl | (refine Bool.eq_iff_iff.mpr ?ctc; (case ctc => ((simp only [decide_eq_true_eq, beq_iff_eq, bne_iff_ne, ne_eq, List.size_toArray, List.length_cons, List.length_nil, true_and, Bool.false_eq_true, false_and, or_false, Bool.or_eq_true, Bool.and_eq_true]); omega))) | (simp; done) | (simp; omega))) | (simp; done) | (simp; omega))))
theorem wrlowT (w : World) (pl : Addr) (a : Int) (lim sent : Int) (n : Nat) (t1 t2 t3 : Tok) (ha : a = 0 ∨ a = 1) (hP : PlanF a lim true sent) (hpl : Apart pl 226) :
    CtW w 130 (.ref 231) [.ref pl] [(pl, plO a lim sent true t1 t2 t3 n), (226, tabObj #[])] (Array Value × Tok × Tok × Tok × Nat) (fun _ => .bool true) (fun z => [(pl, plO a lim sent true z.2.1 z.2.2.1 z.2.2.2.1 z.2.2.2.2), (226, tabObj z.1)]) (fun _ => []) (fun _ => True) := by
  refine CtW.mk ?_
  intro p loose mean mg mb dp un gd base g env outer s R B kg sz X T XB TB HB N hd hu hO
  revert X XB; k_fill; intro X XB
  (k_dflt (refine' ct_codeC ?k1 ?ka ?kb ?k3 ?k5 ?k4 ?k6 ?k7 ?k8 ?k9 ?kB ?kD ?_ ?c2 ?c3 ?c4; (case k1 => assumption); (case ka => assumption); (case kb => assumption); (case k3 => assumption); (case k5 => assumption); (case k4 => assumption); (case k6 => k_is); (case k7 => k_is); (case k8 => k_room); (case k9 => exact BindsTo.of_eq rfl); (case kB => exact rfl); (case kD => decide +kernel); (case c2 => exact rfl); (case c3 => exact rfl); (case c4 => exact rfl); k_whole; intro L' h' tk' cells' F' N' Y' l1; (try k_lt l1); k_cells Y'; (try simp only [List.cons_append, List.nil_append] at N'); (try dsimp only); (try k_fold)))
  k_steps
  repeat (any_goals (refine Stop.mk ?_; first | ((with_reducible show wpAny _ _ (call (Value.ref 217) [Value.ref _]) _ _ _); refine wpAny_call ?_; k_dflt (refine' ct_use (ct_mlow (ha := ?pha) (hP := ?phP) ..) ?cB ?cF ?cX ?cN ?cT ?cA ?cG ?cK ?cs ?cr ?cd ?cu ?ch ?_; (case cA => exact rfl); (case cG => exact rfl); (case cK => exact rfl); (case cF => k_asm); (case cB => k_asm); (case cX => k_asm); (case cN => k_asm); (case cT => k_asm); (case cs => ((try dsimp only); repeat (first | exact List.forall_mem_nil _ | (refine' memCons ?cta ?_; (case cta => k_mem); (try dsimp only))))); (case pha => first | assumption | omega); (case phP => first | assumption | omega); (case cr => ((try simp only [List.map_cons, List.map_nil]); (repeat ((try ((with_reducible show List _); rotate_left)); first | exact Rst.nil | (refine' Rst.drop' ?ctm ?_; (case ctm => k_mem)) | (refine' Rst.keep ?ctn ?_; (case ctn => (repeat (first | exact List.forall_mem_nil _ | (refine' memCons ?cta ?_; (case cta => k_ne)))))) | (refine' Rst.drop ?_))))); (case cd => k_room); (case cu => (((try simp only [units_in1, units_deeper, units_caller, Around.mark_units, units_make]); first | omega | (simp only [cLine_is]; omega)))); (case ch => (first | assumption | (with_unfolding_all assumption) | exact rfl))); rintro ⟨zK, zx, zd, za, zl, zg, zn, zm, zt1, zt2, zt3, zu1, zu2, zu3, zu4, zst, zow, zea, zco⟩ h' tk' F' N' hX' hY'; (try dsimp only at N' hX' hY'); (try dsimp only); ((obtain ⟨hap9, hst9, hE1, hE2, hE3⟩ := hY'); subst hE1; subst hE2; subst hE3;  skip); (try simp only [List.cons_append, List.nil_append, List.append_nil] at N'); (try simp only [AllAparts, Aparts, and_true] at hX'); (try k_sweep); (repeat ((rename And _ _ => hAnd9); (have hA9 := hAnd9.1); (have hB9 := hAnd9.2); (clear hAnd9)))) | ((with_reducible show wpAny _ _ (call (Value.ref 224) [Value.ref _]) _ _ _); refine wpAny_call ?_; k_dflt (refine' ctw_use (told_lam1 (hE := ?phE) (hoc := ?phoc) (hv := ?phv) (hco := ?phco) (hst := ?phst) ..) ?cB ?cF ?cX ?cN ?cT ?cXB ?cTB ?cHB ?cA ?cG ?cK ?cs ?cr ?cd ?cu ?ch ?_; (case cA => exact rfl); (case cG => exact rfl); (case cK => exact rfl); (case cF => k_asm); (case cB => k_asm); (case cX => k_asm); (case cN => k_asm); (case cT => k_asm); (case cXB => k_asm); (case cTB => k_asm); (case cHB => k_asm); (case cs => ((try dsimp only); repeat (first | exact List.forall_mem_nil _ | (refine' memCons ?cta ?_; (case cta => k_mem); (try dsimp only))))); (case phE => exact fun _ => ⟨_, rfl⟩); (case phoc => first | with_reducible assumption | assumption); (case phv => first | with_reducible assumption | assumption); (case phco => first | with_reducible assumption | assumption); (case phst => (repeat' (first | ((try dsimp only); (with_reducible show @Eq Bool _ _); (first | exact rfl | (refine decide_eq_true ?ctc; (case ctc => omega)) | (refine decide_eq_false ?ctc; (case ctc => omega)) | (refine decide_eq_decide.mpr ?ctc; (case ctc => omega)) | (refine (decide_eq_true ?ctc).symm; (case ctc => omega)) | (refine (decide_eq_false ?ctc).symm; (case ctc => omega)) | (refine Bool.eq_iff_iff.mpr ?ctc; (case ctc => ((simp only [decide_eq_true_eq, beq_iff_eq, bne_iff_ne, ne_eq, List.size_toArray, List.length_cons, List.length_nil, true_and, Bool.false_eq_true, false_and, or_false, Bool.or_eq_true, Bool.and_eq_true]); omega))) | (subst_vars; (first | exact rfl | (refine Bool.eq_iff_iff.mpr ?ctc; (case ctc => ((simp only [decide_eq_true_eq, beq_iff_eq, bne_iff_ne, ne_eq, List.size_toArray, List.length_cons, List.length_nil, true_and, Bool.false_eq_true, false_and, or_false, Bool.or_eq_true, Bool.and_eq_true]); omega))) | (simp; done) | (simp; omega))) | (simp; done) | (simp; omega))) | exact True.intro | exact rfl | (intro _; omega) | (intro ctZ; cases ctZ; done) | (dsimp only; done) | ((try dsimp only); first | with_reducible assumption | (refine And.intro ?_ ?_) | (refine Apart.of ?_; k_ne) | exact Or.inl rfl | (refine Or.inr ?_) | exact rfl | omega)))); (case cr => ((try simp only [List.map_cons, List.map_nil]); (repeat ((try ((with_reducible show List _); rotate_left)); first | exact Rst.nil | (refine' Rst.drop' ?ctm ?_; (case ctm => k_mem)) | (refine' Rst.keep ?ctn ?_; (case ctn => (repeat (first | exact List.forall_mem_nil _ | (refine' memCons ?cta ?_; (case cta => k_ne)))))) | (refine' Rst.drop ?_))))); (case cd => k_room); (case cu => (((try simp only [units_in1, units_deeper, units_caller, Around.mark_units, units_make]); first | omega | (simp only [cLine_is]; omega)))); (case ch => (first | assumption | (with_unfolding_all assumption) | exact rfl))); rintro ⟨z1, z2, z3, z4, z5⟩ h' tk' g' KT' F' N' B' X' T' hX' hY'; (try dsimp only at N' hX' hY'); (try dsimp only); (try simp only [List.cons_append, List.nil_append, List.append_nil] at N'); (try simp only [AllAparts, Aparts, and_true] at hX'); (try k_sweep); (repeat ((rename And _ _ => hAnd9); (have hA9 := hAnd9.1); (have hB9 := hAnd9.2); (clear hAnd9)))) | ((with_reducible show wpAny _ _ (call (Value.ref 224) [Value.ref _]) _ _ _); refine wpAny_call ?_; k_dflt (refine' ctw_use (told_metB (hst := ?phst) (hap := ?phap) (h1 := ?ph1) (h2 := ?ph2) ..) ?cB ?cF ?cX ?cN ?cT ?cXB ?cTB ?cHB ?cA ?cG ?cK ?cs ?cr ?cd ?cu ?ch ?_; (case cA => exact rfl); (case cG => exact rfl); (case cK => exact rfl); (case cF => k_asm); (case cB => k_asm); (case cX => k_asm); (case cN => k_asm); (case cT => k_asm); (case cXB => k_asm); (case cTB => k_asm); (case cHB => k_asm); (case cs => ((try dsimp only); repeat (first | exact List.forall_mem_nil _ | (refine' memCons ?cta ?_; (case cta => k_mem); (try dsimp only))))); (case phst => (repeat' (first | ((try dsimp only); (with_reducible show @Eq Bool _ _); (first | exact rfl | (refine decide_eq_true ?ctc; (case ctc => omega)) | (refine decide_eq_false ?ctc; (case ctc => omega)) | (refine decide_eq_decide.mpr ?ctc; (case ctc => omega)) | (refine (decide_eq_true ?ctc).symm; (case ctc => omega)) | (refine (decide_eq_false ?ctc).symm; (case ctc => omega)) | (refine Bool.eq_iff_iff.mpr ?ctc; (case ctc => ((simp only [decide_eq_true_eq, beq_iff_eq, bne_iff_ne, ne_eq, List.size_toArray, List.length_cons, List.length_nil, true_and, Bool.false_eq_true, false_and, or_false, Bool.or_eq_true, Bool.and_eq_true]); omega))) | (subst_vars; (first | exact rfl | (refine Bool.eq_iff_iff.mpr ?ctc; (case ctc => ((simp only [decide_eq_true_eq, beq_iff_eq, bne_iff_ne, ne_eq, List.size_toArray, List.length_cons, List.length_nil, true_and, Bool.false_eq_true, false_and, or_false, Bool.or_eq_true, Bool.and_eq_true]); omega))) | (simp; done) | (simp; omega))) | (simp; done) | (simp; omega))) | exact True.intro | exact rfl | (intro _; omega) | (intro ctZ; cases ctZ; done) | (dsimp only; done) | ((try dsimp only); first | with_reducible assumption | (refine And.intro ?_ ?_) | (refine Apart.of ?_; k_ne) | exact Or.inl rfl | (refine Or.inr ?_) | exact rfl | omega)))); (case phap => (repeat' (first | ((try dsimp only); (with_reducible show @Eq Bool _ _); (first | exact rfl | (refine decide_eq_true ?ctc; (case ctc => omega)) | (refine decide_eq_false ?ctc; (case ctc => omega)) | (refine decide_eq_decide.mpr ?ctc; (case ctc => omega)) | (refine (decide_eq_true ?ctc).symm; (case ctc => omega)) | (refine (decide_eq_false ?ctc).symm; (case ctc => omega)) | (refine Bool.eq_iff_iff.mpr ?ctc; (case ctc => ((simp only [decide_eq_true_eq, beq_iff_eq, bne_iff_ne, ne_eq, List.size_toArray, List.length_cons, List.length_nil, true_and, Bool.false_eq_true, false_and, or_false, Bool.or_eq_true, Bool.and_eq_true]); omega))) | (subst_vars; (first | exact rfl | (refine Bool.eq_iff_iff.mpr ?ctc; (case ctc => ((simp only [decide_eq_true_eq, beq_iff_eq, bne_iff_ne, ne_eq, List.size_toArray, List.length_cons, List.length_nil, true_and, Bool.false_eq_true, false_and, or_false, Bool.or_eq_true, Bool.and_eq_true]); omega))) | (simp; done) | (simp; omega))) | (simp; done) | (simp; omega))) | exact True.intro | exact rfl | (intro _; omega) | (intro ctZ; cases ctZ; done) | (dsimp only; done) | ((try dsimp only); first | with_reducible assumption | (refine And.intro ?_ ?_) | (refine Apart.of ?_; k_ne) | exact Or.inl rfl | (refine Or.inr ?_) | exact rfl | omega)))); (case ph1 => (repeat' (first | ((try dsimp only); (with_reducible show @Eq Bool _ _); (first | exact rfl | (refine decide_eq_true ?ctc; (case ctc => omega)) | (refine decide_eq_false ?ctc; (case ctc => omega)) | (refine decide_eq_decide.mpr ?ctc; (case ctc => omega)) | (refine (decide_eq_true ?ctc).symm; (case ctc => omega)) | (refine (decide_eq_false ?ctc).symm; (case ctc => omega)) | (refine Bool.eq_iff_iff.mpr ?ctc; (case ctc => ((simp only [decide_eq_true_eq, beq_iff_eq, bne_iff_ne, ne_eq, List.size_toArray, List.length_cons, List.length_nil, true_and, Bool.false_eq_true, false_and, or_false, Bool.or_eq_true, Bool.and_eq_true]); omega))) | (subst_vars; (first | exact rfl | (refine Bool.eq_iff_iff.mpr ?ctc; (case ctc => ((simp only [decide_eq_true_eq, beq_iff_eq, bne_iff_ne, ne_eq, List.size_toArray, List.length_cons, List.length_nil, true_and, Bool.false_eq_true, false_and, or_false, Bool.or_eq_true, Bool.and_eq_true]); omega))) | (simp; done) | (simp; omega))) | (simp; done) | (simp; omega))) | exact True.intro | exact rfl | (intro _; omega) | (intro ctZ; cases ctZ; done) | (dsimp only; done) | ((try dsimp only); first | with_reducible assumption | (refine And.intro ?_ ?_) | (refine Apart.of ?_; k_ne) | exact Or.inl rfl | (refine Or.inr ?_) | exact rfl | omega)))); (case ph2 => (repeat' (first | ((try dsimp only); (with_reducible show @Eq Bool _ _); (first | exact rfl | (refine decide_eq_true ?ctc; (case ctc => omega)) | (refine decide_eq_false ?ctc; (case ctc => omega)) | (refine decide_eq_decide.mpr ?ctc; (case ctc => omega)) | (refine (decide_eq_true ?ctc).symm; (case ctc => omega)) | (refine (decide_eq_false ?ctc).symm; (case ctc => omega)) | (refine Bool.eq_iff_iff.mpr ?ctc; (case ctc => ((simp only [decide_eq_true_eq, beq_iff_eq, bne_iff_ne, ne_eq, List.size_toArray, List.length_cons, List.length_nil, true_and, Bool.false_eq_true, false_and, or_false, Bool.or_eq_true, Bool.and_eq_true]); omega))) | (subst_vars; (first | exact rfl | (refine Bool.eq_iff_iff.mpr ?ctc; (case ctc => ((simp only [decide_eq_true_eq, beq_iff_eq, bne_iff_ne, ne_eq, List.size_toArray, List.length_cons, List.length_nil, true_and, Bool.false_eq_true, false_and, or_false, Bool.or_eq_true, Bool.and_eq_true]); omega))) | (simp; done) | (simp; omega))) | (simp; done) | (simp; omega))) | exact True.intro | exact rfl | (intro _; omega) | (intro ctZ; cases ctZ; done) | (dsimp only; done) | ((try dsimp only); first | with_reducible assumption | (refine And.intro ?_ ?_) | (refine Apart.of ?_; k_ne) | exact Or.inl rfl | (refine Or.inr ?_) | exact rfl | omega)))); (case cr => ((try simp only [List.map_cons, List.map_nil]); (repeat ((try ((with_reducible show List _); rotate_left)); first | exact Rst.nil | (refine' Rst.drop' ?ctm ?_; (case ctm => k_mem)) | (refine' Rst.keep ?ctn ?_; (case ctn => (repeat (first | exact List.forall_mem_nil _ | (refine' memCons ?cta ?_; (case cta => k_ne)))))) | (refine' Rst.drop ?_))))); (case cd => k_room); (case cu => (((try simp only [units_in1, units_deeper, units_caller, Around.mark_units, units_make]); first | omega | (simp only [cLine_is]; omega)))); (case ch => (first | assumption | (with_unfolding_all assumption) | exact rfl))); rintro z1 h' tk' g' KT' F' N' B' X' T' hX' hY'; (try dsimp only at N' hX' hY'); (try dsimp only); (try simp only [List.cons_append, List.nil_append, List.append_nil] at N'); (try simp only [AllAparts, Aparts, and_true] at hX'); (try k_sweep); (repeat ((rename And _ _ => hAnd9); (have hA9 := hAnd9.1); (have hB9 := hAnd9.2); (clear hAnd9)))) | ((with_reducible show wpAny _ _ (getAttr (Value.ref _) (Str.ofString "code") _) _ _ _); k_dflt (refine' exc_code ?Fz0 ?Xz0 ?Nz0 ?mz0 ?m2z0 ?cz0 ?dz0 ?vz0 ?qz0 ?_; (case Fz0 => k_asm); (case Xz0 => k_asm); (case Nz0 => k_asm); (case cz0 => with_reducible assumption); (case dz0 => with_reducible assumption); (case vz0 => with_reducible assumption); (case qz0 => with_reducible assumption); (case mz0 => k_mem); (case m2z0 => k_mem)); intro t') | ((with_reducible show wpAny _ _ (getAttr (Value.ref _) (Str.ofString "frame_type") _) _ _ _); k_dflt (refine' exc_frame ?Fz1 ?Xz1 ?Nz1 ?mz1 ?m2z1 ?cz1 ?dz1 ?vz1 ?qz1 ?_; (case Fz1 => k_asm); (case Xz1 => k_asm); (case Nz1 => k_asm); (case cz1 => with_reducible assumption); (case dz1 => with_reducible assumption); (case vz1 => with_reducible assumption); (case qz1 => with_reducible assumption); (case mz1 => k_mem); (case m2z1 => k_mem)); intro t') | (k_dflt (refine' caught_Q ?Kz2 ?hnz2 ?haz2 ?Rz2 ?XBz2 ?TBz2 ?exz2 ?_ ?h1z2 ?h2z2 ?h3z2 ?h4z2; (case Rz2 => with_reducible assumption); (case Kz2 => k_asm); (case hnz2 => with_reducible assumption); (case haz2 => exact Fr.above (by k_asm)); (case XBz2 => with_reducible assumption); (case TBz2 => with_reducible assumption); (case exz2 => k_is); (case h1z2 => exact rfl); (case h2z2 => exact rfl); (case h3z2 => exact rfl); (case h4z2 => decide)); intro h' g' oe' vs' tk' KT' F' N' hc' hd' hv' B' X' T')); (try k_steps))
  all_goals try dsimp only
  all_goals (refine' fin_bool ?cE ?cH; (case cH => (refine' ctw_fin ?cT ?cF ?cN ?cS ?cR ?cA (hO (⟨_, _, _, _, _⟩) _ _); (case cF => k_asm); (case cN => k_asm); (case cT => (repeat (first | with_reducible assumption | exact KtsTurn.refl | (refine' KtsTurn.trans ?cta ?_; (case cta => with_reducible assumption))))); (case cS => ((try dsimp only); repeat (first | exact List.forall_mem_nil _ | (refine' memCons ?cta ?_; (case cta => k_mem); (try dsimp only))))); (case cR => ((try dsimp only); repeat (first | exact List.forall_mem_nil _ | (intro ctA ctH; cases ctH; done) | (refine' memCons ⟨_, ?cta⟩ ?_; (case cta => k_mem); (try dsimp only))))); (case cA => (repeat' (first | ((try dsimp only); (with_reducible show @Eq Bool _ _); (first | exact rfl | (refine decide_eq_true ?ctc; (case ctc => omega)) | (refine decide_eq_false ?ctc; (case ctc => omega)) | (refine decide_eq_decide.mpr ?ctc; (case ctc => omega)) | (refine (decide_eq_true ?ctc).symm; (case ctc => omega)) | (refine (decide_eq_false ?ctc).symm; (case ctc => omega)) | (refine Bool.eq_iff_iff.mpr ?ctc; (case ctc => ((simp only [decide_eq_true_eq, beq_iff_eq, bne_iff_ne, ne_eq, List.size_toArray, List.length_cons, List.length_nil, true_and, Bool.false_eq_true, false_and, or_false, Bool.or_eq_true, Bool.and_eq_true]); omega))) | (subst_vars; (first | exact rfl | (refine Bool.eq_iff_iff.mpr ?ctc; (case ctc => ((simp only [decide_eq_true_eq, beq_iff_eq, bne_iff_ne, ne_eq, List.size_toArray, List.length_cons, List.length_nil, true_and, Bool.false_eq_true, false_and, or_false, Bool.or_eq_true, Bool.and_eq_true]); omega))) | (simp; done) | (simp; omega))) | (simp; done) | (simp; omega))) | exact True.intro | exact rfl | (intro _; omega) | (intro ctZ; cases ctZ; done) | (dsimp only; done) | ((try dsimp only); first | with_reducible assumption | (refine And.intro ?_ ?_) | (refine Apart.of ?_; k_ne) | exact Or.inl rfl | (refine Or.inr ?_) | exact rfl | omega)))))); (case cE => (first | exact rfl | (refine decide_eq_true ?ctc; (case ctc => omega)) | (refine decide_eq_false ?ctc; (case ctc => omega)) | (refine decide_eq_decide.mpr ?ctc; (case ctc => omega)) | (refine (decide_eq_true ?ctc).symm; (case ctc => omega)) | (refine (decide_eq_false ?ctc).symm; (case ctc => omega)) | (refine Bool.eq_iff_iff.mpr ?ctc; (case ctc => ((simp only [decide_eq_true_eq, beq_iff_eq, bne_iff_ne, ne_eq, List.size_toArray, List.length_cons, List.length_nil, true_and, Bool.false_eq_true, false_and, or_false, Bool.or_eq_true, Bool.and_eq_true]); omega))) | (subst_vars; (first | exact rfl | (refine Bool.eq_iff_iff.mpr ?ctc; (case ctc => ((simp only [decide_eq_true_eq, beq_iff_eq, bne_iff_ne, ne_eq, List.size_toArray, List.length_cons, List.length_nil, true_and, Bool.false_eq_true, false_and, or_false, Bool.or_eq_true, Bool.and_eq_true]); omega))) | (simp; done) | (simp; omega))) | (simp; done) | (simp; omega))))
end

section
open PySem PySem.W PyProof.Rows PySem.Calls

theorem wri_all (w : World) (pl : Addr) (a lim sent : Int) (e : Bool) (n : Nat) (t1 t2 t3 : Tok) (hP : PlanF a lim e sent) (hpl : Apart pl 226) :
    CtW w 130 (.ref 231) [.ref pl] [(pl, plO a lim sent e t1 t2 t3 n), (226, tabObj #[])] (Array Value × Tok × Tok × Tok × Nat) (fun _ => .bool true) (fun z => [(pl, plO a lim sent e z.2.1 z.2.2.1 z.2.2.2.1 z.2.2.2.2), (226, tabObj z.1)]) (fun _ => []) (fun _ => True) := by
  by_cases c : 2 ≤ a
  · cases e
    · exact wrhighF w pl a lim sent n t1 t2 t3 c hP hpl
    · exact wrhighT w pl a lim sent n t1 t2 t3 c hP hpl
  · have c : a = 0 ∨ a = 1 := by have := hP.lo; omega
    cases e
    · exact wrlowF w pl a lim sent n t1 t2 t3 c hP hpl
    · exact wrlowT w pl a lim sent n t1 t2 t3 c hP hpl
end

section
open PySem PySem.W PyProof.Rows PySem.Calls
theorem ct_pick (w : World) (pen D : Addr) (ws : List Value) (ns : List Int) (k c many : Int) (tk tc tm : Tok) (n cc : Nat) (hI : IntsAre ws ns) (hap : Apart pen D) (hlen : ns.length ≤ 20) (hc : 0 ≤ c ∧ c < 997)
    (hk : 0 ≤ k ∧ k ≤ 3) (hm : 0 < many) :
    Ct w 8 (.ref 210) [.ref pen, .int many tm] [(pen, listOf #[.ref D, .int k tk, .int c tc] n), (D, listOf ws.toArray cc)] (Int × Tok × Tok × Nat × Int) (fun z => .int z.1 z.2.1)
      (fun z => [(pen, listOf #[.ref D, .int z.2.2.2.2 z.2.2.1, .int c tc] z.2.2.2.1), (D, listOf ws.toArray cc)]) (fun _ => []) (fun z => 0 ≤ z.1 ∧ z.1 < many ∧ z.2.2.2.2 = k + 1) := by
  have hlen' := hI.length
  obtain ⟨hk0, hk3⟩ := hk
  all_goals (
  refine Ct.mk ?_
  intro p loose mean mg mb dp un gd base g env outer s R B kg sz X T N hd hu hO
  revert X; k_fill; intro X
  (k_dflt (refine' ct_code ?k1 ?ka ?kb ?k3 ?k5 ?k4 ?k6 ?k7 ?k8 ?k9 ?kB ?_ ?c2 ?c3 ?c4 ?c5; (case k1 => assumption); (case ka => assumption); (case kb => assumption); (case k3 => assumption); (case k5 => assumption); (case k4 => assumption); (case k6 => k_is); (case k7 => k_is); (case k8 => k_room); (case k9 => exact BindsTo.of_eq rfl); (case c5 => decide); (case kB => exact locs rfl); (case c2 => exact rfl); (case c3 => exact rfl); (case c4 => exact rfl); k_whole; intro L' h' F' N' l1; (try k_lt l1); (try dsimp only); (try k_fold)))
  k_steps
  all_goals try dsimp only
  all_goals (refine' ct_fin ?cF ?cN ?cS ?cR ?cA (hO (⟨_, _, _, _, _⟩) _ _); (case cF => k_asm); (case cN => k_asm); (case cS => ((try dsimp only); repeat (first | exact List.forall_mem_nil _ | (refine' memCons ?cta ?_; (case cta => k_mem); (try dsimp only))))); (case cR => ((try dsimp only); repeat (first | exact List.forall_mem_nil _ | (intro ctA ctH; cases ctH; done) | (refine' memCons ⟨_, ?cta⟩ ?_; (case cta => k_mem); (try dsimp only))))); (case cA => (repeat' (first | (((try dsimp only); first | exact Int.fmod_nonneg_of_pos _ (by omega) | exact Int.fmod_lt_of_pos _ (by omega))) | ((try dsimp only); (with_reducible show @Eq Bool _ _); (first | exact rfl | (refine decide_eq_true ?ctc; (case ctc => omega)) | (refine decide_eq_false ?ctc; (case ctc => omega)) | (refine decide_eq_decide.mpr ?ctc; (case ctc => omega)) | (refine (decide_eq_true ?ctc).symm; (case ctc => omega)) | (refine (decide_eq_false ?ctc).symm; (case ctc => omega)) | (refine Bool.eq_iff_iff.mpr ?ctc; (case ctc => ((simp only [decide_eq_true_eq, beq_iff_eq, bne_iff_ne, ne_eq, List.size_toArray, List.length_cons, List.length_nil, true_and, Bool.false_eq_true, false_and, or_false, Bool.or_eq_true, Bool.and_eq_true]); omega))) | (subst_vars; (first | exact rfl | (refine Bool.eq_iff_iff.mpr ?ctc; (case ctc => ((simp only [decide_eq_true_eq, beq_iff_eq, bne_iff_ne, ne_eq, List.size_toArray, List.length_cons, List.length_nil, true_and, Bool.false_eq_true, false_and, or_false, Bool.or_eq_true, Bool.and_eq_true]); omega))) | (simp; done) | (simp; omega))) | (simp; done) | (simp; omega))) | exact True.intro | exact rfl | (intro _; omega) | (intro ctZ; cases ctZ; done) | (dsimp only; done) | ((try dsimp only); first | with_reducible assumption | (refine And.intro ?_ ?_) | (refine Apart.of ?_; k_ne) | exact Or.inl rfl | (refine Or.inr ?_) | exact rfl | omega)))))
  )
end

section
open PySem PySem.W PyProof.Rows PySem.Calls PySem.SeqAt

section
variable {prog : Program} {w : World} {A : Around} {E : Value → Shared → Prop} {s : Shared} {h₀ : Heap} {L l : Addr} {news : List (Addr × Obj)} {n : Nat} {t1 t2 t3 u : Tok} {k : Int} {Q : Value → Shared → Prop}
theorem menu3 {value slice : PySem.Expr} (N : News h₀ L s.heap news) (hm : (l, listOf #[.int 1 t1, .int 2 t2, .int 9 t3] n) ∈ news) (h0 : 0 ≤ k) (h3 : k < 3)
    (h : ∀ x t, (x = 1 ∨ x = 2 ∨ x = 9) → Q (.int x t) s)
    (hs : subscripted slice false (.ref l) (.int k u) = operate [.ref l, .int k u] (getItem (.ref l) (.int k u)) := by with_unfolding_all rfl) :
    wpAny (model prog w) A (subscriptTail value slice (.ref l) (.int k u)) Q E s := by
  have hl : s.heap.IsList l #[.int 1 t1, .int 2 t2, .int 9 t3] := ⟨_, (N _ hm).1, rfl, _, rfl⟩
  have hk : k = 0 ∨ k = 1 ∨ k = 2 := by omega
  rcases hk with rfl | rfl | rfl
  · exact tail_any hl.typeIs slot_list_getitem.lookup (wpAny_getItem_list hl (by decide) (by decide) (x := .int 1 t1) rfl (h _ _ (.inl rfl))) hs
  · exact tail_any hl.typeIs slot_list_getitem.lookup (wpAny_getItem_list hl (by decide) (by decide) (x := .int 2 t2) rfl (h _ _ (.inr (.inl rfl)))) hs
  · exact tail_any hl.typeIs slot_list_getitem.lookup (wpAny_getItem_list hl (by decide) (by decide) (x := .int 9 t3) rfl (h _ _ (.inr (.inr rfl)))) hs
end
section
variable {w : World} {A A₀ : Around} {s : Shared} {base h₀ : Heap} {env : Env} {L : Addr} {m mg mb : Str → Option Value} {led sub rest : List (Addr × Obj)} {R : Result → Shared → Prop}
  {p : Program} {loose : List Str} {mean : ExcName → Option Value} {d : Nat} {fv : Value} {vs : List Value} {T : Type} {val : T → Value} {out : T → List (Addr × Obj)} {fresh : T → List Addr} {fact : T → Prop}
noncomputable def CHd (h : Heap) : Prop := CodeHd h 230 226
theorem ctw_use0 (C : CtW w d fv vs sub T val out fresh fact) (B : Below A₀ base [] h₀) (F : Fr h₀ L s.heap m) (X : (Mine.hd.heap_1 w.params).In h₀) (N : News h₀ L s.heap led) (TT : Top p loose mean mg mb h₀)
    (XB : (Mine.hd.heap_1 w.params).In base) (TB : Top p loose mean mg mb base) (HB : CHd base)
    (hA : A.frames = some [env]) (hf : env.frame = some L) (hke : env.scope.kind = .function) (hsub : ∀ q ∈ sub, q ∈ led) (hrest : Rst (sub.map (·.1)) led rest)
    (hd : A.depth + d < recursionLimit) (hu : A.units + 10 * d < cLine) (hh : A.handled = none)
    (hk : ∀ (t : T) h' tk', Fr h₀ L h' m → News h₀ L h' (out t ++ rest) → AllAparts (fresh t) rest → fact t → R (.ok (.ret (val t))) { s with heap := h', toks := tk' }) :
    codeAny (model PySem.Challenge.rw_pf0262_01.row.prog w) A (.call fv ⟨vs, []⟩) R s :=
  ctw_use C B F X N TT XB TB HB hA hf hke hsub hrest hd hu hh fun t h' tk' g' KT F' N' _ _ _ ha hfa =>
    have up : ∀ b o, h₀.get? b = some o → g'.get? b = some o := fun b o e => KT.other b o e (by simp [fas])
    hk t h' tk' ⟨F'.ns, fun b o e => F'.keep b o (up b o e), by rw [← KT.size]; exact F'.above⟩
      (fun q hq => ⟨(N' q hq).1, (N' q hq).2.1, by
        cases z : h₀.get? q.1 with
        | none => rfl
        | some o => have := up _ _ z; rw [(N' q hq).2.2] at this; cases this⟩) ha hfa
end
end

section
open PySem PySem.W PyProof.Rows PySem.Calls PySem.SeqAt

noncomputable def nextN : Fl × Locs × Mem → Option (Locs × Mem)
  | (.next, q) => some q
  | _ => none
noncomputable def intN : AV → Nat
  | .int (.ofNat k) => k
  | _ => 0
noncomputable def booN : AV → Bool
  | .bool b => b
  | _ => false
noncomputable def isTab : Option AO → Bool
  | some .tab => true
  | _ => false
theorem isTab_is {o : Option AO} (h : isTab o = true) : o = some .tab := by
  rcases o with _ | x
  · cases h
  · cases x <;> cases h; rfl
theorem nextN_is {q : Fl × Locs × Mem} {r : Locs × Mem} (h : nextN q = some r) : q = (.next, r) := by
  obtain ⟨f, q⟩ := q
  cases f <;> cases h; rfl
noncomputable def plansB : List AV → Bool
  | [a, l, e, s] => plainEqs [a, l, e, s] (planT (intN a) (intN l) (booN e) (intN s)) && pOk (intN a) (intN l) (booN e) (intN s)
  | _ => false
theorem plansB_is {ρ : List Addr} {xs : List AV} {vs : List Value} (h : plansB xs = true) (hv : VRs ρ xs vs) : ∃ a l e s t1 t2 t3, vs = [.int a t1, .int l t2, .bool e, .int s t3] ∧ PlanF a l e s := by
  unfold plansB at h
  split at h
  · rename_i a l e s
    obtain ⟨h1, h2⟩ := Bool.and_eq_true_iff.mp h
    obtain ⟨t1, t2, t3, q⟩ := plan_back h1 hv
    exact ⟨_, _, _, _, t1, t2, t3, q, _, _, _, rfl, rfl, rfl, h2⟩
  · cases h
noncomputable def tailB (a l : Nat) (e : Bool) (s : Nat) : Bool :=
  (exSs (runF 8) b_tail [(56, .int (.ofNat a)), (0, .int (.ofNat l)), (62, .bool e), (61, .int (.ofNat s))] [.tab]).any fun q => (nextN q).any fun r => ((lookN 54 r.1).bind objN).any fun p => isTab (nth r.2 0) && (tupN (nth r.2 p)).any plansB
noncomputable def allT (a : Nat) : Bool := [2, 3, 4, 5].all fun l => [false, true].all fun e => [1, 2, 9].all fun s => tailB a l e s
theorem tail_0 : allT 0 = true := by decide +kernel
theorem tail_1 : allT 1 = true := by decide +kernel
theorem tail_2 : allT 2 = true := by decide +kernel
theorem tail_3 : allT 3 = true := by decide +kernel
theorem tail_4 : allT 4 = true := by decide +kernel
theorem tail_5 : allT 5 = true := by decide +kernel
theorem tail_all {a lim sent : Int} (e : Bool) (h0 : 0 ≤ a) (h5 : a < 6) (l2 : 2 ≤ lim) (l5 : lim < 6) (s3 : sent = 1 ∨ sent = 2 ∨ sent = 9) : ∃ a' l' s' : Nat, a = .ofNat a' ∧ lim = .ofNat l' ∧ sent = .ofNat s' ∧ tailB a' l' e s' = true := by
  refine ⟨a.toNat, lim.toNat, sent.toNat, (Int.toNat_of_nonneg h0).symm, (Int.toNat_of_nonneg (by omega)).symm, (Int.toNat_of_nonneg (by omega)).symm, ?_⟩
  have h := le5 (P := fun a => allT a = true) tail_0 tail_1 tail_2 tail_3 tail_4 tail_5 a.toNat (by omega)
  have h1 := List.all_eq_true.mp h lim.toNat (by simp; omega)
  have h2 := List.all_eq_true.mp h1 e (by cases e <;> simp)
  exact List.all_eq_true.mp h2 sent.toNat (by simp; omega)
section
variable {w : World} {A A₀ : Around} {s : Shared} {h₀ base : Heap} {L a : Addr} {m mg mb : Str → Option Value} {cn : Str} {cs : Scope} {ccd : Value} {kd : Kd} {p : Program} {loose : List Str} {mean : ExcName → Option Value} {E : Value → Shared → Prop}
theorem call1 {f pl : Addr} {n np : Str} {p1 p2 p3 : Pos} {Q : Value → Shared → Prop} (F : Fr h₀ L s.heap m) (X : (KF w).In h₀) (TT : Top p loose mean mg mb h₀) (hk : cs.kind = .function) (kn : cs.names.lookup n = some .globalImplicit) (dn : (n == ("__debug__" : Str)) = false)
    (g : nsIn (KF w) mainGlobals n = some (some (.ref f))) (kp : keepIn (KF w) (.ref f) = true) (knp : cs.names.lookup np = some .local) (dnp : (np == ("__debug__" : Str)) = false) (hm : m np = some (.ref pl))
    (k : codeAny (model PG w) A (.call (.ref f) ⟨[.ref pl], []⟩) (fun r s' => match r with | .ok (.ret v) => Q v s' | .ok _ => False | .error e => E e s') s) :
    wpAny (model PG w) A (eval (.Call (.Name n p1) [.Name np p2] [] p3) (envX cn cs L a ccd [])) Q E s := by
  refine Call_ (nameX_K F X (topRead_of TT) g ?_ hk kn dn)
  exact callWith_K X kp (args_cons (nameX_L F hm (args_nil ⟨X.keeps F.keep, wpAny_call k⟩) hk knp dnp))
theorem law_tail (kl : List (Nat × NameKind)) {e1 e2 e3 e4 : Stmt} {n1 n2 n3 n4 : Str} {p1 p2 p3 p4 q1 q2 q3 q4 r1 r2 r3 r4 pb pr : Pos} {lim at_ sent : Int} {ta tl ts : Tok} {e : Bool} {led : List (Addr × Obj)} {Q : Flow → Shared → Prop}
    (B : Below A₀ base [] h₀) (F : Fr h₀ L s.heap m) (X : (KF w).In h₀) (N : News h₀ L s.heap led) (h226 : (226, tabObj #[]) ∈ led) (TT : Top p loose mean mg mb h₀) (XB : (KF w).In base) (TB : Top p loose mean mg mb base) (HB : CHd base)
    (hA : A.frames = some [envX cn cs L a ccd []]) (hh : A.handled = none) (hd : A.depth + 130 < recursionLimit) (hu : A.units + 1300 < cLine)
    (m1 : m (nm 56) = some (.int at_ ta)) (m2 : m (nm 0) = some (.int lim tl)) (m3 : m (nm 62) = some (.bool e)) (m4 : m (nm 61) = some (.int sent ts)) (h0 : 0 ≤ at_) (h5 : at_ < 6) (l2 : 2 ≤ lim) (l5 : lim < 6) (s3 : sent = 1 ∨ sent = 2 ∨ sent = 9)
    (h : ∀ m' h' tk z, Fr h₀ L h' m' → News h₀ L h' [(226, tabObj z)] → Q (.ret (.bool true)) { s with heap := h', toks := tk })
    (hk : cs.kind = .function) (hkl : KdAll cs kl) (nc : lookN wPART kl ≠ some .cell) (ms : MSs cs ⟨fun i => lookN i kl, cs⟩ b_tail [e1, e2, e3, e4]) (kp : cs.names.lookup (nm 54) = some .local)
    (k1 : cs.names.lookup n1 = some .globalImplicit) (k2 : cs.names.lookup n2 = some .globalImplicit) (k3 : cs.names.lookup n3 = some .globalImplicit) (k4 : cs.names.lookup n4 = some .globalImplicit)
    (d1 : (n1 == ("__debug__" : Str)) = false) (d2 : (n2 == ("__debug__" : Str)) = false) (d3 : (n3 == ("__debug__" : Str)) = false) (d4 : (n4 == ("__debug__" : Str)) = false)
    (g1 : nsIn (KF w) mainGlobals n1 = some (some (.ref 231))) (g2 : nsIn (KF w) mainGlobals n2 = some (some (.ref 238))) (g3 : nsIn (KF w) mainGlobals n3 = some (some (.ref 243))) (g4 : nsIn (KF w) mainGlobals n4 = some (some (.ref 250)))
    (f1 : keepIn (KF w) (.ref 231) = true) (f2 : keepIn (KF w) (.ref 238) = true) (f3 : keepIn (KF w) (.ref 243) = true) (f4 : keepIn (KF w) (.ref 250) = true) :
    wpAny (model PG w) A (execs [e1, e2, e3, e4, .Return (some (.BoolOp .And [.Call (.Name n1 p1) [.Name (nm 54) q1] [] r1, .Call (.Name n2 p2) [.Name (nm 54) q2] [] r2, .Call (.Name n3 p3) [.Name (nm 54) q3] [] r3, .Call (.Name n4 p4) [.Name (nm 54) q4] [] r4] pb)) pr] (envX cn cs L a ccd [])) Q E s := by
  obtain ⟨a', l', s', rfl, rfl, rfl, hb⟩ := tail_all e h0 h5 l2 l5 s3
  obtain ⟨q1, x1, hc1⟩ := any_get hb
  clear hb
  obtain ⟨⟨ls1, σ1⟩, xn, hc2⟩ := any_get hc1
  clear hc1
  cases nextN_is xn
  clear xn
  obtain ⟨pi, xp, hc3⟩ := any_get hc2
  clear hc2
  obtain ⟨w2, x2, x5⟩ := Option.bind_eq_some_iff.mp xp
  cases objN_is x5
  clear xp x5
  obtain ⟨xt, hc4⟩ := Bool.and_eq_true_iff.mp hc3
  clear hc3
  have x3 := isTab_is xt
  clear xt
  obtain ⟨xs, x4, hb⟩ := any_get hc4
  clear hc4
  replace x4 := tupN_is x4
  have C : Cx w A h₀ (envX cn cs L a ccd []) 88 := ⟨⟨A₀, base, [], B, hA⟩, X, ⟨p, loose, mean, mg, mb, TT⟩, hh, by omega, by omega⟩
  have I : Inv h₀ L m [(56, .int (.ofNat a')), (0, .int (.ofNat l')), (62, .bool e), (61, .int (.ofNat s'))] [.tab] [(226, tabObj #[])] s.heap := by
    refine ⟨F, fun q hq => N q ?_, by simp [live, isJ, adr], .cons rfl .nil, fun i v hv => ?_⟩
    · cases List.mem_singleton.mp hq; exact h226
    · have hv := lookN_mem hv
      simp only [List.mem_cons, Prod.mk.injEq, List.not_mem_nil, or_false] at hv
      rcases hv with ⟨rfl, rfl⟩ | ⟨rfl, rfl⟩ | ⟨rfl, rfl⟩ | ⟨rfl, rfl⟩
      · exact ⟨_, m1, _, rfl⟩
      · exact ⟨_, m2, _, rfl⟩
      · exact ⟨_, m3, rfl⟩
      · exact ⟨_, m4, _, rfl⟩
  have S := (s_all (cl := []) (stat w) (calls_ok w 8) C (cts_ok w 8) (kd := ⟨fun i => lookN i kl, cs⟩) (fun q => absurd q nc) (by omega) hk (kd_of hkl) ms).2
  refine wpAny_mono (E := Nope) (S _ _ _ _ _ _ s [_] Q x1 I trivial fun m5 led5 h5 tk5 pr5 I5 => ?_) (fun _ _ q => q) fun _ _ q => q.elim
  refine opq fun P' kP => ?_
  obtain ⟨pv, hpv, hpr⟩ := I5.lc 54 _ x2
  obtain ⟨pl, po, rfl, hm1, hn1, vs, k, hvs, rfl⟩ := I5.ref x4 hpr
  obtain ⟨a2, l3, e2', s2, u1, u2, u3, rfl, hP⟩ := plansB_is hb hvs
  obtain ⟨b, bo, hb1, hb2, hb3, hb4⟩ := I5.get x3
  have hb0 : b = 226 := Option.some.inj (hb1.symm.trans (nth_prefix pr5 rfl))
  cases hb4
  subst hb0
  have hap : Apart pl 226 := live_ne I5.nd rfl rfl x4 x3 (by nofun) hn1 hb3
  refine kP (wpAny_execs_cons (wpAny_Return_some ?_))
  dsimp only
  refine BoolOp_and (call1 (s := { s with heap := h5, toks := tk5 }) I5.fr X TT hk k1 d1 g1 f1 kp ((stat w).dbg 54) hpv ?_)
  refine ctw_use0 (wri_all w pl a2 l3 s2 e2' k u1 u2 u3 hP hap) (led := live σ1 led5) (rest := []) B I5.fr X I5.nw TT XB TB HB hA rfl hk (fun q hq => by
    rcases List.mem_cons.mp hq with rfl | hq
    · exact hm1
    · rw [List.mem_singleton.mp hq]; exact hb2) (rst_none _ _) hd (by omega) hh fun t6 h6 tk6 F6 N6 _ _ => ?_
  refine wpAny_truthy_bool ?_
  rw [if_pos rfl]
  refine BoolOp_and (call1 (s := { s with heap := h6, toks := tk6 }) F6 X TT hk k2 d2 g2 f2 kp ((stat w).dbg 54) hpv ?_)
  refine ct_use (giv_all w pl a2 l3 s2 e2' _ _ _ _ hP) (s := { s with heap := h6, toks := tk6 }) (rest := [(226, tabObj t6.1)]) B F6 X N6 TT hA rfl hk (fun q hq => by rw [List.mem_singleton.mp hq]; exact .head _) (.drop (.keep (fun b hb => by rw [List.mem_singleton.mp hb]; exact hap.ne.symm) .nil)) (by omega) (by omega) hh fun t7 h7 tk7 F7 N7 _ _ => ?_
  refine wpAny_truthy_bool ?_
  rw [if_pos rfl]
  refine BoolOp_and (call1 (s := { s with heap := h7, toks := tk7 }) F7 X TT hk k3 d3 g3 f3 kp ((stat w).dbg 54) hpv ?_)
  refine ct_use (room_all w pl a2 l3 s2 e2' _ _ _ _ hP) (s := { s with heap := h7, toks := tk7 }) (rest := [(226, tabObj t6.1)]) B F7 X N7 TT hA rfl hk (fun q hq => by rw [List.mem_singleton.mp hq]; exact .head _) (.drop (.keep (fun b hb => by rw [List.mem_singleton.mp hb]; exact hap.ne.symm) .nil)) (by omega) (by omega) hh fun t8 h8 tk8 F8 N8 _ _ => ?_
  refine wpAny_truthy_bool ?_
  rw [if_pos rfl]
  refine BoolOp_one (call1 (s := { s with heap := h8, toks := tk8 }) F8 X TT hk k4 d4 g4 f4 kp ((stat w).dbg 54) hpv ?_)
  refine ct_use (chk_all w pl a2 l3 s2 e2' _ _ _ _ hP) (s := { s with heap := h8, toks := tk8 }) (rest := [(226, tabObj t6.1)]) B F8 X N8 TT hA rfl hk (fun q hq => by rw [List.mem_singleton.mp hq]; exact .head _) (.drop (.keep (fun b hb => by rw [List.mem_singleton.mp hb]; exact hap.ne.symm) .nil)) (by omega) (by omega) hh fun t9 h9 tk9 F9 N9 _ _ => ?_
  exact h m5 h9 tk9 t6.1 F9 fun q hq => N9 q (List.mem_append_right _ hq)
end
end

section
open PySem PySem.W PyProof.Rows PySem.Calls
local macro_rules | `(tactic| walk_at "subscriptTail") => `(tactic| (k_here; refine Stop.out ?_))
local macro_rules | `(tactic| walk_at "execs cons") => `(tactic| (k_here; (with_reducible show wpAny _ _ (execs [Stmt.If _ _ _ _, Stmt.If _ _ _ _, Stmt.Assign _ _ _, Stmt.If _ _ _ _, Stmt.Return _ _] _) _ _ _); refine Stop.out ?_))
theorem lawHolds : PySem.Challenge.rw_pf0262_01.Holds := Mine.hd (by
  k_go0
  (all_goals try k_fold)
  rename CodeHd _ _ _ => c9
  have c10 : CHd _ := c9
  clear c9
  k_steps
  repeat (any_goals (refine Stop.mk ?_; first | ((with_reducible show wpAny _ _ (call (Value.ref 210) [Value.ref _, Value.int _ _]) _ _ _); refine wpAny_call ?_; k_dflt (refine' ct_use (ct_pick (hI := ?phI) (hap := ?phap) (hlen := ?phlen) (hc := ?phc) (hk := ?phk) (hm := ?phm) ..) ?cB ?cF ?cX ?cN ?cT ?cA ?cG ?cK ?cs ?cr ?cd ?cu ?ch ?_; (case cA => exact rfl); (case cG => exact rfl); (case cK => exact rfl); (case cF => k_asm); (case cB => k_asm); (case cX => k_asm); (case cN => k_asm); (case cT => k_asm); (case cs => ((try dsimp only); repeat (first | exact List.forall_mem_nil _ | (refine' memCons ?cta ?_; (case cta => k_mem); (try dsimp only))))); (case phI => with_reducible assumption); (case phap => (repeat' (first | (((try dsimp only); first | exact Int.fmod_nonneg_of_pos _ (by decide) | exact Int.fmod_lt_of_pos _ (by decide))) | ((try dsimp only); (with_reducible show @Eq Bool _ _); (first | exact rfl | (refine decide_eq_true ?ctc; (case ctc => omega)) | (refine decide_eq_false ?ctc; (case ctc => omega)) | (refine decide_eq_decide.mpr ?ctc; (case ctc => omega)) | (refine (decide_eq_true ?ctc).symm; (case ctc => omega)) | (refine (decide_eq_false ?ctc).symm; (case ctc => omega)) | (refine Bool.eq_iff_iff.mpr ?ctc; (case ctc => ((simp only [decide_eq_true_eq, beq_iff_eq, bne_iff_ne, ne_eq, List.size_toArray, List.length_cons, List.length_nil, true_and, Bool.false_eq_true, false_and, or_false, Bool.or_eq_true, Bool.and_eq_true]); omega))) | (subst_vars; (first | exact rfl | (refine Bool.eq_iff_iff.mpr ?ctc; (case ctc => ((simp only [decide_eq_true_eq, beq_iff_eq, bne_iff_ne, ne_eq, List.size_toArray, List.length_cons, List.length_nil, true_and, Bool.false_eq_true, false_and, or_false, Bool.or_eq_true, Bool.and_eq_true]); omega))) | (simp; done) | (simp; omega))) | (simp; done) | (simp; omega))) | exact True.intro | exact rfl | (intro _; omega) | (intro ctZ; cases ctZ; done) | (dsimp only; done) | ((try dsimp only); first | with_reducible assumption | (refine And.intro ?_ ?_) | (refine Apart.of ?_; k_ne) | exact Or.inl rfl | (refine Or.inr ?_) | exact rfl | omega)))); (case phlen => omega); (case phc => (repeat' (first | (((try dsimp only); first | exact Int.fmod_nonneg_of_pos _ (by decide) | exact Int.fmod_lt_of_pos _ (by decide))) | ((try dsimp only); (with_reducible show @Eq Bool _ _); (first | exact rfl | (refine decide_eq_true ?ctc; (case ctc => omega)) | (refine decide_eq_false ?ctc; (case ctc => omega)) | (refine decide_eq_decide.mpr ?ctc; (case ctc => omega)) | (refine (decide_eq_true ?ctc).symm; (case ctc => omega)) | (refine (decide_eq_false ?ctc).symm; (case ctc => omega)) | (refine Bool.eq_iff_iff.mpr ?ctc; (case ctc => ((simp only [decide_eq_true_eq, beq_iff_eq, bne_iff_ne, ne_eq, List.size_toArray, List.length_cons, List.length_nil, true_and, Bool.false_eq_true, false_and, or_false, Bool.or_eq_true, Bool.and_eq_true]); omega))) | (subst_vars; (first | exact rfl | (refine Bool.eq_iff_iff.mpr ?ctc; (case ctc => ((simp only [decide_eq_true_eq, beq_iff_eq, bne_iff_ne, ne_eq, List.size_toArray, List.length_cons, List.length_nil, true_and, Bool.false_eq_true, false_and, or_false, Bool.or_eq_true, Bool.and_eq_true]); omega))) | (simp; done) | (simp; omega))) | (simp; done) | (simp; omega))) | exact True.intro | exact rfl | (intro _; omega) | (intro ctZ; cases ctZ; done) | (dsimp only; done) | ((try dsimp only); first | with_reducible assumption | (refine And.intro ?_ ?_) | (refine Apart.of ?_; k_ne) | exact Or.inl rfl | (refine Or.inr ?_) | exact rfl | omega)))); (case phk => omega); (case phm => omega); (case cr => ((try simp only [List.map_cons, List.map_nil]); (repeat ((try ((with_reducible show List _); rotate_left)); first | exact Rst.nil | (refine' Rst.drop' ?ctm ?_; (case ctm => k_mem)) | (refine' Rst.keep ?ctn ?_; (case ctn => (repeat (first | exact List.forall_mem_nil _ | (refine' memCons ?cta ?_; (case cta => k_ne)))))) | (refine' Rst.drop ?_))))); (case cd => k_room); (case cu => (((try simp only [units_in1, units_deeper, units_caller, Around.mark_units, units_make]); first | omega | (simp only [cLine_is]; omega)))); (case ch => (first | assumption | (with_unfolding_all assumption) | exact rfl))); rintro ⟨zp, zq, zr, zs, zk⟩ h' tk' F' N' hX' hY'; (try dsimp only at N' hX' hY'); (try dsimp only); (try simp only [List.cons_append, List.nil_append, List.append_nil] at N'); (try simp only [AllAparts, Aparts, and_true] at hX'); (try k_sweep); (repeat ((rename And _ _ => hAnd9); (have hA9 := hAnd9.1); (have hB9 := hAnd9.2); (clear hAnd9)))) | ((with_reducible show wpAny _ _ (subscriptTail _ _ (Value.ref _) (Value.int _ _)) _ _ _); k_dflt (refine' menu3 ?Nz0 ?mz0 ?az0 ?bz0 ?_ ?cz0; (case Nz0 => k_asm); (case mz0 => k_mem); (case az0 => omega); (case bz0 => omega); (case cz0 => with_unfolding_all rfl)); intro x' t' hx') | ((with_reducible show wpAny _ _ (execs [Stmt.If _ _ _ _, Stmt.If _ _ _ _, Stmt.Assign _ _ _, Stmt.If _ _ _ _, Stmt.Return _ _] _) _ _ _); k_dflt (refine' law_tail [(0, .local), (18, .globalImplicit), (54, .local), (56, .local), (61, .local), (62, .local), (72, .globalImplicit), (74, .globalImplicit)] ?Bz1 ?Fz1 ?Xz1 ?Nz1 ?h226z1 ?TTz1 ?XBz1 ?TBz1 ?HBz1 ?hAz1 ?hhz1 ?hdz1 ?huz1 ?m1z1 ?m2z1 ?m3z1 ?m4z1 ?h0z1 ?h5z1 ?l2z1 ?l5z1 ?s3z1 ?hz1 ?hkz1 ?hklz1 ?ncz1 ?msz1 ?kpz1 ?k1z1 ?k2z1 ?k3z1 ?k4z1 ?d1z1 ?d2z1 ?d3z1 ?d4z1 ?g1z1 ?g2z1 ?g3z1 ?g4z1 ?f1z1 ?f2z1 ?f3z1 ?f4z1; (case Bz1 => k_asm); (case Fz1 => k_asm); (case Xz1 => k_asm); (case Nz1 => k_asm); (case TTz1 => k_asm); (case XBz1 => k_asm); (case TBz1 => k_asm); (case HBz1 => k_asm); (case h226z1 => k_mem); (case hAz1 => exact rfl); (case hhz1 => exact rfl); (case hdz1 => k_room); (case huz1 => (((try simp only [units_in1, units_deeper, units_caller, Around.mark_units, units_make]); first | omega | (simp only [cLine_is]; omega)))); (case m1z1 => exact rfl); (case m2z1 => exact rfl); (case m3z1 => exact rfl); (case m4z1 => exact rfl); (case h0z1 => omega); (case h5z1 => omega); (case l2z1 => omega); (case l5z1 => omega); (case s3z1 => assumption); (case hkz1 => exact rfl); (case hklz1 => exact ⟨by kernel_rfl, by kernel_rfl, by kernel_rfl, by kernel_rfl, by kernel_rfl, by kernel_rfl, by kernel_rfl, by kernel_rfl, trivial⟩); (case ncz1 => decide); (case msz1 => exact (.cons (.iff (.cmp (.loc rfl rfl) (.tup (.cons (.int rfl) (.cons (.int rfl) .nil)))) (.cons (.asg3 rfl rfl rfl rfl rfl rfl (.tup (.cons (.callF rfl rfl (.cons (.loc rfl rfl) (.cons (.int rfl) .nil))) (.cons .bool (.cons (.int rfl) .nil)))) rfl (fun _ _ _ _ _ => by rfl)) .nil) .nil) (.cons (.iff (.and (.cons (.cmp (.loc rfl rfl) (.int rfl)) (.cons (.loc (.loc rfl rfl)) (.cons (.cmp (.loc rfl rfl) (.int rfl)) (.cons (.cmp (.loc rfl rfl) (.int rfl)) .nil))))) (.cons (.asg rfl rfl (.int rfl) rfl) .nil) .nil) (.cons (.asg rfl rfl (.tup (.cons (.loc rfl rfl) (.cons (.loc rfl rfl) (.cons (.loc rfl rfl) (.cons (.loc rfl rfl) .nil))))) rfl) (.cons (.iff (.cmp (.attrX rfl (.callF rfl rfl (.cons (.loc rfl rfl) .nil)) rfl) (.idx (.callF rfl rfl .nil) (.loc rfl rfl))) (.cons (.ret .bool) .nil) .nil) .nil))))); (case kpz1 => kernel_rfl); (case k1z1 => kernel_rfl); (case k2z1 => kernel_rfl); (case k3z1 => kernel_rfl); (case k4z1 => kernel_rfl); (case d1z1 => kernel_rfl); (case d2z1 => kernel_rfl); (case d3z1 => kernel_rfl); (case d4z1 => kernel_rfl); (case g1z1 => kernel_rfl); (case g2z1 => kernel_rfl); (case g3z1 => kernel_rfl); (case g4z1 => kernel_rfl); (case f1z1 => kernel_rfl); (case f2z1 => kernel_rfl); (case f3z1 => kernel_rfl); (case f4z1 => kernel_rfl)); intro m9 h' tk' z9 F' N')); (try k_steps))
  (all_goals (try k_data)))
end

end Mine

theorem PySem.Challenge.cw_pf0262_01_holds : PySem.Challenge.rw_pf0262_01.Holds := by
  exact Mine.lawHolds
