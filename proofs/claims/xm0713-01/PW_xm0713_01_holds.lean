import PyProof.Rows.All
import Wide.All
import OpenK.AllK
import Wide.FinOn
import PySem.Challenge.RW_xm0713_01
set_option Elab.async false
set_option maxRecDepth 100000

section
open PySem PySem.W PyProof.Rows
namespace Mine
set_option maxHeartbeats 8000000 in
open_top hd for PySem.Challenge.rw_xm0713_01
end Mine
end

section
open PySem PySem.W PySem.Calls PyProof.Rows
namespace Mine

section
variable {prog : Program} {w : World} {A₀ A : Around} {s : Shared} {base h₀ : Heap} {outer : List Env} {L : Addr} {m mg mb : Str → Option Value} {env : Env} {news : List (Addr × Obj)} {K : Frag} {p : Program} {loose : List Str} {mean : ExcName → Option Value}
  {R : Result → Shared → Prop} {name qual : Str} {params : Arguments} {body : List Stmt} {scope : Scope} {dV kV doc pm cdv ct oc : Value} {an od : Option Addr} {osl : Array (Option Value)} {f : Addr} {args : Args} {binds : List (Str × Value)}

/-- entering a def of the text with a part of the ledger: all else that stood stays as it stood -/
theorem enter_part (B : Below A₀ base outer h₀) (F : Fr h₀ L s.heap m) (X₀ : K.In h₀) (N : News h₀ L s.heap news) (T : Top p loose mean mg mb h₀) (hA : A.frames = some (env :: outer)) (hf : env.frame = some L) (hke : env.scope.kind = .function)
    (ho : K.lookup f = some ⟨oc, od, .func (fnOf name qual params body scope dV kV doc pm an cdv ct), osl⟩) (hcd : codeIn K cdv qual = true) (hroom : A.depth < recursionLimit)
    (hbind : BindsTo s (fnOf name qual params body scope dV kV doc pm an cdv ct) args binds) (hloc : ∀ y ∈ binds, scope.names.lookup y.1 = some .local)
    (h : ∀ g L' h₁, Fr h₀ L g m → Fr g L' h₁ (fun y => binds.reverse.lookup y) → News g L' h₁ news → Below A base (env :: outer) g → K.In g → Top p loose mean mg mb g → (∀ p ∈ news, p.1 < L') →
      (∀ b o, s.heap.get? b = some o → b ∉ news.map (·.1) → g.get? b = some o) →
      wpAny (model prog w) (A.deeper (envOf qual scope L' f cdv)) (execs body (envOf qual scope L' f cdv))
        (fun fl s' => LeaveK h₀ L m g R (match fl with | .ret v => v | _ => .none) s')
        (fun e s' => wpAny (model prog w) (A.deeper (envOf qual scope L' f cdv)) (leaving (envOf qual scope L' f cdv) e) (fun _ s'' => R (.error e) s'') (fun e' s'' => R (.error e') s'') s')
        { s with heap := h₁, toks := s.toks + binds.length })
    (hco : scope.isCoroutine = false) (hgen : scope.isGenerator = false) (hk : scope.kind = .function)
    (hcell : ∀ x ∈ scope.names, x.2 ≠ .cell) : codeAny (model prog w) A (.call (.ref f) args) R s := by
  obtain ⟨FG, BG, st, lv⟩ := groundX (R := R) B F N hA hf hke
  refine codeAny_call_def (fd := fnOf name qual params body scope dV kV doc pm an cdv ct) (body := body) (binds := binds) hroom ((X₀.keeps F.keep) _ _ ho) rfl (T.nolimit.keeps F.keep) (codeRec_of (X₀.keeps F.keep) hcd) rfl hbind hcell hloc (fun h₁ hns hk₁ => ?_) hco hgen hk
  exact wpAny_mono (h _ s.heap.objs.size h₁ FG ⟨hns, fun b o e => hk₁ b o (of_hideAll _ e), Nat.le_of_eq (hideAll_size _ _)⟩
    (fun p hp => ⟨hk₁ _ _ (N p hp).1, Nat.ne_of_lt (Heap.lt_size (N p hp).1), hideAll_none _ (List.mem_map_of_mem hp)⟩) BG (X₀.keeps st) (T.keeps st) (fun p hp => Heap.lt_size (N p hp).1)
    (fun b o e hb => hideAll_get _ e hb)) (fun fl s' hl => lv _ _ hl) fun _ _ y => y

/-- the same for a def that has cells -/
theorem enter_partC (B : Below A₀ base outer h₀) (F : Fr h₀ L s.heap m) (X₀ : K.In h₀) (N : News h₀ L s.heap news) (T : Top p loose mean mg mb h₀) (hA : A.frames = some (env :: outer)) (hf : env.frame = some L) (hke : env.scope.kind = .function)
    (ho : K.lookup f = some ⟨oc, od, .func (fnOf name qual params body scope dV kV doc pm an cdv ct), osl⟩) (hcd : codeIn K cdv qual = true) (hroom : A.depth < recursionLimit)
    (hbind : BindsTo s (fnOf name qual params body scope dV kV doc pm an cdv ct) args binds) (hkind : (binds.all fun y => scope.names.lookup y.1 == some .local || scope.names.lookup y.1 == some .cell) = true)
    (hnd : ((cellsFrom 0 scope.names []).map (·.1)).Nodup)
    (h : ∀ g L' h₁ tk cells, Fr h₀ L g m → Fr g L' h₁ (bindL (envOfC qual scope L' f cdv).kindOf binds fun _ => none) → News g L' h₁ (cells ++ news) →
      CellsAre (bindC (envOfC qual scope L' f cdv).kindOf binds fun _ => none) (cellsFrom (L' + 1) scope.names []) cells → Below A base (env :: outer) g → K.In g → Top p loose mean mg mb g → (∀ p ∈ news, p.1 < L') →
      (∀ b o, s.heap.get? b = some o → b ∉ news.map (·.1) → g.get? b = some o) →
      wpAny (model prog w) (A.deeper (envOfC qual scope L' f cdv)) (execs body (envOfC qual scope L' f cdv))
        (fun fl s' => LeaveK h₀ L m g R (match fl with | .ret v => v | _ => .none) s')
        (fun e s' => wpAny (model prog w) (A.deeper (envOfC qual scope L' f cdv)) (leaving (envOfC qual scope L' f cdv) e) (fun _ s'' => R (.error e) s'') (fun e' s'' => R (.error e') s'') s')
        { s with heap := h₁, toks := tk })
    (hco : scope.isCoroutine = false) (hgen : scope.isGenerator = false) (hk : scope.kind = .function) : codeAny (model prog w) A (.call (.ref f) args) R s := by
  obtain ⟨FG, BG, st, lv⟩ := groundX (R := R) B F N hA hf hke
  have X := X₀.keeps F.keep
  refine codeAny_call_function (fd := fnOf name qual params body scope dV kV doc pm an cdv ct) hroom (X _ _ ho) rfl hco hgen rfl (codeRec_of X hcd) (hbind _ _ _ _ ?_)
  refine wpAny_newFunctionEnv_cells hk (kindsX hkind _) fun env' he s' x => ?_
  subst he
  refine ⟨(T.nolimit.keeps F.keep).keeps x.toInCall.keep, codeAny_func ?_⟩
  obtain ⟨h₁, tk, rfl, _⟩ := x.done
  have hk₁ := x.toInCall.keep
  obtain ⟨cells, NC, Y⟩ := Cl.news (h₀ := s.heap) (Nat.le_refl _) fun n c hm => ⟨x.cell n c (lookup_of_mem_nodup (cellsFrom_names scope.names 0 (s.heap.objs.size + 1) [] [] rfl ▸ hnd) hm), x.above n c hm⟩
  refine wpAny_mono (h _ s.heap.objs.size h₁ tk cells FG ⟨x.toInCall.ns, fun b o e => hk₁ b o (of_hideAll _ e), Nat.le_of_eq (hideAll_size _ _)⟩ (fun p hp => ?_) Y BG (X₀.keeps st) (T.keeps st) (fun p hp => Heap.lt_size (N p hp).1) (fun b o e hb => hideAll_get _ e hb)) (fun fl s' hl => lv _ _ hl) fun _ _ y => y
  rcases List.mem_append.mp hp with hp | hp
  · refine ⟨(NC p hp).1, (NC p hp).2.1, ?_⟩
    cases q : (hideAll s.heap (news.map (·.1))).get? p.1 with
    | none => rfl
    | some o => have := of_hideAll _ q; rw [(NC p hp).2.2] at this; cases this
  · exact ⟨hk₁ _ _ (N p hp).1, Nat.ne_of_lt (Heap.lt_size (N p hp).1), hideAll_none _ (List.mem_map_of_mem hp)⟩
end

/-- the two ints of the source -/
abbrev srcOf (x y : Int) (tx ty : Tok) (n : Nat) : Obj := listOf [Value.int x tx, Value.int y ty].toArray n

end Mine
end

section
open PySem PySem.W PySem.Calls PyProof.Rows
namespace Mine
section
variable {prog : Program} {w : World} {A : Around} {E : Value → Shared → Prop} {s : Shared} {a b : Int} {t u : Tok} {Q : Value → Shared → Prop}
theorem mod_w (hb : 0 < b) (h : ∀ r, r = a % b → 0 ≤ r → r < b → Q (.int r s.toks) { s with toks := s.toks + 1 }) : wpAny (model prog w) A (binaryOp .Mod (.int a t) (.int b u)) Q E s :=
  mod_int' (by omega) (by
    rw [Int.fmod_eq_emod_of_nonneg _ (by omega)]
    exact h _ rfl (Int.emod_nonneg _ (by omega)) (Int.emod_lt_of_pos _ hb))
theorem div_le_self {a b : Int} (ha : 0 ≤ a) (hb : 0 < b) : a / b ≤ a := by
  have h1 := Int.mul_ediv_self_le (x := a) (k := b) (by omega)
  have h2 : 0 ≤ a / b := Int.ediv_nonneg ha (by omega)
  have h3 : 0 ≤ (b - 1) * (a / b) := Int.mul_nonneg (by omega) h2
  rw [Int.sub_mul] at h3
  omega
theorem noPylong64 {x y : Int} (h0 : 0 < y) (h : y < 2 ^ 64) : Builtin.divisionGoesByPylong x y = false := by
  refine PyProof.noPylong_of_log2 ?_
  have h1 : y.natAbs.log2 < 64 := (Nat.log2_lt (by omega)).mpr (by omega)
  omega
theorem div_w (hb : 0 < b) (hb2 : b < 2 ^ 64) (h : ∀ r, r = a / b → (0 ≤ a → 0 ≤ r ∧ r ≤ a) → Q (.int r s.toks) { s with toks := s.toks + 1 }) : wpAny (model prog w) A (binaryOp .FloorDiv (.int a t) (.int b u)) Q E s :=
  floordiv_int (hp := .inl (noPylong64 hb hb2)) (by omega) (by
    rw [Int.fdiv_eq_ediv_of_nonneg _ (by omega)]
    exact h _ rfl fun ha => ⟨Int.ediv_nonneg ha (by omega), div_le_self ha hb⟩)
theorem mul_w (hm : IntMulOk a b) (h : Q (.int (a * b) s.toks) { s with toks := s.toks + 1 }) : wpAny (model prog w) A (binaryOp .Mult (.int a t) (.int b u)) Q E s := PyProof.Rows.mul_int h hm
end
theorem kept_of {h g h' : Heap} {src : Addr} {L : Addr} {m : Str → Option Value} {o : Obj} (hG : ∀ b ob, h.get? b = some ob → b ∉ [(src, o)].map (·.1) → g.get? b = some ob) (F : Fr g L h' m) :
    ∀ b ob, h.get? b = some ob → b ≠ src → h'.get? b = some ob := fun b ob e hb => F.keep _ _ (hG b ob e (by simpa using hb))
/-- the ledger behind a call that turns one object alone -/
theorem news_turn {h₀ h h' : Heap} {L src : Addr} {o o' : Obj} {news news' : List (Addr × Obj)} (N : News h₀ L h news) (U : Upd src o o' news news') (N' : News h₀ L h' [(src, o')]) (K : ∀ b ob, h.get? b = some ob → b ≠ src → h'.get? b = some ob) :
    News h₀ L h' news' := by
  obtain ⟨pre, post, rfl, rfl, a, b⟩ := U.split
  intro p hp
  rcases List.mem_append.mp hp with hp | hp
  · have z := N p (List.mem_append_left _ hp)
    exact ⟨K _ _ z.1 (a p hp), z.2⟩
  · rcases List.mem_cons.mp hp with rfl | hp
    · exact N' _ (.head _)
    · have z := N p (List.mem_append_right _ (.tail _ hp))
      exact ⟨K _ _ z.1 (b p hp), z.2⟩
end Mine
end

section
open PySem PySem.W PySem.Calls PyProof.Rows
namespace Mine
local macro_rules | `(tactic| walk_at "binaryOp Mod int int") => `(tactic| (k_here; (refine mod_w (by omega) ?_); intro r' er' lr' ur'; walk_say "MOD w"))
local macro_rules | `(tactic| walk_at "binaryOp FloorDiv int int") => `(tactic| (k_here; (refine div_w (by omega) (by omega) ?_); intro r' er' br'; walk_say "DIV w"))
local macro_rules | `(tactic| walk_at "binaryOp Mult int int") => `(tactic| (k_here; (refine mul_w (by first | exact PySem.IntMulOk.of_left (PySem.intBits_le_64 (by omega) (by omega)) | exact PySem.IntMulOk.of_right (PySem.intBits_le_64 (by omega) (by omega))) ?_); walk_say "MUL w"))
local macro_rules | `(tactic| walk_at "subscriptTail Name Constant ref int") => `(tactic| (k_here; (with_unfolding_all refine' item_litK ?k1 ?k2 ?k3 ?k4 ?_ ?k6; (case k1 => is_list); (case k2 => decide); (case k3 => decide); (case k4 => rfl); (case k6 => with_unfolding_all rfl); k_whole)))

local macro_rules | `(tactic| walk_at "M enter") => `(tactic| (refine' enter_part ?k1 ?k2 ?k3 ?k4 ?k5 ?kA ?kF ?kK ?k6 ?k7 ?k8 ?k9 ?kB ?_ ?c2 ?c3 ?c4 ?c5; (case kA => exact rfl); (case kF => exact rfl); (case kK => assumption); (case k1 => k_asm); (case k2 => k_asm); (case k3 => k_asm); (case k4 => k_asm); (case k5 => k_asm); (case k6 => k_is); (case k7 => k_is); (case k8 => ktr_room); (case k9 => exact BindsTo.of_eq rfl); (case c5 => decide); (case kB => exact locs rfl); (case c2 => exact rfl); (case c3 => exact rfl); (case c4 => exact rfl); k_whole; intro g' L' h' FG' F' N' B' X' T' l1' hG'; (try k_lt l1'); (try dsimp only); (try k_fold)))

set_option maxHeartbeats 8000000 in
theorem take_ok {w : World} {loose : List Str} {mean : ExcName → Option Value} {mg mb : Str → Option Value} {dp un : Nat} {gd : Option (List Code)} {cn : Str} {cs : Scope} {a : Addr} {ccd : Value} {cl : List (Str × Addr)} {outer : List Env} {A₀ : Around} {base h₀ : Heap} {L : Addr} {m : Str → Option Value} {s : Shared} {Q E : Value → Shared → Prop}
    {src : Addr} {x y top : Int} {tx ty tt : Tok} {n : Nat}
    (B : Below A₀ base outer h₀) (F : Fr h₀ L s.heap m) (X : (Mine.hd.heap_39 w.params).In h₀) (N : News h₀ L s.heap [(src, srcOf x y tx ty n)]) (T : Top Mine.hd.view_39 loose mean mg mb h₀) (hk : cs.kind = .function)
    (hd : dp + 1 < recursionLimit) (hu : un + 8 < cLine) (htop : 0 < top) (htop2 : top < 2 ^ 64) (hx : 0 ≤ x) (hy : 0 ≤ y) (hy1 : y < 2147483647)
    (ret : ∀ r t x' tx' y' ty' n' h' tk', Fr h₀ L h' m → News h₀ L h' [(src, srcOf x' y' tx' ty' n')] → (∀ b o, s.heap.get? b = some o → b ≠ src → h'.get? b = some o) →
      0 ≤ r → r < top → 0 ≤ x' → 0 ≤ y' → y' < 2147483647 → Q (.int r t) { s with heap := h', toks := tk' }) :
    wpAny (model PySem.Challenge.rw_xm0713_01.row.prog w) (ktrTop dp un gd cn cs L a ccd cl outer) (call (.ref 124) [.ref src, .int top tt]) Q E s := by
  revert X; k_fill; intro X
  refine wpAny_call ?_
  k_dflt (walk_at "M enter")
  k_steps
  all_goals exact ret _ _ _ _ _ _ _ _ _ (by assumption) (by assumption) (by exact kept_of (by assumption) (by assumption)) (by omega) (by omega) (by omega) (by omega) (by omega)
end Mine
end

section
open PySem PySem.W PySem.Calls PyProof.Rows
namespace Mine

theorem news_two {h₀ h h' : Heap} {L : Addr} {a b : Addr} {o p p' : Obj} (N : News h₀ L h [(a, o), (b, p)]) (ne : a ≠ b) (N' : News h₀ L h' [(b, p')]) (K : ∀ c oc, h.get? c = some oc → c ≠ b → h'.get? c = some oc) :
    News h₀ L h' [(a, o), (b, p')] := by
  intro q hq
  rcases List.mem_cons.mp hq with rfl | hq
  · have z := N (a, o) (.head _)
    exact ⟨K _ _ z.1 ne, z.2⟩
  · exact N' q hq
theorem news_tail {h₀ h : Heap} {L : Addr} {q : Addr × Obj} {r : List (Addr × Obj)} (N : News h₀ L h (q :: r)) : News h₀ L h r := fun p hp => N p (.tail _ hp)
theorem kept_two {h g h' : Heap} {a b : Addr} {L : Addr} {m : Str → Option Value} {o p : Obj} (hG : ∀ c oc, h.get? c = some oc → c ∉ [(a, o), (b, p)].map (·.1) → g.get? c = some oc) (F : Fr g L h' m) :
    ∀ c oc, h.get? c = some oc → c ≠ a → c ≠ b → h'.get? c = some oc := fun c oc e h1 h2 => F.keep _ _ (hG c oc e (by simp [h1, h2]))

theorem kept_but {h₀ h g h' : Heap} {L L' : Addr} {a b : Addr} {m : Str → Option Value} {o p p' : Obj} (hG : ∀ c oc, h.get? c = some oc → c ∉ [(a, o), (b, p)].map (·.1) → g.get? c = some oc) (F : Fr g L' h' m)
    (N' : News g L' h' [(a, o), (b, p')]) (ne : a ≠ b) (N : News h₀ L h [(a, o), (b, p)]) : ∀ c oc, h.get? c = some oc → c ≠ b → h'.get? c = some oc := fun c oc e hb => by
  by_cases ha : c = a
  · subst ha
    rw [(N (c, o) (.head _)).1] at e; cases e
    exact (N' (c, o) (.head _)).1
  · exact F.keep _ _ (hG c oc e (by simp [ha, hb]))
local macro_rules | `(tactic| walk_at "M enter") => `(tactic| (refine' enter_part ?k1 ?k2 ?k3 ?k4 ?k5 ?kA ?kF ?kK ?k6 ?k7 ?k8 ?k9 ?kB ?_ ?c2 ?c3 ?c4 ?c5; (case kA => exact rfl); (case kF => exact rfl); (case kK => assumption); (case k1 => k_asm); (case k2 => k_asm); (case k3 => k_asm); (case k4 => k_asm); (case k5 => k_asm); (case k6 => k_is); (case k7 => k_is); (case k8 => ktr_room); (case k9 => exact BindsTo.of_eq rfl); (case c5 => decide); (case kB => exact locs rfl); (case c2 => exact rfl); (case c3 => exact rfl); (case c4 => exact rfl); k_whole; intro g' L' h' FG' F' N' B' X' T' l1' hG'; (try k_lt l1'); (try dsimp only); (try k_fold)))

section
variable {w : World} {loose : List Str} {mean : ExcName → Option Value} {mg mb : Str → Option Value} {dp un : Nat} {gd : Option (List Code)} {cn : Str} {cs : Scope} {a : Addr} {ccd : Value} {cl : List (Str × Addr)} {outer : List Env} {A₀ : Around} {base h₀ : Heap} {L : Addr} {m : Str → Option Value} {s : Shared} {Q E : Value → Shared → Prop}
  {src : Addr} {x y : Int} {tx ty : Tok} {n : Nat}

theorem take_two {top : Int} {tt : Tok} {d : Addr} {o : Obj}
    (B : Below A₀ base outer h₀) (F : Fr h₀ L s.heap m) (X : (Mine.hd.heap_39 w.params).In h₀) (N : News h₀ L s.heap [(d, o), (src, srcOf x y tx ty n)]) (T : Top Mine.hd.view_39 loose mean mg mb h₀) (hk : cs.kind = .function)
    (hd : dp + 1 < recursionLimit) (hu : un + 8 < cLine) (ne : d ≠ src) (htop : 0 < top) (htop2 : top < 2 ^ 64) (hx : 0 ≤ x) (hy : 0 ≤ y) (hy1 : y < 2147483647)
    (ret : ∀ r t x' tx' y' ty' n' h' tk', Fr h₀ L h' m → News h₀ L h' [(d, o), (src, srcOf x' y' tx' ty' n')] → (∀ b o, s.heap.get? b = some o → b ≠ src → h'.get? b = some o) →
      0 ≤ r → r < top → 0 ≤ x' → 0 ≤ y' → y' < 2147483647 → Q (.int r t) { s with heap := h', toks := tk' }) :
    wpAny (model PySem.Challenge.rw_xm0713_01.row.prog w) (ktrTop dp un gd cn cs L a ccd cl outer) (call (.ref 124) [.ref src, .int top tt]) Q E s :=
  take_ok B F X (fun p hp => N p (.tail _ hp)) T hk hd hu htop htop2 hx hy hy1 fun r t x' tx' y' ty' n' h' tk' F' N' K' h1 h2 h3 h4 h5 =>
    ret r t x' tx' y' ty' n' h' tk' F' (news_two N ne N' K') K' h1 h2 h3 h4 h5

theorem item_mem {prog : Program} {A : Around} {value slice : PySem.Expr} {l : Addr} {vs : List Value} {k : Int} {u : Tok} (hl : s.heap.IsList l vs.toArray) (h0 : 0 ≤ k) (h1 : k < (vs.length : Int)) (h2 : k < 2 ^ 63) (h : ∀ v, v ∈ vs → Q v s)
    (hs : subscripted slice false (.ref l) (.int k u) = operate [.ref l, .int k u] (getItem (.ref l) (.int k u)) := by with_unfolding_all rfl) :
    wpAny (model prog w) A (subscriptTail value slice (.ref l) (.int k u)) Q E s := by
  have hk : k.toNat < vs.length := by omega
  exact tail_any hl.typeIs slot_list_getitem.lookup (wpAny_getItem_list hl h0 h2 (x := vs[k.toNat]) (by simp [hk]) (h _ (List.getElem_mem hk))) hs

local macro_rules | `(tactic| walk_at "call ref") => `(tactic| (k_here; (with_reducible show wpAny _ _ (call (Value.ref 124) _) _ _ _); k_dflt (refine' take_two ?kB ?kF ?kX ?kN ?kT ?kK ?kd ?ku ?kne ?kt ?kt2 ?kx ?ky ?ky1 ?_; (case kB => k_asm); (case kF => k_asm); (case kX => k_asm); (case kN => k_asm); (case kT => k_asm); (case kK => first | exact rfl | assumption); (case kd => ktr_room); (case ku => ktr_units); (case kne => assumption); (case kt => omega); (case kt2 => omega); (case kx => assumption); (case ky => assumption); (case ky1 => assumption); k_whole; intro r' t' x' tx' y' ty' n' h' tk' F' N' K' l1' l2' l3' l4' l5'; (try dsimp only); (try k_fold)); walk_say "TAKE two"))
local macro_rules | `(tactic| walk_at "subscriptTail") => `(tactic| (k_here; (with_reducible show wpAny _ _ (subscriptTail _ _ (Value.ref _) (Value.int _ _)) _ _ _); (with_unfolding_all refine' item_mem ?k1 ?k2 ?k3 ?k4 ?_ ?k6; (case k1 => is_list); (case k2 => omega); (case k3 => omega); (case k4 => omega); (case k6 => with_unfolding_all rfl); k_whole); intro v' hv'; walk_say "ITEM of"))

theorem len_of {prog : Program} {A : Around} {l : Addr} {vs : List Value} (hl : s.heap.IsList l vs.toArray) (h1 : vs.length < 2 ^ 62) (h : ∀ t k tk, k = (vs.length : Int) → Q (.int k t) { s with toks := tk }) : wpAny (model prog w) A (call (.builtin "len") [.ref l]) Q E s :=
  PyProof.Rows.len_list hl (by rw [List.size_toArray]; omega) (h _ _ _ (by rw [List.size_toArray]))
local macro_rules | `(tactic| walk_at "call builtin:len") => `(tactic| (k_here; (with_reducible show wpAny _ _ (call (Value.builtin "len") [Value.ref _]) _ _ _); (refine' len_of ?k1 ?k2 ?_; (case k1 => is_list); (case k2 => omega); k_whole); intro t' k' tk' ek'; (try dsimp only); walk_say "LEN of"))
set_option maxHeartbeats 8000000 in
theorem one_ok {d : Addr} {vs : List Value} {k : Nat}
    (B : Below A₀ base outer h₀) (F : Fr h₀ L s.heap m) (X : (Mine.hd.heap_39 w.params).In h₀) (N : News h₀ L s.heap [(d, listOf vs.toArray k), (src, srcOf x y tx ty n)]) (T : Top Mine.hd.view_39 loose mean mg mb h₀) (hk : cs.kind = .function)
    (hd : dp + 2 < recursionLimit) (hu : un + 16 < cLine) (ne : d ≠ src) (hl0 : 0 < vs.length) (hl1 : vs.length < 256) (hx : 0 ≤ x) (hy : 0 ≤ y) (hy1 : y < 2147483647)
    (ret : ∀ v x' tx' y' ty' n' h' tk', Fr h₀ L h' m → News h₀ L h' [(src, srcOf x' y' tx' ty' n')] → (∀ b o, s.heap.get? b = some o → b ≠ src → h'.get? b = some o) → v ∈ vs →
      0 ≤ x' → 0 ≤ y' → y' < 2147483647 → Q v { s with heap := h', toks := tk' }) :
    wpAny (model PySem.Challenge.rw_xm0713_01.row.prog w) (ktrTop dp un gd cn cs L a ccd cl outer) (call (.ref 131) [.ref src, .ref d]) Q E s := by
  revert X; k_fill; intro X
  refine wpAny_call ?_
  k_dflt (walk_at "M enter")
  k_steps
  all_goals exact ret _ _ _ _ _ _ _ _ (by assumption) (news_tail (by assumption)) (kept_but (by assumption) (by assumption) (by assumption) (by assumption) N) (by assumption) (by omega) (by omega) (by omega)

theorem lenT_of {prog : Program} {A : Around} {K : Frag} {d : Addr} {dd : Option Addr} {sl : Array (Option Value)} {vs : List Value} {k : Nat} (X : K.In h₀) (F : Fr h₀ L s.heap m) (hT : K.lookup d = some ⟨.type "tuple", dd, .seq vs.toArray k, sl⟩) (h1 : vs.length < 2 ^ 62)
    (h : ∀ t i tk, i = (vs.length : Int) → Q (.int i t) { s with toks := tk }) : wpAny (model prog w) A (call (.builtin "len") [.ref d]) Q E s :=
  PyProof.Rows.len_tuple (tupK (X.keeps F.keep) hT) (by rw [List.size_toArray]; omega) (h _ _ _ (by rw [List.size_toArray]))
theorem itemT_mem {prog : Program} {A : Around} {value slice : PySem.Expr} {K : Frag} {d : Addr} {dd : Option Addr} {sl : Array (Option Value)} {vs : List Value} {j : Nat} {k : Int} {u : Tok} (X : K.In h₀) (F : Fr h₀ L s.heap m) (hT : K.lookup d = some ⟨.type "tuple", dd, .seq vs.toArray j, sl⟩)
    (h0 : 0 ≤ k) (h1 : k < (vs.length : Int)) (h2 : k < 2 ^ 63) (h : ∀ v, v ∈ vs → Q v s)
    (hs : subscripted slice false (.ref d) (.int k u) = operate [.ref d, .int k u] (getItem (.ref d) (.int k u)) := by with_unfolding_all rfl) :
    wpAny (model prog w) A (subscriptTail value slice (.ref d) (.int k u)) Q E s := by
  have hk : k.toNat < vs.length := by omega
  have ht := tupK (X.keeps F.keep) hT
  exact tail_any ht.typeIs slot_tuple_getitem.lookup (getItem_tuple ht (by omega) h2 (PySem.seqIndex_of h0 (by rw [List.size_toArray]; exact h1)) (x := vs[k.toNat]) (by simp [hk]) (h _ (List.getElem_mem hk))) hs

local macro_rules | `(tactic| walk_at "call ref") => `(tactic| (k_here; (with_reducible show wpAny _ _ (call (Value.ref 124) _) _ _ _); k_dflt (refine' take_ok ?kB ?kF ?kX ?kN ?kT ?kK ?kd ?ku ?kt ?kt2 ?kx ?ky ?ky1 ?_; (case kB => k_asm); (case kF => k_asm); (case kX => k_asm); (case kN => k_asm); (case kT => k_asm); (case kK => first | exact rfl | assumption); (case kd => ktr_room); (case ku => ktr_units); (case kt => omega); (case kt2 => omega); (case kx => assumption); (case ky => assumption); (case ky1 => assumption); k_whole; intro r' t' x' tx' y' ty' n' h' tk' F' N' K' l1' l2' l3' l4' l5'; (try dsimp only); (try k_fold)); walk_say "TAKE"))
local macro_rules | `(tactic| walk_at "call builtin:len") => `(tactic| (k_here; (with_reducible show wpAny _ _ (call (Value.builtin "len") [Value.ref _]) _ _ _); (refine' lenT_of ?kX ?kF ?kT ?k2 ?_; (case kX => k_asm); (case kF => k_asm); (case kT => assumption); (case k2 => omega); k_whole); intro t' k' tk' ek'; (try dsimp only); walk_say "LEN tuple"))
local macro_rules | `(tactic| walk_at "subscriptTail") => `(tactic| (k_here; (with_reducible show wpAny _ _ (subscriptTail _ _ (Value.ref _) (Value.int _ _)) _ _ _); (with_unfolding_all refine' itemT_mem ?kX ?kF ?kT ?k2 ?k3 ?k4 ?_ ?k6; (case kX => k_asm); (case kF => k_asm); (case kT => assumption); (case k2 => omega); (case k3 => omega); (case k4 => omega); (case k6 => with_unfolding_all rfl); k_whole); intro v' hv'; walk_say "ITEM of tuple"))

set_option maxHeartbeats 8000000 in
theorem oneT_ok {d : Addr} {vs : List Value} {k : Nat} {dd : Option Addr} {sl : Array (Option Value)}
    (B : Below A₀ base outer h₀) (F : Fr h₀ L s.heap m) (X : (Mine.hd.heap_39 w.params).In h₀) (N : News h₀ L s.heap [(src, srcOf x y tx ty n)]) (T : Top Mine.hd.view_39 loose mean mg mb h₀) (hk : cs.kind = .function)
    (hT : (Mine.hd.heap_39 w.params).lookup d = some ⟨.type "tuple", dd, .seq vs.toArray k, sl⟩)
    (hd : dp + 2 < recursionLimit) (hu : un + 16 < cLine) (hl0 : 0 < vs.length) (hl1 : vs.length < 256) (hx : 0 ≤ x) (hy : 0 ≤ y) (hy1 : y < 2147483647)
    (ret : ∀ v x' tx' y' ty' n' h' tk', Fr h₀ L h' m → News h₀ L h' [(src, srcOf x' y' tx' ty' n')] → (∀ b o, s.heap.get? b = some o → b ≠ src → h'.get? b = some o) → v ∈ vs →
      0 ≤ x' → 0 ≤ y' → y' < 2147483647 → Q v { s with heap := h', toks := tk' }) :
    wpAny (model PySem.Challenge.rw_xm0713_01.row.prog w) (ktrTop dp un gd cn cs L a ccd cl outer) (call (.ref 131) [.ref src, .ref d]) Q E s := by
  revert X; k_fill; intro X
  refine wpAny_call ?_
  k_dflt (walk_at "M enter")
  k_steps
  all_goals exact ret _ _ _ _ _ _ _ _ (by assumption) (by assumption) (by exact kept_of (by assumption) (by assumption)) (by assumption) (by omega) (by omega) (by omega)
end
end Mine
end

section
open PySem PySem.W PySem.Calls PyProof.Rows
namespace Mine
def IntsIn (lo hi : Int) : List Value → Prop
  | [] => True
  | .int r _ :: vs => lo ≤ r ∧ r ≤ hi ∧ IntsIn lo hi vs
  | _ => False
theorem mem_int {lo hi : Int} : ∀ {vs : List Value} {v : Value}, IntsIn lo hi vs → v ∈ vs → ∃ r t, v = .int r t ∧ lo ≤ r ∧ r ≤ hi := by
  intro vs
  induction vs with
  | nil => intro v _ h; cases h
  | cons u us ih =>
    intro v h hv
    cases u <;> simp only [IntsIn] at h
    rename_i r t
    rcases List.mem_cons.mp hv with rfl | hv
    · exact ⟨r, t, rfl, h.1, h.2.1⟩
    · exact ih h.2.2 hv

local macro_rules | `(tactic| walk_at "M enter") => `(tactic| (refine' enter_part ?k1 ?k2 ?k3 ?k4 ?k5 ?kA ?kF ?kK ?k6 ?k7 ?k8 ?k9 ?kB ?_ ?c2 ?c3 ?c4 ?c5; (case kA => exact rfl); (case kF => exact rfl); (case kK => assumption); (case k1 => k_asm); (case k2 => k_asm); (case k3 => k_asm); (case k4 => k_asm); (case k5 => k_asm); (case k6 => k_is); (case k7 => k_is); (case k8 => ktr_room); (case k9 => exact BindsTo.of_eq rfl); (case c5 => decide); (case kB => exact locs rfl); (case c2 => exact rfl); (case c3 => exact rfl); (case c4 => exact rfl); k_whole; intro g' L' h' FG' F' N' B' X' T' l1' hG'; (try k_lt l1'); (try dsimp only); (try k_fold)))
local macro_rules | `(tactic| walk_at "binaryOp FloorDiv int int") => `(tactic| (k_here; (refine div_w (by omega) (by omega) ?_); intro r' er' br'; walk_say "DIV w"))
local macro_rules | `(tactic| walk_at "call ref") => `(tactic| (k_here; (with_reducible show wpAny _ _ (call (Value.ref 124) _) _ _ _); k_dflt (refine' take_ok ?kB ?kF ?kX ?kN ?kT ?kK ?kd ?ku ?kt ?kt2 ?kx ?ky ?ky1 ?_; (case kB => k_asm); (case kF => k_asm); (case kX => k_asm); (case kN => k_asm); (case kT => k_asm); (case kK => first | exact rfl | assumption); (case kd => ktr_room); (case ku => ktr_units); (case kt => omega); (case kt2 => omega); (case kx => assumption); (case ky => assumption); (case ky1 => assumption); k_whole; intro r' t' x' tx' y' ty' n' h' tk' F' N' K' l1' l2' l3' l4' l5'; (try dsimp only); (try k_fold); (try k_sweep)); walk_say "TAKE"))
local macro_rules | `(tactic| walk_at "call ref") => `(tactic| (k_here; (with_reducible show wpAny _ _ (call (Value.ref 131) _) _ _ _); k_dflt (refine' one_ok ?kB ?kF ?kX ?kN ?kT ?kK ?kd ?ku ?kne ?kl ?kl1 ?kx ?ky ?ky1 ?_; (case kB => k_asm); (case kF => k_asm); (case kX => k_asm); (case kN => k_asm); (case kT => k_asm); (case kK => first | exact rfl | assumption); (case kd => ktr_room); (case ku => ktr_units); (case kne => k_ne); (case kl => exact Nat.le_of_ble_eq_true rfl); (case kl1 => exact Nat.le_of_ble_eq_true rfl); (case kx => assumption); (case ky => assumption); (case ky1 => assumption); k_whole; intro v' x' tx' y' ty' n' h' tk' F' N' K' hv' l3' l4' l5'; clear K'; (try dsimp only); (try k_fold); (try k_sweep)); walk_say "ONE"))

section
variable {w : World} {loose : List Str} {mean : ExcName → Option Value} {mg mb : Str → Option Value} {dp un : Nat} {gd : Option (List Code)} {cn : Str} {cs : Scope} {a : Addr} {ccd : Value} {cl : List (Str × Addr)} {outer : List Env} {A₀ : Around} {base h₀ : Heap} {L : Addr} {m : Str → Option Value} {s : Shared} {Q E : Value → Shared → Prop}
  {src : Addr} {x y : Int} {tx ty : Tok} {n : Nat}

set_option maxHeartbeats 8000000 in
theorem part_ok {alpha : Int} {ta : Tok}
    (B : Below A₀ base outer h₀) (F : Fr h₀ L s.heap m) (X : (Mine.hd.heap_39 w.params).In h₀) (N : News h₀ L s.heap [(src, srcOf x y tx ty n)]) (T : Top Mine.hd.view_39 loose mean mg mb h₀) (hk : cs.kind = .function)
    (hd : dp + 3 < recursionLimit) (hu : un + 24 < cLine) (ha : 0 ≤ alpha) (ha1 : alpha < 2 ^ 63) (hx : 0 ≤ x) (hy : 0 ≤ y) (hy1 : y < 2147483647)
    (ret : ∀ r t x' tx' y' ty' n' h' tk', Fr h₀ L h' m → News h₀ L h' [(src, srcOf x' y' tx' ty' n')] → (∀ b o, s.heap.get? b = some o → b ≠ src → h'.get? b = some o) → 0 ≤ r → r ≤ alpha →
      0 ≤ x' → 0 ≤ y' → y' < 2147483647 → Q (.int r t) { s with heap := h', toks := tk' }) :
    wpAny (model PySem.Challenge.rw_xm0713_01.row.prog w) (ktrTop dp un gd cn cs L a ccd cl outer) (call (.ref 145) [.ref src, .int alpha ta]) Q E s := by
  revert X; k_fill; intro X
  refine wpAny_call ?_
  k_dflt (walk_at "M enter")
  k_steps
  rename (_ ∈ _) => hv
  obtain ⟨r, t, rfl, h1, h2⟩ := mem_int (lo := 0) (hi := alpha) (by simp only [IntsIn]; refine ⟨?_, ?_, ?_, ?_, ?_, ?_, ?_, ?_, ?_, ?_, ?_⟩ <;> first | trivial | omega) hv
  exact ret _ _ _ _ _ _ _ _ _ (by assumption) (by assumption) (by exact kept_of (by assumption) (by assumption)) (by omega) (by omega) (by omega) (by omega) (by omega)
end
end Mine
end

section
open PySem PySem.W PySem.Calls PyProof.Rows
namespace Mine
theorem pool_nn {c : Int} {b : Bool} : 0 ≤ (if -1 - c > c then -1 - c else c) * (if b = true then 1 else 0) := by
  split <;> split <;> omega

local macro_rules | `(tactic| walk_at "M enter") => `(tactic| (refine' enter_part ?k1 ?k2 ?k3 ?k4 ?k5 ?kA ?kF ?kK ?k6 ?k7 ?k8 ?k9 ?kB ?_ ?c2 ?c3 ?c4 ?c5; (case kA => exact rfl); (case kF => exact rfl); (case kK => assumption); (case k1 => k_asm); (case k2 => k_asm); (case k3 => k_asm); (case k4 => k_asm); (case k5 => k_asm); (case k6 => k_is); (case k7 => k_is); (case k8 => ktr_room); (case k9 => exact BindsTo.of_eq rfl); (case c5 => decide); (case kB => exact locs rfl); (case c2 => exact rfl); (case c3 => exact rfl); (case c4 => exact rfl); k_whole; intro g' L' h' FG' F' N' B' X' T' l1' hG'; (try k_lt l1'); (try dsimp only); (try k_lift B'); (try k_fold)))
local macro_rules | `(tactic| walk_at "binaryOp Mod int int") => `(tactic| (k_here; (refine mod_w (by omega) ?_); intro r' er' lr' ur'; walk_say "MOD w"))
local macro_rules | `(tactic| walk_at "binaryOp Mult int int") => `(tactic| (k_here; (refine mul_w (by first | exact PySem.IntMulOk.of_left (PySem.intBits_le_64 (by omega) (by omega)) | exact PySem.IntMulOk.of_right (PySem.intBits_le_64 (by omega) (by omega))) ?_); walk_say "MUL w"))

section
variable {w : World} {loose : List Str} {mean : ExcName → Option Value} {mg mb : Str → Option Value} {dp un : Nat} {gd : Option (List Code)} {cn : Str} {cs : Scope} {a : Addr} {ccd : Value} {cl : List (Str × Addr)} {outer : List Env} {A₀ : Around} {base h₀ : Heap} {L : Addr} {m : Str → Option Value} {s : Shared} {Q E : Value → Shared → Prop}

set_option maxHeartbeats 8000000 in
theorem pool_ok {l : Addr} {vs : List Value} {ns : List Int}
    (B : Below A₀ base outer h₀) (F : Fr h₀ L s.heap m) (X : (Mine.hd.heap_39 w.params).In h₀) (N : News h₀ L s.heap []) (T : Top Mine.hd.view_39 loose mean mg mb h₀) (hk : cs.kind = .function)
    (hL : base.IsList l vs.toArray) (hI : IntsAre vs ns) (hlen : ns.length < 2 ^ 62)
    (hd : dp + 1 < recursionLimit) (hu : un + 8 < cLine)
    (ret : ∀ d x' tx' y' ty' n' h' tk', Fr h₀ L h' m → News h₀ L h' [(d, srcOf x' y' tx' ty' n')] →
      0 ≤ x' → 0 ≤ y' → y' < 2147483647 → Q (.ref d) { s with heap := h', toks := tk' }) :
    wpAny (model PySem.Challenge.rw_xm0713_01.row.prog w) (ktrTop dp un gd cn cs L a ccd cl outer) (call (.ref 117) [.ref l]) Q E s := by
  revert X; k_fill; intro X
  refine wpAny_call ?_
  k_dflt (walk_at "M enter")
  k_steps
  all_goals exact ret _ _ _ _ _ _ _ _ (by assumption) (by assumption) (by exact pool_nn) (by omega) (by omega)
end
end Mine
end

section
open PySem PySem.W PySem.Calls PyProof.Rows
namespace Mine
section
variable {prog : Program} {w : World} {A : Around} {E : Value → Shared → Prop} {s : Shared} {h₀ : Heap} {L : Addr} {m : Str → Option Value} {env : Env}

/-- a tuple that stood before the call is the source of a list comprehension -/
def TupSrc (prog : Program) (w : World) (A : Around) (h₀ : Heap) (L : Addr) (m : Str → Option Value) (env : Env) (elt : Expr) (x : Str) (scope : Scope) (cl : List (Str × Addr)) (Fin : Shared → List Value → List (Addr × Obj) → Prop) (xv : Value) (s₁ : Shared) : Prop :=
  ∃ ax its news, xv = .ref ax ∧ A.handled = none ∧ Fr h₀ L s₁.heap m ∧ News h₀ L s₁.heap news ∧ IsTup h₀ ax its ∧ its.size ≤ sizeLine ∧
    ∀ g, LCg.CompRest prog w A h₀ L m env elt x scope cl { s₁ with heap := g } (fun _ => True) (fun i v => its[i]? = some v) (Fin { s₁ with heap := g }) its.size 0 [] news

theorem TupSrc.intro {elt : Expr} {x : Str} {scope : Scope} {cl : List (Str × Addr)} {Fin : Shared → List Value → List (Addr × Obj) → Prop} {K : Frag} {ax : Addr} {dd : Option Addr} {sl : Array (Option Value)} {vs : List Value} {k n : Nat} {news : List (Addr × Obj)} {s₁ : Shared}
    (hh : A.handled = none) (F : Fr h₀ L s₁.heap m) (N : News h₀ L s₁.heap news) (X : K.In h₀) (hT : K.lookup ax = some ⟨.type "tuple", dd, .seq vs.toArray k, sl⟩) (hn : vs.length = n) (hsz : n ≤ sizeLine)
    (h : ∀ g, LCg.CompRest prog w A h₀ L m env elt x scope cl { s₁ with heap := g } (fun _ => True) (fun i v => vs.toArray[i]? = some v) (Fin { s₁ with heap := g }) n 0 [] news) :
    TupSrc prog w A h₀ L m env elt x scope cl Fin (.ref ax) s₁ := by
  subst hn
  exact ⟨ax, vs.toArray, news, rfl, hh, F, N, tupK X hT, by rw [List.size_toArray]; exact hsz, fun g => by rw [List.size_toArray]; exact h g⟩

theorem comp_tup {elt iter : Expr} {x : Str} {px : Pos} {scope : Scope} {cl : List (Str × Addr)} {pos : Pos} {Q : Value → Shared → Prop} (_F₀ : Fr h₀ L s.heap m)
    (hclos : closureFor scope env = pure cl) (hcell : ∀ y ∈ scope.names, y.2 ≠ .cell) (hkind : scope.kind = .function)
    (hnames : ∀ y ∈ scope.names, y.2 = .local → scope.names.lookup y.1 = some .local) (hx : scope.names.lookup x = some .local)
    (h : wpAny (model prog w) A (eval iter env) (TupSrc prog w A h₀ L m env elt x scope cl (fun s₂ => LCg.FinE h₀ L m s₂ Q)) E s)
    (hs : ∀ x, foldedSetIterable iter env x = pure x := by intro _; rfl) :
    wpAny (model prog w) A (eval (.ListComp elt [⟨.Name x px, iter, [], 0⟩] scope pos) env) Q E s := by
  rw [eval_ListComp]
  refine wpAny_comprehension_free (use := none) rfl hs hclos hkind hnames (wpAny_mono h (fun xv s₁ h₁ => ?_) fun _ _ e => e)
  obtain ⟨ax, its, news, rfl, hh, F, N, ht₀, hsz, R⟩ := h₁
  have ht : s₁.heap.IsTuple ax its := IsTup.keeps ht₀ F.keep
  have hlt : ax < s₁.heap.objs.size := by obtain ⟨_, e, _⟩ := ht; exact Heap.lt_size e
  refine wpAny_pyIter_tuple ht ?_
  have up : ∀ b o, s₁.heap.get? b = some o → (s₁.heap.push { cls := .type "tuple_iterator", data := .fields #[.ref ax, .int 0 0] }).get? b = some o := fun b o e => Heap.get?_push_of_some _ e
  refine LCg.block_U (S := fun _ => True) (Walks.tuple hh s₁.heap.objs.size ax (Nat.ne_of_lt hlt) its) hsz (fun i h st => by obtain ⟨o, e, _⟩ := st.1; exact ⟨o, e⟩) ?_ hcell hkind hx ⟨⟨_, Heap.get?_push_size _ rfl, rfl, rfl⟩, ht.push _⟩ (fun b hb => ?_)
    (F.keeps up) (N.grown up) (Nat.ne_of_lt F.ns.lt) (next_is_new F) (fun p hp => Nat.ne_of_lt (Heap.lt_size (N p hp).1)) trivial (R _) ?_
  · intro i h h' o nw st e e' k _ _
    refine ⟨?_, IsTup.keeps ht₀ k⟩
    obtain ⟨o', q, r⟩ := st.1
    rw [e] at q; cases q
    exact ⟨o, e', r⟩
  · show b < (s₁.heap.push _).objs.size
    rw [Heap.size_push]
    rcases List.mem_cons.mp hb with rfl | hb
    · exact Nat.lt_succ_self _
    · rw [List.mem_singleton.mp hb]; exact Nat.lt_succ_of_lt hlt
  · intro D C h tk m' ys news' F' N' o1 hn hC₀ hD₀ hCL hDL hCD offC fin
    refine ⟨m', hn, fun h'' hs'' => fin D h'' tk (F'.change hs'' hCL hC₀) (fun p hp => ?_) o1⟩
    refine ⟨hs''.extBut _ _ ?_ (N' p hp).1, (N' p hp).2⟩
    rcases List.mem_cons.mp hp with rfl | hp
    · exact Ne.symm hCD
    · exact offC p hp
end
end Mine
end

section
open PySem PySem.W PySem.Calls PyProof.Rows
namespace Mine

/-- the two objects of a Pair -/
abbrev pairObj (dx : Addr) : Obj := instObj 98 dx
abbrev pairDict (P : Params) (k1 k2 k3 k4 : Tok) (v1 v2 v3 v4 : Value) : Obj :=
  dictOf [⟨PyData.keyHash P (Str.ofString "one"), .str (Str.ofString "one") k1, v1⟩, ⟨PyData.keyHash P (Str.ofString "alpha"), .str (Str.ofString "alpha") k2, v2⟩,
    ⟨PyData.keyHash P (Str.ofString "other"), .str (Str.ofString "other") k3, v3⟩, ⟨PyData.keyHash P (Str.ofString "beta"), .str (Str.ofString "beta") k4, v4⟩] 4

def hardv (one alpha other beta : Int) : Int := if 2 * one ≤ alpha then 2 * (one * other) else alpha * beta - 2 * (alpha - one) * (beta - other)
theorem hardv_pos {one alpha other beta : Int} (h : 2 * one ≤ alpha) : hardv one alpha other beta = 2 * (one * other) := if_pos h
theorem hardv_neg {one alpha other beta : Int} (h : ¬ 2 * one ≤ alpha) : hardv one alpha other beta = alpha * beta - 2 * (alpha - one) * (beta - other) := if_neg h
theorem hardv_alt {one alpha other beta : Int} : hardv one alpha other beta = if 2 * one < alpha then 2 * (one * other) else alpha * beta - 2 * (alpha - one) * (beta - other) := by
  unfold hardv
  by_cases h : 2 * one = alpha
  · subst h
    rw [if_pos (Int.le_refl _), if_neg (Int.lt_irrefl _), show 2 * one - one = one by omega, Int.mul_sub, Int.mul_assoc, Int.mul_assoc]
    omega
  · split <;> split <;> omega
theorem at_val {Q : Value → Shared → Prop} {v v' : Int} {t : Tok} {s : Shared} (e : v = v') (h : Q (.int v' t) s) : Q (.int v t) s := e ▸ h

/-- what the law's own parts come to, as the program's products -/
structure Parts (one alpha other beta : Int) : Prop where
  f : one * (beta - other) = one * beta - one * other
  s : (alpha - one) * other = other * alpha - one * other
  b : (alpha - one) * (beta - other) = alpha * beta - other * alpha - one * beta + one * other
  h1 : 2 * (alpha - one) * (beta - other) = 2 * ((alpha - one) * (beta - other))
  h2 : 2 * (beta - other) * (alpha - one) = 2 * ((alpha - one) * (beta - other))
  c1 : other * one = one * other
  c2 : beta * alpha = alpha * beta
theorem parts (one alpha other beta : Int) : Parts one alpha other beta where
  f := Int.mul_sub ..
  s := by rw [Int.sub_mul, Int.mul_comm alpha other]
  b := by rw [Int.sub_mul, Int.mul_sub, Int.mul_sub, Int.mul_comm alpha other]; omega
  h1 := Int.mul_assoc ..
  h2 := by rw [Int.mul_assoc, Int.mul_comm (beta - other)]
  c1 := Int.mul_comm ..
  c2 := Int.mul_comm ..

theorem ints_cons {e v : Int} {t : Tok} {vs : List Value} {ns : List Int} (h : e = v) (r : IntsAre vs ns) : IntsAre (.int e t :: vs) (v :: ns) := h ▸ IntsAre.cons e t r

theorem kept_part {h g h' : Heap} {L : Addr} {m : Str → Option Value} {part news : List (Addr × Obj)} (hG : ∀ b ob, h.get? b = some ob → b ∉ part.map (·.1) → g.get? b = some ob) (F : Fr g L h' m)
    (N : ∀ p ∈ part, h.get? p.1 = some p.2) (N' : News g L h' news) (sub : ∀ p ∈ part, p ∈ news) : ∀ b ob, h.get? b = some ob → h'.get? b = some ob := fun b ob e => by
  by_cases hb : b ∈ part.map (·.1)
  · obtain ⟨p, hp, rfl⟩ := List.mem_map.mp hb
    rw [N p hp] at e; cases e
    exact (N' p (sub p hp)).1
  · exact F.keep _ _ (hG b ob e hb)
theorem kept_news {h₀ h g h' : Heap} {L L' : Addr} {m : Str → Option Value} {part news : List (Addr × Obj)} (hG : ∀ b ob, h.get? b = some ob → b ∉ part.map (·.1) → g.get? b = some ob) (F : Fr g L' h' m)
    (N : News h₀ L h part) (N' : News g L' h' news) (sub : ∀ p ∈ part, p ∈ news) : ∀ l, News h₀ L h l → News h₀ L h' l := fun l Nl p hp =>
  ⟨kept_part hG F (fun p hp => (N p hp).1) N' sub _ _ (Nl p hp).1, (Nl p hp).2⟩

local macro_rules | `(tactic| walk_at "M enter") => `(tactic| (refine' enter_part ?k1 ?k2 ?k3 ?k4 ?k5 ?kA ?kF ?kK ?k6 ?k7 ?k8 ?k9 ?kB ?_ ?c2 ?c3 ?c4 ?c5; (case kA => exact rfl); (case kF => exact rfl); (case kK => assumption); (case k1 => k_asm); (case k2 => k_asm); (case k3 => k_asm); (case k4 => k_asm); (case k5 => k_asm); (case k6 => k_is); (case k7 => k_is); (case k8 => k_room); (case k9 => exact BindsTo.of_eq rfl); (case c5 => decide); (case kB => exact locs rfl); (case c2 => exact rfl); (case c3 => exact rfl); (case c4 => exact rfl); k_whole; intro g' L' h' FG' F' N' B' X' T' l1' hG'; (try k_lt l1'); (try dsimp only); (try k_fold)))
local macro_rules | `(tactic| walk_at "binaryOp Mult int int") => `(tactic| (k_here; (refine mul_w (by first | exact PySem.IntMulOk.of_left (PySem.intBits_le_64 (by omega) (by omega)) | exact PySem.IntMulOk.of_right (PySem.intBits_le_64 (by omega) (by omega))) ?_); (try dsimp only); walk_say "MUL w"))

section
variable {w : World} {loose : List Str} {mean : ExcName → Option Value} {mg mb : Str → Option Value} {gd : Option (List Code)} {cn : Str} {cs : Scope} {a : Addr} {ccd : Value} {cl : List (Str × Addr)} {outer : List Env} {A₀ : Around} {base h₀ : Heap} {L : Addr} {m : Str → Option Value} {s : Shared} {Q E : Value → Shared → Prop}
  {x dx : Addr} {k1 k2 k3 k4 t1 t2 t3 t4 tm : Tok} {one alpha other beta : Int}

set_option maxHeartbeats 8000000 in
theorem hard_ok
    (B : Below A₀ base outer h₀) (F : Fr h₀ L s.heap m) (X : (Mine.hd.heap_39 w.params).In h₀) (N : News h₀ L s.heap [(x, pairObj dx), (dx, pairDict w.params k1 k2 k3 k4 (.int one t1) (.int alpha t2) (.int other t3) (.int beta t4))]) (T : Top Mine.hd.view_39 loose mean mg mb h₀) (hk : cs.kind = .function)
    (lt : dx < x) (a0 : 0 ≤ one) (a1 : one ≤ alpha) (a2 : alpha < 2 ^ 41) (b0 : 0 ≤ other) (b1 : other ≤ beta) (b2 : beta < 2 ^ 41)
    (ret : ∀ t h' tk', Fr h₀ L h' m → (∀ l, News h₀ L s.heap l → News h₀ L h' l) → Q (.int (hardv one alpha other beta) t) { s with heap := h', toks := tk' }) :
    wpAny (model PySem.Challenge.rw_xm0713_01.row.prog w) (ktrTop 304 13 gd cn cs L a ccd cl outer) (call (.ref 88) [.ref x]) Q E s := by
  revert X; k_fill; intro X
  refine wpAny_call ?_
  k_dflt (walk_at "M enter")
  k_steps
  all_goals exact at_val (by first | exact (hardv_pos (by omega)).symm | exact (hardv_neg (by omega)).symm) (ret _ _ _ (by assumption) (kept_news (by assumption) (by assumption) N (by assumption) (by lcg_sub)))

local macro_rules | `(tactic| walk_at "call ref") => `(tactic| (k_here; (with_reducible show wpAny _ _ (call (Value.ref 88) _) _ _ _); k_dflt (refine' hard_ok ?kB ?kF ?kX ?kN ?kT ?kK ?kl ?a0 ?a1 ?a2 ?b0 ?b1 ?b2 ?_; (case kB => k_asm); (case kF => k_asm); (case kX => k_asm); (case kN => exact cb_drop (by k_asm) (by lcg_sub)); (case kT => k_asm); (case kK => first | exact rfl | assumption); (case kl => omega); (case a0 => omega); (case a1 => omega); (case a2 => omega); (case b0 => omega); (case b1 => omega); (case b2 => omega); k_whole; intro t' h' tk' F' G'; (have N' := G' _ (by k_asm)); clear G'; (try dsimp only); (try k_fold); (try k_sweep)); walk_say "HARD"))

set_option maxHeartbeats 8000000 in
theorem m_normal
    (B : Below A₀ base outer h₀) (F : Fr h₀ L s.heap m) (X : (Mine.hd.heap_39 w.params).In h₀) (N : News h₀ L s.heap [(x, pairObj dx), (dx, pairDict w.params k1 k2 k3 k4 (.int one t1) (.int alpha t2) (.int other t3) (.int beta t4))]) (T : Top Mine.hd.view_39 loose mean mg mb h₀) (hk : cs.kind = .function)
    (lt : dx < x) (a0 : 0 ≤ one) (a1 : one ≤ alpha) (a2 : alpha < 2 ^ 41) (b0 : 0 ≤ other) (b1 : other ≤ beta) (b2 : beta < 2 ^ 41)
    (ret : ∀ t h' tk', Fr h₀ L h' m → (∀ l, News h₀ L s.heap l → News h₀ L h' l) → Q (.int (one * beta) t) { s with heap := h', toks := tk' }) :
    wpAny (model PySem.Challenge.rw_xm0713_01.row.prog w) (ktrTop 303 10 gd cn cs L a ccd cl outer) (call (.ref 109) [.str (Str.ofString "normal") tm, .ref x]) Q E s := by
  revert X; k_fill; intro X
  refine wpAny_call ?_
  k_dflt (walk_at "M enter")
  k_steps
  all_goals exact at_val (by first | rfl | omega | (simp only [Int.min_def, Int.max_def]; split <;> split <;> omega)) (ret _ _ _ (by assumption) (kept_news (by assumption) (by assumption) N (by assumption) (by lcg_sub)))

set_option maxHeartbeats 8000000 in
theorem m_multiply
    (B : Below A₀ base outer h₀) (F : Fr h₀ L s.heap m) (X : (Mine.hd.heap_39 w.params).In h₀) (N : News h₀ L s.heap [(x, pairObj dx), (dx, pairDict w.params k1 k2 k3 k4 (.int one t1) (.int alpha t2) (.int other t3) (.int beta t4))]) (T : Top Mine.hd.view_39 loose mean mg mb h₀) (hk : cs.kind = .function)
    (lt : dx < x) (a0 : 0 ≤ one) (a1 : one ≤ alpha) (a2 : alpha < 2 ^ 41) (b0 : 0 ≤ other) (b1 : other ≤ beta) (b2 : beta < 2 ^ 41)
    (ret : ∀ t h' tk', Fr h₀ L h' m → (∀ l, News h₀ L s.heap l → News h₀ L h' l) → Q (.int (one * other) t) { s with heap := h', toks := tk' }) :
    wpAny (model PySem.Challenge.rw_xm0713_01.row.prog w) (ktrTop 303 10 gd cn cs L a ccd cl outer) (call (.ref 109) [.str (Str.ofString "multiply") tm, .ref x]) Q E s := by
  revert X; k_fill; intro X
  refine wpAny_call ?_
  k_dflt (walk_at "M enter")
  k_steps
  all_goals exact at_val (by first | rfl | omega | (simp only [Int.min_def, Int.max_def]; split <;> split <;> omega)) (ret _ _ _ (by assumption) (kept_news (by assumption) (by assumption) N (by assumption) (by lcg_sub)))

set_option maxHeartbeats 8000000 in
theorem m_screen
    (B : Below A₀ base outer h₀) (F : Fr h₀ L s.heap m) (X : (Mine.hd.heap_39 w.params).In h₀) (N : News h₀ L s.heap [(x, pairObj dx), (dx, pairDict w.params k1 k2 k3 k4 (.int one t1) (.int alpha t2) (.int other t3) (.int beta t4))]) (T : Top Mine.hd.view_39 loose mean mg mb h₀) (hk : cs.kind = .function)
    (lt : dx < x) (a0 : 0 ≤ one) (a1 : one ≤ alpha) (a2 : alpha < 2 ^ 41) (b0 : 0 ≤ other) (b1 : other ≤ beta) (b2 : beta < 2 ^ 41)
    (ret : ∀ t h' tk', Fr h₀ L h' m → (∀ l, News h₀ L s.heap l → News h₀ L h' l) → Q (.int (one * beta + other * alpha - one * other) t) { s with heap := h', toks := tk' }) :
    wpAny (model PySem.Challenge.rw_xm0713_01.row.prog w) (ktrTop 303 10 gd cn cs L a ccd cl outer) (call (.ref 109) [.str (Str.ofString "screen") tm, .ref x]) Q E s := by
  revert X; k_fill; intro X
  refine wpAny_call ?_
  k_dflt (walk_at "M enter")
  k_steps
  all_goals exact at_val (by first | rfl | omega | (simp only [Int.min_def, Int.max_def]; split <;> split <;> omega)) (ret _ _ _ (by assumption) (kept_news (by assumption) (by assumption) N (by assumption) (by lcg_sub)))

set_option maxHeartbeats 8000000 in
theorem m_darken
    (B : Below A₀ base outer h₀) (F : Fr h₀ L s.heap m) (X : (Mine.hd.heap_39 w.params).In h₀) (N : News h₀ L s.heap [(x, pairObj dx), (dx, pairDict w.params k1 k2 k3 k4 (.int one t1) (.int alpha t2) (.int other t3) (.int beta t4))]) (T : Top Mine.hd.view_39 loose mean mg mb h₀) (hk : cs.kind = .function)
    (lt : dx < x) (a0 : 0 ≤ one) (a1 : one ≤ alpha) (a2 : alpha < 2 ^ 41) (b0 : 0 ≤ other) (b1 : other ≤ beta) (b2 : beta < 2 ^ 41)
    (ret : ∀ t h' tk', Fr h₀ L h' m → (∀ l, News h₀ L s.heap l → News h₀ L h' l) → Q (.int (min (one * beta) (other * alpha)) t) { s with heap := h', toks := tk' }) :
    wpAny (model PySem.Challenge.rw_xm0713_01.row.prog w) (ktrTop 303 10 gd cn cs L a ccd cl outer) (call (.ref 109) [.str (Str.ofString "darken") tm, .ref x]) Q E s := by
  revert X; k_fill; intro X
  refine wpAny_call ?_
  k_dflt (walk_at "M enter")
  k_steps
  all_goals exact at_val (by first | rfl | omega | (simp only [Int.min_def, Int.max_def]; split <;> split <;> omega)) (ret _ _ _ (by assumption) (kept_news (by assumption) (by assumption) N (by assumption) (by lcg_sub)))

set_option maxHeartbeats 8000000 in
theorem m_lighten
    (B : Below A₀ base outer h₀) (F : Fr h₀ L s.heap m) (X : (Mine.hd.heap_39 w.params).In h₀) (N : News h₀ L s.heap [(x, pairObj dx), (dx, pairDict w.params k1 k2 k3 k4 (.int one t1) (.int alpha t2) (.int other t3) (.int beta t4))]) (T : Top Mine.hd.view_39 loose mean mg mb h₀) (hk : cs.kind = .function)
    (lt : dx < x) (a0 : 0 ≤ one) (a1 : one ≤ alpha) (a2 : alpha < 2 ^ 41) (b0 : 0 ≤ other) (b1 : other ≤ beta) (b2 : beta < 2 ^ 41)
    (ret : ∀ t h' tk', Fr h₀ L h' m → (∀ l, News h₀ L s.heap l → News h₀ L h' l) → Q (.int (max (one * beta) (other * alpha)) t) { s with heap := h', toks := tk' }) :
    wpAny (model PySem.Challenge.rw_xm0713_01.row.prog w) (ktrTop 303 10 gd cn cs L a ccd cl outer) (call (.ref 109) [.str (Str.ofString "lighten") tm, .ref x]) Q E s := by
  revert X; k_fill; intro X
  refine wpAny_call ?_
  k_dflt (walk_at "M enter")
  k_steps
  all_goals exact at_val (by first | rfl | omega | (simp only [Int.min_def, Int.max_def]; split <;> split <;> omega)) (ret _ _ _ (by assumption) (kept_news (by assumption) (by assumption) N (by assumption) (by lcg_sub)))

set_option maxHeartbeats 8000000 in
theorem m_hardlight
    (B : Below A₀ base outer h₀) (F : Fr h₀ L s.heap m) (X : (Mine.hd.heap_39 w.params).In h₀) (N : News h₀ L s.heap [(x, pairObj dx), (dx, pairDict w.params k1 k2 k3 k4 (.int one t1) (.int alpha t2) (.int other t3) (.int beta t4))]) (T : Top Mine.hd.view_39 loose mean mg mb h₀) (hk : cs.kind = .function)
    (lt : dx < x) (a0 : 0 ≤ one) (a1 : one ≤ alpha) (a2 : alpha < 2 ^ 41) (b0 : 0 ≤ other) (b1 : other ≤ beta) (b2 : beta < 2 ^ 41)
    (ret : ∀ t h' tk', Fr h₀ L h' m → (∀ l, News h₀ L s.heap l → News h₀ L h' l) → Q (.int (hardv one alpha other beta) t) { s with heap := h', toks := tk' }) :
    wpAny (model PySem.Challenge.rw_xm0713_01.row.prog w) (ktrTop 303 10 gd cn cs L a ccd cl outer) (call (.ref 109) [.str (Str.ofString "hard-light") tm, .ref x]) Q E s := by
  revert X; k_fill; intro X
  refine wpAny_call ?_
  k_dflt (walk_at "M enter")
  k_steps
  all_goals exact at_val (by first | rfl | omega | (simp only [Int.min_def, Int.max_def]; split <;> split <;> omega)) (ret _ _ _ (by assumption) (kept_news (by assumption) (by assumption) N (by assumption) (by lcg_sub)))

set_option maxHeartbeats 8000000 in
theorem m_overlay
    (B : Below A₀ base outer h₀) (F : Fr h₀ L s.heap m) (X : (Mine.hd.heap_39 w.params).In h₀) (N : News h₀ L s.heap [(x, pairObj dx), (dx, pairDict w.params k1 k2 k3 k4 (.int one t1) (.int alpha t2) (.int other t3) (.int beta t4))]) (T : Top Mine.hd.view_39 loose mean mg mb h₀) (hk : cs.kind = .function)
    (lt : dx < x) (a0 : 0 ≤ one) (a1 : one ≤ alpha) (a2 : alpha < 2 ^ 41) (b0 : 0 ≤ other) (b1 : other ≤ beta) (b2 : beta < 2 ^ 41)
    (ret : ∀ t h' tk', Fr h₀ L h' m → (∀ l, News h₀ L s.heap l → News h₀ L h' l) → Q (.int (hardv other beta one alpha) t) { s with heap := h', toks := tk' }) :
    wpAny (model PySem.Challenge.rw_xm0713_01.row.prog w) (ktrTop 303 10 gd cn cs L a ccd cl outer) (call (.ref 109) [.str (Str.ofString "overlay") tm, .ref x]) Q E s := by
  revert X; k_fill; intro X
  refine wpAny_call ?_
  k_dflt (walk_at "M enter")
  k_steps
  all_goals exact at_val (by first | rfl | omega | (simp only [Int.min_def, Int.max_def]; split <;> split <;> omega)) (ret _ _ _ (by assumption) (kept_news (by assumption) (by assumption) N (by assumption) (by lcg_sub)))

set_option maxHeartbeats 8000000 in
theorem m_difference
    (B : Below A₀ base outer h₀) (F : Fr h₀ L s.heap m) (X : (Mine.hd.heap_39 w.params).In h₀) (N : News h₀ L s.heap [(x, pairObj dx), (dx, pairDict w.params k1 k2 k3 k4 (.int one t1) (.int alpha t2) (.int other t3) (.int beta t4))]) (T : Top Mine.hd.view_39 loose mean mg mb h₀) (hk : cs.kind = .function)
    (lt : dx < x) (a0 : 0 ≤ one) (a1 : one ≤ alpha) (a2 : alpha < 2 ^ 41) (b0 : 0 ≤ other) (b1 : other ≤ beta) (b2 : beta < 2 ^ 41)
    (ret : ∀ t h' tk', Fr h₀ L h' m → (∀ l, News h₀ L s.heap l → News h₀ L h' l) → Q (.int (((one * beta - other * alpha).natAbs : Int)) t) { s with heap := h', toks := tk' }) :
    wpAny (model PySem.Challenge.rw_xm0713_01.row.prog w) (ktrTop 303 10 gd cn cs L a ccd cl outer) (call (.ref 109) [.str (Str.ofString "difference") tm, .ref x]) Q E s := by
  revert X; k_fill; intro X
  refine wpAny_call ?_
  k_dflt (walk_at "M enter")
  k_steps
  all_goals exact at_val (by first | rfl | omega | (simp only [Int.min_def, Int.max_def]; split <;> split <;> omega)) (ret _ _ _ (by assumption) (kept_news (by assumption) (by assumption) N (by assumption) (by lcg_sub)))

set_option maxHeartbeats 8000000 in
theorem m_exclusion
    (B : Below A₀ base outer h₀) (F : Fr h₀ L s.heap m) (X : (Mine.hd.heap_39 w.params).In h₀) (N : News h₀ L s.heap [(x, pairObj dx), (dx, pairDict w.params k1 k2 k3 k4 (.int one t1) (.int alpha t2) (.int other t3) (.int beta t4))]) (T : Top Mine.hd.view_39 loose mean mg mb h₀) (hk : cs.kind = .function)
    (lt : dx < x) (a0 : 0 ≤ one) (a1 : one ≤ alpha) (a2 : alpha < 2 ^ 41) (b0 : 0 ≤ other) (b1 : other ≤ beta) (b2 : beta < 2 ^ 41)
    (ret : ∀ t h' tk', Fr h₀ L h' m → (∀ l, News h₀ L s.heap l → News h₀ L h' l) → Q (.int (one * beta + other * alpha - 2 * (one * other)) t) { s with heap := h', toks := tk' }) :
    wpAny (model PySem.Challenge.rw_xm0713_01.row.prog w) (ktrTop 303 10 gd cn cs L a ccd cl outer) (call (.ref 109) [.str (Str.ofString "exclusion") tm, .ref x]) Q E s := by
  revert X; k_fill; intro X
  refine wpAny_call ?_
  k_dflt (walk_at "M enter")
  k_steps
  all_goals exact at_val (by first | rfl | omega | (simp only [Int.min_def, Int.max_def]; split <;> split <;> omega)) (ret _ _ _ (by assumption) (kept_news (by assumption) (by assumption) N (by assumption) (by lcg_sub)))

set_option maxHeartbeats 8000000 in
theorem exclusion_first
    (B : Below A₀ base outer h₀) (F : Fr h₀ L s.heap m) (X : (Mine.hd.heap_39 w.params).In h₀) (N : News h₀ L s.heap [(x, pairObj dx), (dx, pairDict w.params k1 k2 k3 k4 (.int one t1) (.int alpha t2) (.int other t3) (.int beta t4))]) (T : Top Mine.hd.view_39 loose mean mg mb h₀) (hk : cs.kind = .function)
    (lt : dx < x) (a0 : 0 ≤ one) (a1 : one ≤ alpha) (a2 : alpha < 2 ^ 41) (b0 : 0 ≤ other) (b1 : other ≤ beta) (b2 : beta < 2 ^ 41)
    (ret : ∀ t h' tk', Fr h₀ L h' m → (∀ l, News h₀ L s.heap l → News h₀ L h' l) → Q (.int (one * beta + other * alpha - 2 * (one * other)) t) { s with heap := h', toks := tk' }) :
    wpAny (model PySem.Challenge.rw_xm0713_01.row.prog w) (ktrTop 302 7 gd cn cs L a ccd cl outer) (call (.ref 109) [.str (Str.ofString "exclusion") tm, .ref x]) Q E s := by
  revert X; k_fill; intro X
  refine wpAny_call ?_
  k_dflt (walk_at "M enter")
  k_steps
  all_goals exact at_val (by first | rfl | omega) (ret _ _ _ (by assumption) (kept_news (by assumption) (by assumption) N (by assumption) (by lcg_sub)))

set_option maxHeartbeats 8000000 in
theorem areas_ok
    (B : Below A₀ base outer h₀) (F : Fr h₀ L s.heap m) (X : (Mine.hd.heap_39 w.params).In h₀) (N : News h₀ L s.heap []) (T : Top Mine.hd.view_39 loose mean mg mb h₀) (hk : cs.kind = .function)
    (a0 : 0 ≤ one) (a1 : one ≤ alpha) (a2 : alpha < 2 ^ 41) (b0 : 0 ≤ other) (b1 : other ≤ beta) (b2 : beta < 2 ^ 41)
    (ret : ∀ d vs n h' tk', Fr h₀ L h' m → News h₀ L h' [(d, listOf vs.toArray n)] → IntsAre vs [one * beta, one * other, one * beta + other * alpha - one * other, min (one * beta) (other * alpha), max (one * beta) (other * alpha), hardv one alpha other beta, hardv other beta one alpha, ((one * beta - other * alpha).natAbs : Int), one * beta + other * alpha - 2 * (one * other)] → (∀ l, News h₀ L s.heap l → News h₀ L h' l) → Q (.ref d) { s with heap := h', toks := tk' }) :
    wpAny (model PySem.Challenge.rw_xm0713_01.row.prog w) (ktrTop 303 10 gd cn cs L a ccd cl outer) (call (.ref 138) [.int one t1, .int alpha t2, .int other t3, .int beta t4]) Q E s := by
  revert X; k_fill; intro X
  refine wpAny_call ?_
  k_dflt (walk_at "M enter")
  k_steps
  all_goals (
    obtain ⟨qf, qs, qb, qh1, qh2, qc1, qc2⟩ := parts one alpha other beta
    refine ret _ _ _ _ _ (by assumption) (cb_drop (by k_asm) (by lcg_sub)) ?_ (kept_news (by assumption) (by assumption) N (by assumption) (by lcg_sub))
    repeat' (first | exact IntsAre.nil | refine ints_cons ?_ ?_)
    all_goals (first | rfl | omega | (simp only [hardv_alt, Int.min_def, Int.max_def]; (repeat' split) <;> omega)))
end
end Mine
end

section
open PySem PySem.W PySem.Calls PyProof.Rows
namespace Mine
section
variable {prog : Program} {w : World} {A : Around} {E : Value → Shared → Prop} {s : Shared} {a b : Addr} {vs us : List Value} {ns : List Int} {Q : Value → Shared → Prop}
theorem news_join {h₀ h : Heap} {L : Addr} {r : List (Addr × Obj)} {p : Addr × Obj} (N : News h₀ L h [p]) (N' : News h₀ L h r) : News h₀ L h (p :: r) := fun q hq => (List.mem_cons.mp hq).elim (fun e => N q (by rw [e]; exact .head _)) (N' q)
theorem ne_same (hl : s.heap.IsList a vs.toArray) (hi : IntsAre vs ns) (hl' : s.heap.IsList b us.toArray) (hi' : IntsAre us ns) (hu : A.units + 64 < cLine) (h : Q (.bool false) s) : wpAny (model prog w) A (compareOp .NotEq (.ref a) (.ref b)) Q E s :=
  ne_intsK hl hi hl' hi' hu (by simpa using h)
theorem eq_same (hl : s.heap.IsList a vs.toArray) (hi : IntsAre vs ns) (hl' : s.heap.IsList b us.toArray) (hi' : IntsAre us ns) (hu : A.units + 64 < cLine) (h : Q (.bool true) s) : wpAny (model prog w) A (compareOp .Eq (.ref a) (.ref b)) Q E s :=
  eq_intsK hl hi hl' hi' hu (by simpa using h)
end

local macro_rules | `(tactic| walk_at "M enterC") => `(tactic| (refine' enter_partC ?k1 ?k2 ?k3 ?k4 ?k5 ?kA ?kF ?kK ?k6 ?k7 ?k8 ?k9 ?kB ?kD ?_ ?c2 ?c3 ?c4; (case kA => exact rfl); (case kF => exact rfl); (case kK => assumption); (case k1 => k_asm); (case k2 => k_asm); (case k3 => k_asm); (case k4 => k_asm); (case k5 => k_asm); (case k6 => k_is); (case k7 => k_is); (case k8 => k_room); (case k9 => exact BindsTo.of_eq rfl); (case kB => exact rfl); (case kD => decide +kernel); (case c2 => exact rfl); (case c3 => exact rfl); (case c4 => exact rfl); k_whole; intro g' L' h' tk' cells' FG' F' N' Y' B' X' T' l1 hG'; (try k_lt l1); k_cells Y'; (try simp only [List.cons_append, List.nil_append] at N'); (try dsimp only); (try k_lift B'); (try k_fold)))
local macro_rules | `(tactic| walk_at "eval ListComp") => `(tactic| (k_here; k_dflt (refine comp_tup (by k_asm) (by with_unfolding_all rfl) (by decide) (by rfl) (by decide) (by rfl) ?_); walk_say "COMP over a tuple"))
local macro_rules | `(tactic| walk_at "TupSrc") => `(tactic| (k_here; k_dflt (refine TupSrc.intro (n := 9) (by rfl) (by k_asm) (by k_asm) (by k_asm) (by k_is) (by rfl) (by decide) ?_); intro g'; walk_say "SOURCE"))
local macro_rules | `(tactic| walk_at "compareOp NotEq ref ref") => `(tactic| (k_here; k_dflt (refine' ne_same ?k1 ?k2 ?k3 ?k4 ?k5 ?_; (case k1 => is_list); (case k3 => is_list); (case k4 => assumption); (case k2 => l_intsC); (case k5 => units_room); k_whole); walk_say "NE same"))
local macro_rules | `(tactic| walk_at "compareOp Eq ref ref") => `(tactic| (k_here; k_dflt (refine' eq_same ?k1 ?k2 ?k3 ?k4 ?k5 ?_; (case k1 => is_list); (case k3 => is_list); (case k4 => l_intsC); (case k2 => l_intsC); (case k5 => units_room); k_whole); walk_say "EQ same"))
local macro_rules | `(tactic| walk_at "call ref") => `(tactic| (k_here; (with_reducible show wpAny _ _ (call (Value.ref 138) _) _ _ _); k_dflt (refine' areas_ok ?kB ?kF ?kX ?kN ?kT ?kK ?a0 ?a1 ?a2 ?b0 ?b1 ?b2 ?_; (case kB => k_asm); (case kF => k_asm); (case kX => k_asm); (case kN => exact cb_drop (by k_asm) (by lcg_sub)); (case kT => k_asm); (case kK => first | exact rfl | assumption); (case a0 => omega); (case a1 => omega); (case a2 => omega); (case b0 => omega); (case b1 => omega); (case b2 => omega); k_whole; intro d' vs' n' h' tk' F' N' hi' G'; (have N'' := G' _ (by k_asm)); (have N''' := news_join N' N''); clear G' N' N''; (try dsimp only); (try k_fold); (try k_sweep)); walk_say "AREAS"))
local macro_rules | `(tactic| walk_at "call ref") => `(tactic| (k_here; (with_reducible show wpAny _ _ (call (Value.ref 109) [Value.str (Str.ofString "normal") _, _]) _ _ _); k_dflt (refine' m_normal ?kB ?kF ?kX ?kN ?kT ?kK ?kl ?a0 ?a1 ?a2 ?b0 ?b1 ?b2 ?_; (case kB => k_asm); (case kF => k_asm); (case kX => k_asm); (case kN => exact cb_drop (by k_asm) (by lcg_sub)); (case kT => k_asm); (case kK => first | exact rfl | assumption); (case kl => omega); (case a0 => omega); (case a1 => omega); (case a2 => omega); (case b0 => omega); (case b1 => omega); (case b2 => omega); k_whole; intro t' h' tk' F' G'; (have N' := G' _ (by k_asm)); clear G'; (try dsimp only); (try k_fold); (try k_sweep)); walk_say "MODE normal"))
local macro_rules | `(tactic| walk_at "call ref") => `(tactic| (k_here; (with_reducible show wpAny _ _ (call (Value.ref 109) [Value.str (Str.ofString "multiply") _, _]) _ _ _); k_dflt (refine' m_multiply ?kB ?kF ?kX ?kN ?kT ?kK ?kl ?a0 ?a1 ?a2 ?b0 ?b1 ?b2 ?_; (case kB => k_asm); (case kF => k_asm); (case kX => k_asm); (case kN => exact cb_drop (by k_asm) (by lcg_sub)); (case kT => k_asm); (case kK => first | exact rfl | assumption); (case kl => omega); (case a0 => omega); (case a1 => omega); (case a2 => omega); (case b0 => omega); (case b1 => omega); (case b2 => omega); k_whole; intro t' h' tk' F' G'; (have N' := G' _ (by k_asm)); clear G'; (try dsimp only); (try k_fold); (try k_sweep)); walk_say "MODE multiply"))
local macro_rules | `(tactic| walk_at "call ref") => `(tactic| (k_here; (with_reducible show wpAny _ _ (call (Value.ref 109) [Value.str (Str.ofString "screen") _, _]) _ _ _); k_dflt (refine' m_screen ?kB ?kF ?kX ?kN ?kT ?kK ?kl ?a0 ?a1 ?a2 ?b0 ?b1 ?b2 ?_; (case kB => k_asm); (case kF => k_asm); (case kX => k_asm); (case kN => exact cb_drop (by k_asm) (by lcg_sub)); (case kT => k_asm); (case kK => first | exact rfl | assumption); (case kl => omega); (case a0 => omega); (case a1 => omega); (case a2 => omega); (case b0 => omega); (case b1 => omega); (case b2 => omega); k_whole; intro t' h' tk' F' G'; (have N' := G' _ (by k_asm)); clear G'; (try dsimp only); (try k_fold); (try k_sweep)); walk_say "MODE screen"))
local macro_rules | `(tactic| walk_at "call ref") => `(tactic| (k_here; (with_reducible show wpAny _ _ (call (Value.ref 109) [Value.str (Str.ofString "darken") _, _]) _ _ _); k_dflt (refine' m_darken ?kB ?kF ?kX ?kN ?kT ?kK ?kl ?a0 ?a1 ?a2 ?b0 ?b1 ?b2 ?_; (case kB => k_asm); (case kF => k_asm); (case kX => k_asm); (case kN => exact cb_drop (by k_asm) (by lcg_sub)); (case kT => k_asm); (case kK => first | exact rfl | assumption); (case kl => omega); (case a0 => omega); (case a1 => omega); (case a2 => omega); (case b0 => omega); (case b1 => omega); (case b2 => omega); k_whole; intro t' h' tk' F' G'; (have N' := G' _ (by k_asm)); clear G'; (try dsimp only); (try k_fold); (try k_sweep)); walk_say "MODE darken"))
local macro_rules | `(tactic| walk_at "call ref") => `(tactic| (k_here; (with_reducible show wpAny _ _ (call (Value.ref 109) [Value.str (Str.ofString "lighten") _, _]) _ _ _); k_dflt (refine' m_lighten ?kB ?kF ?kX ?kN ?kT ?kK ?kl ?a0 ?a1 ?a2 ?b0 ?b1 ?b2 ?_; (case kB => k_asm); (case kF => k_asm); (case kX => k_asm); (case kN => exact cb_drop (by k_asm) (by lcg_sub)); (case kT => k_asm); (case kK => first | exact rfl | assumption); (case kl => omega); (case a0 => omega); (case a1 => omega); (case a2 => omega); (case b0 => omega); (case b1 => omega); (case b2 => omega); k_whole; intro t' h' tk' F' G'; (have N' := G' _ (by k_asm)); clear G'; (try dsimp only); (try k_fold); (try k_sweep)); walk_say "MODE lighten"))
local macro_rules | `(tactic| walk_at "call ref") => `(tactic| (k_here; (with_reducible show wpAny _ _ (call (Value.ref 109) [Value.str (Str.ofString "hard-light") _, _]) _ _ _); k_dflt (refine' m_hardlight ?kB ?kF ?kX ?kN ?kT ?kK ?kl ?a0 ?a1 ?a2 ?b0 ?b1 ?b2 ?_; (case kB => k_asm); (case kF => k_asm); (case kX => k_asm); (case kN => exact cb_drop (by k_asm) (by lcg_sub)); (case kT => k_asm); (case kK => first | exact rfl | assumption); (case kl => omega); (case a0 => omega); (case a1 => omega); (case a2 => omega); (case b0 => omega); (case b1 => omega); (case b2 => omega); k_whole; intro t' h' tk' F' G'; (have N' := G' _ (by k_asm)); clear G'; (try dsimp only); (try k_fold); (try k_sweep)); walk_say "MODE hard-light"))
local macro_rules | `(tactic| walk_at "call ref") => `(tactic| (k_here; (with_reducible show wpAny _ _ (call (Value.ref 109) [Value.str (Str.ofString "overlay") _, _]) _ _ _); k_dflt (refine' m_overlay ?kB ?kF ?kX ?kN ?kT ?kK ?kl ?a0 ?a1 ?a2 ?b0 ?b1 ?b2 ?_; (case kB => k_asm); (case kF => k_asm); (case kX => k_asm); (case kN => exact cb_drop (by k_asm) (by lcg_sub)); (case kT => k_asm); (case kK => first | exact rfl | assumption); (case kl => omega); (case a0 => omega); (case a1 => omega); (case a2 => omega); (case b0 => omega); (case b1 => omega); (case b2 => omega); k_whole; intro t' h' tk' F' G'; (have N' := G' _ (by k_asm)); clear G'; (try dsimp only); (try k_fold); (try k_sweep)); walk_say "MODE overlay"))
local macro_rules | `(tactic| walk_at "call ref") => `(tactic| (k_here; (with_reducible show wpAny _ _ (call (Value.ref 109) [Value.str (Str.ofString "difference") _, _]) _ _ _); k_dflt (refine' m_difference ?kB ?kF ?kX ?kN ?kT ?kK ?kl ?a0 ?a1 ?a2 ?b0 ?b1 ?b2 ?_; (case kB => k_asm); (case kF => k_asm); (case kX => k_asm); (case kN => exact cb_drop (by k_asm) (by lcg_sub)); (case kT => k_asm); (case kK => first | exact rfl | assumption); (case kl => omega); (case a0 => omega); (case a1 => omega); (case a2 => omega); (case b0 => omega); (case b1 => omega); (case b2 => omega); k_whole; intro t' h' tk' F' G'; (have N' := G' _ (by k_asm)); clear G'; (try dsimp only); (try k_fold); (try k_sweep)); walk_say "MODE difference"))
local macro_rules | `(tactic| walk_at "call ref") => `(tactic| (k_here; (with_reducible show wpAny _ _ (call (Value.ref 109) [Value.str (Str.ofString "exclusion") _, _]) _ _ _); k_dflt (refine' m_exclusion ?kB ?kF ?kX ?kN ?kT ?kK ?kl ?a0 ?a1 ?a2 ?b0 ?b1 ?b2 ?_; (case kB => k_asm); (case kF => k_asm); (case kX => k_asm); (case kN => exact cb_drop (by k_asm) (by lcg_sub)); (case kT => k_asm); (case kK => first | exact rfl | assumption); (case kl => omega); (case a0 => omega); (case a1 => omega); (case a2 => omega); (case b0 => omega); (case b1 => omega); (case b2 => omega); k_whole; intro t' h' tk' F' G'; (have N' := G' _ (by k_asm)); clear G'; (try dsimp only); (try k_fold); (try k_sweep)); walk_say "MODE exclusion"))

section
variable {w : World} {loose : List Str} {mean : ExcName → Option Value} {mg mb : Str → Option Value} {gd : Option (List Code)} {cn : Str} {cs : Scope} {a : Addr} {ccd : Value} {cl : List (Str × Addr)} {outer : List Env} {A₀ : Around} {base h₀ : Heap} {L : Addr} {m : Str → Option Value} {s : Shared} {Q E : Value → Shared → Prop}

set_option maxHeartbeats 8000000 in
theorem right_ok {one alpha other beta : Int} {t1 t2 t3 t4 : Tok}
    (B : Below A₀ base outer h₀) (F : Fr h₀ L s.heap m) (X : (Mine.hd.heap_39 w.params).In h₀) (N : News h₀ L s.heap []) (T : Top Mine.hd.view_39 loose mean mg mb h₀) (hk : cs.kind = .function)
    (a0 : 0 ≤ one) (a1 : one ≤ alpha) (a2 : alpha < 2 ^ 41) (b0 : 0 ≤ other) (b1 : other ≤ beta) (b2 : beta < 2 ^ 41)
    (ret : ∀ h' tk', Fr h₀ L h' m → (∀ l, News h₀ L s.heap l → News h₀ L h' l) → Q (.bool true) { s with heap := h', toks := tk' }) :
    wpAny (model PySem.Challenge.rw_xm0713_01.row.prog w) (ktrTop 302 7 gd cn cs L a ccd cl outer) (call (.ref 150) [.int one t1, .int alpha t2, .int other t3, .int beta t4]) Q E s := by
  revert X; k_fill; intro X
  refine wpAny_call ?_
  k_dflt (walk_at "M enterC")
  k_steps
  all_goals exact ret _ _ (by assumption) (kept_news (by assumption) (by assumption) N (by assumption) (by lcg_sub))
end
end Mine
end

section
open PySem PySem.W PySem.Calls PyProof.Rows
namespace Mine

def modeNames : List Str := [Str.ofString "normal", Str.ofString "multiply", Str.ofString "screen", Str.ofString "darken", Str.ofString "lighten", Str.ofString "hard-light", Str.ofString "overlay", Str.ofString "difference", Str.ofString "exclusion"]
def StrsIn (l : List Str) : List Value → Prop
  | [] => True
  | .str x _ :: vs => x ∈ l ∧ StrsIn l vs
  | _ => False
theorem mem_str {l : List Str} : ∀ {vs : List Value} {v : Value}, StrsIn l vs → v ∈ vs → ∃ x t, v = .str x t ∧ x ∈ l := by
  intro vs
  induction vs with
  | nil => intro v _ h; cases h
  | cons u us ih =>
    intro v h hv
    cases u <;> simp only [StrsIn] at h
    rename_i x t
    rcases List.mem_cons.mp hv with rfl | hv
    · exact ⟨x, t, rfl, h.1⟩
    · exact ih h.2 hv
theorem name_len : ∀ x ∈ modeNames, 0 < x.length ∧ x.length ≤ 10 := by decide +kernel

def wrongs (z : Str) (r : Int) : List Str := [Txt.slice z none (some r), Txt.slice z (some (r + 1)) none, Str.ofString " " ++ z, z ++ Str.ofString " ", Txt.upper z, z ++ z]
theorem wrongs_all : (modeNames.all fun z => (List.range z.length).all fun k => (wrongs z (k : Int)).all fun x => !modeNames.contains x && decide (x.length ≤ 64)) = true := by decide +kernel
theorem wrong_str {z : Str} {r : Int} {t1 t2 t3 t4 t5 t6 : Tok} {v : Value} (hz : z ∈ modeNames) (h0 : 0 ≤ r) (h1 : r < (z.length : Int))
    (hv : v ∈ [Value.str (Txt.slice z none (some r)) t1, .str (Txt.slice z (some (r + 1)) none) t2, .str (Str.ofString " " ++ z) t3, .str (z ++ Str.ofString " ") t4, .str (Txt.upper z) t5, .str (z ++ z) t6]) :
    ∃ x t, v = .str x t ∧ x ∉ modeNames ∧ x.length ≤ 64 := by
  obtain ⟨x, t, e, hx⟩ := mem_str (l := wrongs z r) (by simp [StrsIn, wrongs]) hv
  refine ⟨x, t, e, ?_⟩
  obtain ⟨k, rfl⟩ := Int.eq_ofNat_of_zero_le h0
  have a := List.all_eq_true.mp (List.all_eq_true.mp (List.all_eq_true.mp wrongs_all z hz) k (List.mem_range.mpr (by omega))) x hx
  simp only [Bool.and_eq_true, Bool.not_eq_true', decide_eq_true_eq] at a
  exact ⟨fun q => absurd a.1 (by rw [List.contains_iff_mem.mpr q]; decide), a.2⟩

local macro_rules | `(tactic| walk_at "M enter") => `(tactic| (refine' enter_part ?k1 ?k2 ?k3 ?k4 ?k5 ?kA ?kF ?kK ?k6 ?k7 ?k8 ?k9 ?kB ?_ ?c2 ?c3 ?c4 ?c5; (case kA => exact rfl); (case kF => exact rfl); (case kK => assumption); (case k1 => k_asm); (case k2 => k_asm); (case k3 => k_asm); (case k4 => k_asm); (case k5 => k_asm); (case k6 => k_is); (case k7 => k_is); (case k8 => ktr_room); (case k9 => exact BindsTo.of_eq rfl); (case c5 => decide); (case kB => exact locs rfl); (case c2 => exact rfl); (case c3 => exact rfl); (case c4 => exact rfl); k_whole; intro g' L' h' FG' F' N' B' X' T' l1' hG'; (try k_lt l1'); (try dsimp only); (try k_fold)))
local macro_rules | `(tactic| walk_at "call ref") => `(tactic| (k_here; (with_reducible show wpAny _ _ (call (Value.ref 124) _) _ _ _); k_dflt (refine' take_ok ?kB ?kF ?kX ?kN ?kT ?kK ?kd ?ku ?kt ?kt2 ?kx ?ky ?ky1 ?_; (case kB => k_asm); (case kF => k_asm); (case kX => k_asm); (case kN => k_asm); (case kT => k_asm); (case kK => first | exact rfl | assumption); (case kd => ktr_room); (case ku => ktr_units); (case kt => omega); (case kt2 => omega); (case kx => assumption); (case ky => assumption); (case ky1 => assumption); k_whole; intro r' t' x' tx' y' ty' n' h' tk' F' N' K' l1' l2' l3' l4' l5'; (try dsimp only); (try k_fold); (try k_sweep)); walk_say "TAKE"))
local macro_rules | `(tactic| walk_at "call ref") => `(tactic| (k_here; (with_reducible show wpAny _ _ (call (Value.ref 131) _) _ _ _); k_dflt (refine' one_ok ?kB ?kF ?kX ?kN ?kT ?kK ?kd ?ku ?kne ?kl ?kl1 ?kx ?ky ?ky1 ?_; (case kB => k_asm); (case kF => k_asm); (case kX => k_asm); (case kN => k_asm); (case kT => k_asm); (case kK => first | exact rfl | assumption); (case kd => ktr_room); (case ku => ktr_units); (case kne => k_ne); (case kl => exact Nat.le_of_ble_eq_true rfl); (case kl1 => exact Nat.le_of_ble_eq_true rfl); (case kx => assumption); (case ky => assumption); (case ky1 => assumption); k_whole; intro v' x' tx' y' ty' n' h' tk' F' N' K' hv' l3' l4' l5'; clear K'; (try dsimp only); (try k_fold); (try k_sweep)); walk_say "ONE"))
local macro_rules | `(tactic| walk_at "call ref") => `(tactic| (k_here; (with_reducible show wpAny _ _ (call (Value.ref 131) [_, Value.ref 110]) _ _ _); k_dflt (refine' oneT_ok ?kB ?kF ?kX ?kN ?kT ?kK ?kI ?kd ?ku ?kl ?kl1 ?kx ?ky ?ky1 ?_; (case kI => k_is); (case kB => k_asm); (case kF => k_asm); (case kX => k_asm); (case kN => k_asm); (case kT => k_asm); (case kK => first | exact rfl | assumption); (case kd => ktr_room); (case ku => ktr_units); (case kl => exact Nat.le_of_ble_eq_true rfl); (case kl1 => exact Nat.le_of_ble_eq_true rfl); (case kx => assumption); (case ky => assumption); (case ky1 => assumption); k_whole; intro v' x' tx' y' ty' n' h' tk' F' N' K' hv' l3' l4' l5'; clear K'; (obtain ⟨z', tz', ez', hz'⟩ := mem_str (l := modeNames) (by simp only [StrsIn, modeNames]; decide +kernel) hv'); subst ez'; clear hv'; (have hn' := name_len _ hz'); (try dsimp only); (try k_fold); (try k_sweep)); walk_say "ONE of the names"))

section
variable {w : World} {loose : List Str} {mean : ExcName → Option Value} {mg mb : Str → Option Value} {dp un : Nat} {gd : Option (List Code)} {cn : Str} {cs : Scope} {a : Addr} {ccd : Value} {cl : List (Str × Addr)} {outer : List Env} {A₀ : Around} {base h₀ : Heap} {L : Addr} {m : Str → Option Value} {s : Shared} {Q E : Value → Shared → Prop}
  {src : Addr} {x y : Int} {tx ty : Tok} {n : Nat}

set_option maxHeartbeats 8000000 in
theorem nomode_ok
    (B : Below A₀ base outer h₀) (F : Fr h₀ L s.heap m) (X : (Mine.hd.heap_39 w.params).In h₀) (N : News h₀ L s.heap [(src, srcOf x y tx ty n)]) (T : Top Mine.hd.view_39 loose mean mg mb h₀) (hk : cs.kind = .function)
    (hd : dp + 3 < recursionLimit) (hu : un + 24 < cLine) (hx : 0 ≤ x) (hy : 0 ≤ y) (hy1 : y < 2147483647)
    (ret : ∀ z t h' tk', Fr h₀ L h' m → News h₀ L h' [] → z ∉ modeNames → z.length ≤ 64 → Q (.str z t) { s with heap := h', toks := tk' }) :
    wpAny (model PySem.Challenge.rw_xm0713_01.row.prog w) (ktrTop dp un gd cn cs L a ccd cl outer) (call (.ref 157) [.ref src]) Q E s := by
  revert X; k_fill; intro X
  refine wpAny_call ?_
  k_dflt (walk_at "M enter")
  k_steps
  rename (_ ∈ _) => hv
  obtain ⟨z, t, rfl, h1, h2⟩ := wrong_str (by assumption) (by assumption) (by assumption) hv
  exact ret _ _ _ _ (by assumption) News.nil h1 h2
end
end Mine
end

section
open PySem PySem.W PySem.Calls PyProof.Rows
namespace Mine

/-- an exception of class C with its own dict d, and a traceback whose flight mark is fl -/
def ExcAt (h base : Heap) (e C d : Addr) (fl : Value) : Prop :=
  ∃ oe vs T oT ts, h.get? e = some oe ∧ oe.cls = .ref C ∧ oe.dict = some d ∧ oe.data = .fields vs ∧ vs[1]? = some (.ref T) ∧ base.get? T = none ∧ T ≠ e ∧ h.get? T = some oT ∧ oT.data = .fields ts ∧ ts[3]? = some fl

theorem ExcAt.there {h base : Heap} {e C d : Addr} {fl : Value} (x : ExcAt h base e C d fl) : ∃ oe vs, h.get? e = some oe ∧ oe.cls = .ref C ∧ oe.dict = some d ∧ oe.data = .fields vs :=
  let ⟨oe, vs, _, _, _, a, b, c, e, _⟩ := x; ⟨oe, vs, a, b, c, e⟩

theorem dict_mapFields (o : Obj) (f) : (o.mapFields f).dict = o.dict := by
  unfold Obj.mapFields; split <;> rfl

section
variable {M : Model} {A : Around} {E : Value → Shared → Prop} {s : Shared}

theorem entry_exc {base : Heap} {env : Env} {outer : List Env} {L e C d : Addr} {oe : Obj} {vs : Array Value} {head : Value} {hadNext : Bool} {Q : Unit → Shared → Prop}
    (hfr : A.frames = some (env :: outer)) (hl : s.heap.FunFrames base (env :: outer)) (hf : env.frame = some L)
    (he : s.heap.get? e = some oe) (hkb : base.StaysIn s.heap) (hen : base.get? e = none) (hc : oe.cls = .ref C) (hdi : oe.dict = some d) (hd : oe.data = .fields vs) (hsz : 1 < vs.size)
    (h : ∀ h', base.StaysIn h' → h'.FunFrames base (env :: outer) → ExcAt h' base e C d (rawInt L) → s.heap.UpToSlots h' → Q () { s with heap := h' }) :
    wpAny M A (do let a ← frameOf env; let pl ← entryPlaceOf L hadNext; let b ← EntryCells.newEntry head a .none (rawInt L) .none pl; setField (.ref e) 1 b) Q E s := by
  have hne : e ∉ (env :: outer).filterMap (·.frame) := fun hm => by
    obtain ⟨_, o, ho, hnf⟩ := hl.mem hm
    rw [he] at ho; cases ho; exact hnf vs hd
  refine wpAny_bind (wpAny_frameOf_fun hfr hl hf fun h₁ hs₁ => wpAny_bind (wpAny_entryPlaceOf fun pl hpl => ?_))
  unfold EntryCells.newEntry newFields
  refine wpAny_bind (wpAny_newObj_type ?_ (hpl.sizeOk5 _ _ _ _ _))
  generalize hot : ({ cls := .type "traceback", dict := none, data := .fields ([head, .ref L, .none, rawInt L, .none] ++ (if pl.isEmpty then List.replicate 6 Value.none else pl)).toArray } : Obj) = ot
  have hotd : ot.data = .fields ([head, .ref L, .none, rawInt L, .none] ++ (if pl.isEmpty then List.replicate 6 Value.none else pl)).toArray := by rw [← hot]
  have he₁ : h₁.get? e = some oe := (hs₁.2.1 e hne).trans he
  have hk₁ : base.StaysIn h₁ := fun b o hb => (hs₁.2.1 b fun hm => by rw [(hl.mem hm).1] at hb; cases hb).trans (hkb b o hb)
  have he₂ := Heap.get?_push_of_some (h := h₁) ot he₁
  refine wpAny_setField he₂ hd hsz ?_
  have hTe : h₁.objs.size ≠ e := Nat.ne_of_gt (Heap.lt_size he₁)
  have hd₃ := Obj.data_mapFields hd (·.setIfInBounds 1 (Value.ref h₁.objs.size))
  have he₃ := Heap.get?_update_self (Obj.mapFields (·.setIfInBounds 1 (Value.ref h₁.objs.size))) he₂ (Obj.isFreed_of_fields hd₃)
  have hT₃ := (Heap.get?_update_other (h₁.push ot) (Obj.mapFields (·.setIfInBounds 1 (Value.ref h₁.objs.size))) (Ne.symm hTe)).trans (Heap.get?_push_size h₁ (by rw [← hot]; rfl))
  have keep : ∀ b o, b ≠ e → h₁.get? b = some o → ((h₁.push ot).update e (Obj.mapFields (·.setIfInBounds 1 (Value.ref h₁.objs.size)))).get? b = some o := fun b o hb hg => by
    rw [Heap.get?_update_other _ _ (Ne.symm hb)]; exact Heap.get?_push_of_some _ hg
  have nr : ∀ b o, s.heap.get? b = some o → (∀ vs, o.data ≠ .fields vs) → b ≠ e := fun b o hb hnf q => by
    rw [q, he] at hb; cases hb; exact hnf vs hd
  refine h _ (fun b o hb => keep b o (fun q => by rw [q, hen] at hb; cases hb) (hk₁ b o hb)) (hl.of_keeps fun b o hb hnf => ?_) ?_ (fun b o hb hnf => ?_)
  · obtain ⟨sl, hs⟩ := hs₁.2.2 b o hb
    exact ⟨_, keep b _ (nr b o hb hnf) hs, rfl⟩
  · refine ⟨_, _, h₁.objs.size, ot, _, he₃, (Obj.cls_mapFields _ _).trans hc, (dict_mapFields _ _).trans hdi, hd₃, by simp [hsz], hk₁.fresh, hTe, hT₃, hotd, ?_⟩
    first | (simp; done) | (rcases hpl with rfl | ⟨_, _, _, _, _, _, _, rfl⟩ <;> simp)
  · obtain ⟨sl, hs⟩ := hs₁.2.2 b o hb
    exact ⟨sl, keep b _ (nr b o hb hnf) hs⟩

theorem flight_exc {base : Heap} {l : List Env} {e C d : Addr} {fl : Value} {Q : Unit → Shared → Prop}
    (hkb : base.StaysIn s.heap) (hl : s.heap.FunFrames base l) (ht : ExcAt s.heap base e C d fl)
    (h : ∀ h', base.StaysIn h' → h'.FunFrames base l → ExcAt h' base e C d .none → s.heap.UpToSlots h' → Q () { s with heap := h' }) : wpAny M A (setFlight (.ref e) none) Q E s := by
  obtain ⟨oe, vs, T, oT, ts, he, hc, hdi, hd, h1, hnT, hTe, hT, hdT, h3⟩ := ht
  have h3s : 3 < ts.size := (Array.getElem?_eq_some_iff.mp h3).1
  have other : ∀ b, b ≠ T → (s.heap.update T (Obj.mapFields (·.setIfInBounds 3 ((none : Option Addr).elim Value.none fun f => rawInt f)))).get? b = s.heap.get? b := fun b hb => Heap.get?_update_other _ _ (Ne.symm hb)
  have nr : ∀ b o, s.heap.get? b = some o → (∀ vs, o.data ≠ .fields vs) → b ≠ T := fun b o hb hnf q => by
    rw [q, hT] at hb; cases hb; exact hnf ts hdT
  unfold setFlight
  refine wpAny_bind (wpAny_field he hd h1 ?_)
  rw [if_pos (show (Value.ref T != Value.none) = true from by simp)]
  refine wpAny_setField hT hdT h3s (h _ (fun b o hb => (other b fun q => by rw [q, hnT] at hb; cases hb).trans (hkb b o hb)) (hl.of_keeps fun b o hb hnf => ⟨o, (other b (nr b o hb hnf)).trans hb, rfl⟩) ?_ fun b o hb hnf => ⟨o.slots, (other b (nr b o hb hnf)).trans hb⟩)
  exact ⟨oe, vs, T, _, _, (other e (Ne.symm hTe)).trans he, hc, hdi, hd, h1, hnT, hTe, Heap.get?_update_self _ hT (Obj.isFreed_of_fields (Obj.data_mapFields hdT _)), Obj.data_mapFields hdT _, by simp [h3s]⟩

theorem leave_exc {base : Heap} {env : Env} {outer : List Env} {L e C d : Addr} {oe : Obj} {vs : Array Value} {Q : Unit → Shared → Prop}
    (hfr : A.frames = some (env :: outer)) (hl : s.heap.FunFrames base (env :: outer)) (hf : env.frame = some L)
    (he : s.heap.get? e = some oe) (hkb : base.StaysIn s.heap) (hen : base.get? e = none) (hc : oe.cls = .ref C) (hdi : oe.dict = some d) (hd : oe.data = .fields vs) (h1 : vs[1]? = some .none)
    (h : ∀ h', base.StaysIn h' → h'.FunFrames base outer → ExcAt h' base e C d .none → s.heap.UpToSlots h' → Q () { s with heap := h' }) : wpAny M A (leaving env (.ref e)) Q E s := by
  unfold leaving noteFrame
  simp only [hf]
  refine wpAny_bind (wpAny_bind (wpAny_field he hd h1 ?_))
  rw [if_neg (by decide)]
  refine entry_exc hfr hl hf he hkb hen hc hdi hd (Array.getElem?_eq_some_iff.mp h1).1 fun h' k1 k2 k3 k4 => ?_
  refine flight_exc k1 k2 k3 fun h'' j1 j2 j3 j4 => h h'' j1 j2.2.2 j3 (k4.trans j4)

theorem note_exc {base : Heap} {env : Env} {outer : List Env} {L e C d : Addr} {Q : Unit → Shared → Prop}
    (hfr : A.frames = some (env :: outer)) (hl : s.heap.FunFrames base (env :: outer)) (hf : env.frame = some L) (ht : ExcAt s.heap base e C d .none) (hkb : base.StaysIn s.heap) (hen : base.get? e = none)
    (h : ∀ h', base.StaysIn h' → h'.FunFrames base (env :: outer) → ExcAt h' base e C d (rawInt L) → s.heap.UpToSlots h' → Q () { s with heap := h' }) : wpAny M A (noteFrame (.ref e) env) Q E s := by
  obtain ⟨oe, vs, T, oT, ts, he, hc, hdi, hd, h1, hnT, hTe, hT, hdT, h3⟩ := ht
  unfold noteFrame
  simp only [hf]
  refine wpAny_bind (wpAny_field he hd h1 ?_)
  rw [if_pos (show (Value.ref T != Value.none) = true from by simp)]
  refine wpAny_bind (wpAny_field hT hdT h3 ?_)
  rw [if_neg (show ¬ ((Value.none == rawInt L) = true) from by simp [rawInt])]
  refine wpAny_bind (wpAny_setField hT hdT (Array.getElem?_eq_some_iff.mp h3).1 ?_)
  have other : ∀ b, b ≠ T → (s.heap.update T (Obj.mapFields (·.setIfInBounds 3 Value.none))).get? b = s.heap.get? b := fun b hb => Heap.get?_update_other _ _ (Ne.symm hb)
  have nr : ∀ b o, s.heap.get? b = some o → (∀ vs, o.data ≠ .fields vs) → b ≠ T := fun b o hb hnf q => by
    rw [q, hT] at hb; cases hb; exact hnf ts hdT
  refine entry_exc hfr (hl.of_keeps fun b o hb hnf => ⟨o, (other b (nr b o hb hnf)).trans hb, rfl⟩) hf ((other e (Ne.symm hTe)).trans he)
    (fun b o hb => (other b fun q => by rw [q, hnT] at hb; cases hb).trans (hkb b o hb)) hen hc hdi hd (Array.getElem?_eq_some_iff.mp h1).1
    fun h' k1 k2 k3 k4 => h h' k1 k2 k3 fun b o hb hnf => k4 b o ((other b (nr b o hb hnf)).trans hb) hnf
end
end Mine
end

section
open PySem PySem.W PySem.Calls PyProof.Rows
namespace Mine
open Sem (wp)

/-- the order of a class two steps below Exception -/
abbrev belowExc (D : Addr) : List Value := [.ref D, .type "Exception", .type "BaseException", .type "object"]

section
variable {M : Model} {A : Around} {E : Value → Shared → Prop} {h : Heap} {g : Array GenState} {d : Drawn} {t : Nat} {os : OsState}
variable {nm q : Str} {C D N : Addr} {bs : List Value} {hdct : Bool} {sn : List Str} {sub : List Value} {ab : Bool} {col : Option Bool} {dd : Option Addr} {k0 k1 k2 k3 k5 : Option Value}

theorem has_exc : (Value.ref C :: belowExc D).contains (.type "Exception") = true := by simp
theorem has_base : (Value.ref C :: belowExc D).contains (.type "BaseException") = true := by simp
theorem no_attr : (Value.ref C :: belowExc D).contains (.type "AttributeError") = false := by simp
theorem no_name : (Value.ref C :: belowExc D).contains (.type "NameError") = false := by simp

theorem check_new {rest : List Value} {Q : Unit → Shared → Prop} (hC : h.get? C = some (excClassObj nm q C N bs (belowExc D) hdct sn sub ab col dd k0 k1 k2 k3 k5 "Exception.__new__"))
    (hq : Q () ⟨h, g, d, t, os⟩) : wpAny M A (checkBuiltinCall "Exception.__new__" ⟨.ref C :: rest, []⟩) Q E ⟨h, g, d, t, os⟩ :=
  wpAny_check_new_subU PySem.F.excBase_Exception (bmB := belowExc D) (by simp) .base hC hq
end

section
variable {prog : Program} {w : World} {A : Around} {h : Heap} {g : Array GenState} {d : Drawn} {t : Nat} {os : OsState}
variable {nm q : Str} {C D N : Addr} {bs : List Value} {hdct : Bool} {sn : List Str} {sub : List Value} {ab : Bool} {col : Option Bool} {dd : Option Addr} {k0 k1 k2 k3 k5 : Option Value}

theorem run_new {R : Result → Shared → Prop} {rest : List Value} (hC : h.get? C = some (excClassObj nm q C N bs (belowExc D) hdct sn sub ab col dd k0 k1 k2 k3 k5 "Exception.__new__"))
    (hq : R (.ok (.ret (.ref (h.objs.size + 1)))) ⟨(h.push { cls := .type "tuple", data := .seq rest.toArray }).push { cls := .ref C, data := .fields #[.ref h.objs.size, .none, .none, .none, .bool false, .none] }, g, d, t, os⟩)
    (hrest : rest.length ≤ sizeLine) : codeAny (model prog w) A (.builtin "Exception.__new__" ⟨.ref C :: rest, []⟩) R ⟨h, g, d, t, os⟩ := by
  have F := PySem.F.excBase_Exception
  have hends := F.ends
  refine codeAny_builtinAt F.entry ?_
  unfold Builtin.«BaseException.__new__»
  refine PySem.wpAt_bind ?_
  show PySem.wpAt _ _ _ (stack >>= _) _ _ _
  refine PySem.wpAt_bind (PySem.wpAt_stack fun p below => PySem.wpAt_of_wpAny ?_)
  wp_walk
  refine PySem.wpAt_of_wpAny ?_
  rw [F.owner]
  repeat (first | with_reducible refine wpAny_madeHere_exc F.canon hC ?_ | with_reducible refine wpAny_loadPart_at hC ?_ | (with_reducible refine wpAny_isSubtype_exc hC ?_; first | rw [has_exc] | rw [no_attr] | rw [no_name]) | wp_step)
  show R _ _
  rw [Heap.size_push]
  exact hq

variable {E : Value → Shared → Prop} {K : Frag}
theorem type_call {rest : List Value} {fI : Addr} {Q : Fin → Shared → Prop} (X : K.In h)
    (hC : h.get? C = some (excClassObj nm q C N bs (belowExc D) hdct sn sub ab col dd k0 k1 k2 k3 k5 "Exception.__new__")) (hi : findIn K (.ref C) "__init__" = some (some (.ref fI))) (hf : isFn K (.ref fI) = true)
    (hq : ∀ h' e, Heap.MadeExcOf h h' e (.ref C) rest → wpAny (model prog w) A (call (.ref fI) (.ref e :: rest)) (fun r s' => r = .none ∧ Q (.done (.ret (.ref e))) s') E ⟨h', g, d, t, os⟩) (hrest : rest.length ≤ sizeLine) :
    wpAny (model prog w) A (Builtin.«type.__call__» ⟨.ref C :: rest, []⟩) Q E ⟨h, g, d, t, os⟩ := by
  have F := PySem.F.excBase_Exception
  repeat (first | with_reducible refine wpAny_loadPart_at hC ?_ | with_reducible refine wpAny_madeBy_exc hC ?_ | wp_step)
  refine codeAny_call_builtin_code (Code.quiet_builtin _ F.quiet) (check_new hC ?_)
  refine run_new hC ?_ hrest
  show wpAny _ _ _ _ _ _
  have up : ∀ b o, h.get? b = some o → ((h.push { cls := .type "tuple", data := .seq rest.toArray }).push { cls := .ref C, data := .fields #[.ref h.objs.size, .none, .none, .none, .bool false, .none] }).get? b = some o :=
    fun b o e => Heap.get?_push_of_some _ (Heap.get?_push_of_some _ e)
  have hC₁ := up _ _ hC
  have X₁ := X.keeps up
  have hget : ((h.push { cls := .type "tuple", data := .seq rest.toArray }).push { cls := .ref C, data := .fields #[.ref h.objs.size, .none, .none, .none, .bool false, .none] }).get? (h.objs.size + 1) = some
      { cls := .ref C, data := .fields #[.ref h.objs.size, .none, .none, .none, .bool false, .none] } := by heap_get
  have hcC : (Value.ref C :: belowExc D).contains (.ref C) = true := by simp
  unfold isInstance
  repeat (first | with_reducible refine wpAny_loadPart_at hget ?_ | (with_reducible refine wpAny_isSubtype_exc hC₁ ?_; rw [hcC]) | wp_step)
  show wpAny _ _ (typeLookup (.ref C) _) _ _ _
  refine (looks_findIn X₁ hi).here ?_
  refine wpAny_holding (wpAny_bind ?_)
  refine (bind_fn X₁ _ (beq_iff_eq.mp hf)).here ?_
  refine wpAny_bind (wpAny_mono (hq _ (h.objs.size + 1) ⟨up, Heap.get?_none_of_le (Nat.le_succ _), h.objs.size, hget, Heap.get?_none_of_le (Nat.le_refl _), ?_⟩) (fun r s' hr => ?_) fun _ _ x => x)
  · exact Heap.get?_push_of_some _ (Heap.get?_push_at rfl rfl)
  · obtain ⟨rfl, hQ⟩ := hr
    wp_walk
    exact hQ

theorem call_exc {rest : List Value} {fI : Addr} {Q : Value → Shared → Prop} (X : K.In h)
    (hC : h.get? C = some (excClassObj nm q C N bs (belowExc D) hdct sn sub ab col dd k0 k1 k2 k3 k5 "Exception.__new__")) (hi : findIn K (.ref C) "__init__" = some (some (.ref fI))) (hf : isFn K (.ref fI) = true)
    (hq : ∀ h' e, Heap.MadeExcOf h h' e (.ref C) rest →
      wpAny (model prog w) (A.under (.builtin "type.__call__" ⟨.ref C :: rest, []⟩)) (call (.ref fI) (.ref e :: rest)) (fun r s' => r = .none ∧ Q (.ref e) s') E ⟨h', g, d, t, os⟩) (hrest : rest.length ≤ sizeLine) :
    wpAny (model prog w) A (call (.ref C) rest) Q E ⟨h, g, d, t, os⟩ := by
  have f1 := tc_lookup
  have f2 := tc_bind (.ref C)
  have hT : (⟨h, g, d, t, os⟩ : Shared).TypeIs (.ref C) "type" := ⟨_, hC, rfl⟩
  refine wpAny_call (codeAny_of_tree ?_)
  show wpAny _ _ (callAny (.ref C) _) _ _ _
  repeat (any_goals (first | assumption | with_reducible refine wpAny_loadPart_at hC ?_ | wp_step))
  refine ⟨rfl, ?_⟩
  refine codeAny_call_builtin_at (Code.quiet_builtin _ (by decide +kernel)) entry_typeCall (wpAny_check_type_call_sub hC (type_call X hC hi hf (fun h' e hm => ?_) hrest))
  exact hq h' e hm
end
end Mine
end

section
open PySem PySem.W PySem.Calls PyProof.Rows
namespace Mine

/-- an exception with its own dict, on its way out of the frames l -/
def RaisedD (base G : Heap) (l : List Env) (e C d : Addr) (od : Obj) (h : Heap) : Prop :=
  ∃ B, base.StaysIn B ∧ (∀ b o, G.get? b = some o → b ∉ l.filterMap (·.frame) → B.get? b = some o) ∧ B.get? e = none ∧ G.get? d = none ∧ B.StaysIn h ∧ h.FunFrames B l ∧ ExcAt h B e C d .none ∧ ∃ sl, h.get? d = some { od with slots := sl }

section
variable {M : Model} {A : Around} {E : Value → Shared → Prop} {s' : Shared} {base g h : Heap} {outer : List Env} {L a e C d : Addr} {m : Str → Option Value} {name : Str} {scope : Scope} {cd : Value} {Q : Unit → Shared → Prop} {oe od : Obj} {vs : Array Value} {es : Array DictEntry} {n : Nat}

theorem leaveD (K : Below A base outer g) (F : Fr g L h m) (keeps : ∀ b o, h.get? b = some o → s'.heap.get? b = some o) (he : s'.heap.get? e = some oe) (hen : h.get? e = none) (hdn : h.get? d = none)
    (hc : oe.cls = .ref C) (hdi : oe.dict = some d) (hv : oe.data = .fields vs) (h1 : vs[1]? = some .none) (hd : s'.heap.get? d = some od) (hod : od.data = .dict es n)
    (hQ : ∀ h', RaisedD base g outer e C d od h' → g.UpToSlots h' → Q () { s' with heap := h' }) (hk : scope.kind = .function := by rfl) :
    wpAny M (A.deeper (envOf name scope L a cd)) (leaving (envOf name scope L a cd) (.ref e)) Q E s' := by
  have K' := K.push (name := name) (a := a) (cd := cd) F hk
  have hin : ∀ env ∈ (envOf name scope L a cd :: outer), ∀ b, env.frame = some b → b ∈ (envOf name scope L a cd :: outer).filterMap (·.frame) := fun env he b hb => List.mem_filterMap.mpr ⟨env, he, hb⟩
  have st : base.StaysIn (hideAll h ((envOf name scope L a cd :: outer).filterMap (·.frame))) := fun b o q => hideAll_get _ (K'.stays b o q) fun hm => by
    rw [(K'.frames.mem hm).1] at q; cases q
  have sg : ∀ b o, g.get? b = some o → b ∉ outer.filterMap (·.frame) → (hideAll h ((envOf name scope L a cd :: outer).filterMap (·.frame))).get? b = some o := fun b o q nm => hideAll_get _ (F.keep b o q) fun hm => by
    rcases kts_mem hm with z | z
    · rw [z, kts_self F] at q; cases q
    · exact nm z
  have nn : ∀ {b}, h.get? b = none → (hideAll h ((envOf name scope L a cd :: outer).filterMap (·.frame))).get? b = none := fun {b} q => by
    cases z : (hideAll h ((envOf name scope L a cd :: outer).filterMap (·.frame))).get? b with
    | none => rfl
    | some o => have := of_hideAll _ z; rw [q] at this; cases this
  refine leave_exc (base := hideAll h ((envOf name scope L a cd :: outer).filterMap (·.frame))) K'.stack ((funFrames_hide K'.frames hin).of_keeps fun b o q _ => ⟨o, keeps b o q, rfl⟩) rfl he (fun b o q => keeps b o (of_hideAll _ q)) (nn hen) hc hdi hv h1 fun h' k1 k2 k3 k4 => ?_
  have sl := k4 d od hd fun vs q => by rw [hod] at q; cases q
  exact hQ h' ⟨_, st, sg, nn hen, kts_none F.keep hdn, k1, k2, k3, sl⟩ (((Heap.UpToSlots.of_keeps F.keep).trans (Heap.UpToSlots.of_keeps keeps)).trans k4)
end

section
variable {prog : Program} {w : World} {A₀ : Around} {E : Value → Shared → Prop} {s' : Shared} {base g g₀ G : Heap} {outer : List Env} {L a e C d : Addr} {m : Str → Option Value} {name : Str} {scope : Scope} {cd : Value}
  {n : Str} {b₀ : Stmt} {suite : List Stmt} {pos np : Pos} {rest : List ExceptHandler} {Q : Flow → Shared → Prop} {KF : Frag} {od : Obj} {es : Array DictEntry} {j : Nat}
  {p : Program} {loose : List Str} {mean : ExcName → Option Value} {mg mb : Str → Option Value} {x : Str} {T' : String}

theorem caughtD (R : RaisedD base G (envOf name scope L a cd :: outer) e C d od s'.heap) (F : Fr g L G m) (K : Below A₀ base outer g) (hsm : G.UpToSlots s'.heap) (XB : KF.In base) (TB : Top p loose mean mg mb base)
    (T0 : KtsTurn (outer.filterMap (·.frame)) g₀ g) (q : ktsIn KF C T' = true) (ex : nsIn KF mainGlobals x = some (some (.ref C))) (hod : od.data = .dict es j)
    (k : ∀ h' g' oe sl vs tk, KtsTurn (outer.filterMap (·.frame)) g₀ g' → Fr g' L h' (fun y => if y = n then some (.ref e) else m y) → News g' L h' [(e, oe), (d, { od with slots := sl })] → oe.cls = .ref C → oe.dict = some d → oe.data = .fields vs → Below A₀ base outer g' → KF.In g' → Top p loose mean mg mb g' →
      wpAny (model prog w) ((A₀.deeper (envOf name scope L a cd)).mark (some (.ref e))) (execs (b₀ :: suite) (envOf name scope L a cd))
        (fun f s₄ => wpAny (model prog w) (A₀.deeper (envOf name scope L a cd)) (do bindName (envOf name scope L a cd) n .none; unbindBehindTheSuite (envOf name scope L a cd) n pos) (fun _ s₅ => Q f s₅) E s₄)
        (AsSuiteRaised (model prog w) ((A₀.deeper (envOf name scope L a cd)).mark (some (.ref e))) (envOf name scope L a cd) n pos (notedBy (model prog w) ((A₀.deeper (envOf name scope L a cd)).mark (some (.ref e))) (envOf name scope L a cd) (cameBackBy (model prog w) (A₀.deeper (envOf name scope L a cd)) (envOf name scope L a cd) E)))
        { s' with heap := h', toks := tk })
    (hk : scope.kind = .function := by rfl) (hlo : (envOf name scope L a cd).kindOf n = some .local := by rfl) (hx : (envOf name scope L a cd).kindOf x = some .globalImplicit := by rfl) (hd : (x == ("__debug__" : Str)) = false := by decide) :
    wpAny (model prog w) (A₀.deeper (envOf name scope L a cd)) (noteFrame (.ref e) (envOf name scope L a cd))
      (fun _ s₂ => wpAny (model prog w) (A₀.deeper (envOf name scope L a cd)) (setFlight (.ref e) none) (fun _ s₃ =>
        wpAny (model prog w) (A₀.deeper (envOf name scope L a cd)) (handleBy (.ref e) (envOf name scope L a cd) (.ExceptHandler (some (.Name x np)) (some n) (b₀ :: suite) pos :: rest)) Q E s₃) E s₂) E s' := by
  obtain ⟨B, hB, hBG, hBe, hGd, hBh, hfun, hexc, sd, hsd⟩ := R
  have hdL : d ≠ L := fun z => by
    obtain ⟨_, _, _, hg, _⟩ := F.ns
    rw [← z, hGd] at hg; cases hg
  have hL : B.get? L = none := by
    obtain ⟨_, ⟨L', _, hf, hn', _⟩, _⟩ := hfun
    obtain rfl : L = L' := Option.some.inj hf
    exact hn'
  refine note_exc (Around.frames_deeper K.stack) hfun rfl hexc hBh hBe fun h₄ j1 j2 j3 j4 => ?_
  refine flight_exc j1 j2 j3 fun h₅ i1 i2 i3 i4 => ?_
  have hsm₅ := j4.trans i4
  obtain ⟨g₅, T₅, F₅, K₅⟩ := kts_ground K F hBG i1 (hsm.trans hsm₅)
  have X₅ : KF.In g₅ := XB.keeps K₅.stays
  have P₅ : TopRead p loose mg mb g₅ := topRead_of (TB.keeps K₅.stays)
  obtain ⟨oe₅, vs₅, he₅, hc₅, hdi₅, hv₅⟩ := i3.there
  obtain ⟨nm, q', N, bs, bm, hdct, sn, sub, ab, col, dd, k0, k1, k2, k3, k5, newId, hC, hbase, hbT⟩ := kts_cls X₅ q
  have hC₅ := F₅.keep _ _ hC
  refine wpAny_handleBy_cons (codeAny_handlers_test (nameX_K (cl := []) F₅ X₅ P₅ ex ?_ hk hx hd)) (by intro q; cases q)
  refine wpAny_excMatches_sub_self hC₅ he₅ hc₅ hbase ?_
  refine codeAny_handlers_suite_as ?_
  refine flight_exc i1 i2 i3 fun h₆ l1 l2 l3 l4 => ?_
  have hsm₆ := hsm₅.trans l4
  obtain ⟨g₆, T₆, F₆, K₆⟩ := kts_ground K F hBG l1 (hsm.trans hsm₆)
  obtain ⟨oe, vs, he, hc, hdi, hv⟩ := l3.there
  obtain ⟨sl, hds⟩ := hsm₆ d _ hsd fun vs q => by
    have q : od.data = .fields vs := q
    rw [hod] at q; cases q
  have ne₆ : g₆.get? e = none := T₆.none_ _ (kts_fresh F hBG hBe fun o ho mm => by
    obtain ⟨_, o', ho', hdd⟩ := K.frames.mem mm
    rw [ho] at ho'; cases ho'
    obtain ⟨sl', hs⟩ := (hsm.trans hsm₆) _ _ (F.keep _ _ ho) hdd
    rw [he] at hs; cases hs
    exact hdd _ hv)
  have nd₆ : g₆.get? d = none := T₆.none_ _ (kts_none F.keep hGd)
  have nL : e ≠ L := fun z => by
    obtain ⟨_, ⟨L', o', hf, _, ho', hnf⟩, _⟩ := l2
    obtain rfl : L = L' := Option.some.inj hf
    rw [z, ho'] at he; cases he
    exact hnf _ hv
  have N₆ : News g₆ L h₆ [(e, oe), (d, { od with slots := sl })] := fun p hp => by
    rcases List.mem_cons.mp hp with rfl | hp
    · exact ⟨he, nL, ne₆⟩
    · rw [List.mem_singleton.mp hp]
      exact ⟨hds, hdL, nd₆⟩
  have X₆ : KF.In g₆ := XB.keeps K₆.stays
  have P₆ : Top p loose mean mg mb g₆ := TB.keeps K₆.stays
  refine stN F₆ N₆ (fun h₇ F₇ N₇ => ?_) hk hlo
  exact k h₇ g₆ oe sl vs _ (T0.trans T₆) F₇ N₇ hc hdi hv K₆ X₆ P₆
end
end Mine
end

section
open PySem PySem.W PySem.Calls PyProof.Rows Builtin Builtin.ObjectAttr
namespace Mine
section
variable {prog : Program} {w : World} {A : Around} {E : Value → Shared → Prop} {R : Result → Shared → Prop} {s : Shared} {K : Frag} {x C D : Addr} {ox : Obj} {vs : Array Value} {name : Str} {tk : Tok} {v : Value} {cd : ClassData}

theorem inst_none (hx : s.heap.get? x = some ox) (hc : ox.cls = .ref C) (hdn : ox.dict = none) (hv : ox.data = .fields vs) : InstAt s.heap x ox C none :=
  ⟨hx, hc, by unfold notCls; rw [hv], by rw [hdn]; trivial⟩

theorem osa_exc (X : K.In s.heap) (hx : s.heap.get? x = some ox) (hc : ox.cls = .ref C) (hdn : ox.dict = none) (hv : ox.data = .fields vs) (hcd : clsIn K C = some cd) (hm : cd.mro = .ref C :: belowExc D) (hh : cd.hasDict = true) (ha : findIn K (.ref C) name = some none)
    (h : ∀ h' tk' tn, (∀ b o, b ≠ x → s.heap.get? b = some o → h'.get? b = some o) → h'.get? x = some { ox with dict := some s.heap.objs.size } → h'.get? s.heap.objs.size = some (dictOf [⟨PyData.keyHash w.params name, .str name tn, v⟩] 1) → R (.ok (.ret .none)) { s with heap := h', toks := tk' }) :
    codeAny (model prog w) A (.call (.builtin "object.__setattr__") ⟨[.ref x, .str name tk, v], []⟩) R s := by
  have SF := PySem.F.store_object
  have I := inst_none hx hc hdn hv
  have sub : Looks (model prog w) s.heap (isInstance (.ref x) (.type "object")) true := I.type.andThen (looks_mroIn X (by unfold mroIn; rw [hcd, Option.bind_some, hm]; simp))
  refine codeAny_call_builtin SF.slot.plain SF.entry (@check_slot (model prog w) _ _ s "object.__setattr__" "object" "__setattr__" (.ref x) [.str name tk, v] [] _ SF.kind SF.split sub (SF.args (.ref x) (.str name tk) v) ?_)
  have hmro : Looks (model prog w) s.heap (mroOf (.ref C)) cd.mro := (looks_clsIn X hcd).andThen .now
  rw [osa_eq, refuse_eq]
  refine wpAny_bind (wpAny_bind (I.type.here (wpAny_bind (hmro.here ?_))))
  rw [hm, refuseLoop_ref, refuseLoop_ref, PySem.F.store_Exception.passes]
  refine wpAny_pure (wpAny_bind (I.type.here (wpAny_bind ((looks_findIn X ha).here (wpAny_bind (wpAny_pure ?_))))))
  show wpAny _ _ (storeInOwnDict (.ref x) (.ref C) (.str name tk) name v false) _ _ _
  obtain ⟨hp, g, dr, t, os⟩ := s
  obtain ⟨oc, odi, oda, osl⟩ := ox
  dsimp only at hc hdn hv hx h X I hmro ⊢
  subst hc hdn hv
  have L := looks_clsIn (M := model prog w) X hcd
  refine wpAny_bind (wpAny_pure (wpAny_bind (wpAny_bind (wpAny_loadPart hx (wpAny_bind (L.here ?_))))))
  rw [hh]
  have hx₁ : (hp.push { cls := .type "dict", data := .dict #[] }).get? x = some { cls := .ref C, data := .fields vs, slots := osl } := Heap.get?_push_of_some _ hx
  have hxs : x ≠ hp.objs.size := Nat.ne_of_lt (Heap.lt_size hx)
  show wpAny _ _ (do let d ← alloc { cls := .type "dict", data := .dict #[] }; update x fun o => { cls := o.cls, dict := some d, data := o.data, slots := o.slots }; dictMade (.ref C) x d) _ _ _
  refine wpAny_bind (wpAny_alloc' (wpAny_bind (wpAny_update' hx₁ (wpAny_pure ?_))))
  have hgd : ((hp.push { cls := .type "dict", data := .dict #[] }).update x fun o => { cls := o.cls, dict := some hp.objs.size, data := o.data, slots := o.slots }).get? hp.objs.size = some (dictOf [] 0) :=
    (Heap.get?_update_ne _ _ _ _ hxs.symm).trans (Heap.get?_push_at rfl rfl)
  have hgx : ((hp.push { cls := .type "dict", data := .dict #[] }).update x fun o => { cls := o.cls, dict := some hp.objs.size, data := o.data, slots := o.slots }).get? x = some { cls := .ref C, dict := some hp.objs.size, data := .fields vs, slots := osl } :=
    Heap.get?_update_self _ hx₁ rfl
  have hgo : ∀ b o, b ≠ x → hp.get? b = some o → ((hp.push { cls := .type "dict", data := .dict #[] }).update x fun o => { cls := o.cls, dict := some hp.objs.size, data := o.data, slots := o.slots }).get? b = some o :=
    fun b o hb e => (Heap.get?_update_ne _ _ _ _ hb).trans (Heap.get?_push_of_some _ e)
  generalize ((hp.push { cls := .type "dict", data := .dict #[] }).update x fun o => { cls := o.cls, dict := some hp.objs.size, data := o.data, slots := o.slots }) = h1 at hgd hgx hgo ⊢
  show wpAny _ _ (storeInDict hp.objs.size (.str name tk) name v) _ _ _
  unfold storeInDict newKeyGuard
  refine wpAny_bind (wpAny_pure (wpAny_bind ?_))
  unfold nsSet
  refine wpAny_bind (wpAny_bind (wpAny_askSetting (wpAny_pure (wpAny_bind (wpAny_mkText (wpAny_bind (wpAny_loadPart hgd ?_)))))))
  dsimp only
  have c : aRefKeyMayBeTheName name (#[] : Array DictEntry) = false := by rw [aRefKeyMayBeTheName_at]; simp
  rw [c]
  have hgd' := Heap.get?_update_self (Obj.putName name (PyData.keyHash w.params name) (.str name t) v) hgd (by rw [putName_dict]; rfl)
  rw [putName_dict] at hgd'
  refine wpAny_updatePart hgd (wpAny_bind (wpAny_lookBehind hgd' (pastItsLine_dict (by show 1 ≤ sizeLine + 1; omega)) (wpAny_pure ?_)))
  refine h _ _ t (fun b o hb e => ?_) ((Heap.get?_update_ne _ _ _ _ hxs).trans hgx) hgd'
  exact (Heap.get?_update_ne _ _ _ _ (Nat.ne_of_lt (Heap.lt_size e))).trans (hgo b o hb e)

theorem get_exc {expr : Bool} {Q : Value → Shared → Prop} {od : Obj} (X : K.In s.heap) (I : InstAt s.heap x ox C (some od)) (hga : findIn K (.ref C) "__getattribute__" = some (some (.builtin "BaseException.__getattribute__"))) (hgt : findIn K (.ref C) "__getattr__" = some none)
    (hf : findObj K C (some od) name = some (.value v)) (hh : handedIn v = true) (hb : mroIn K C (.type "BaseException") = some true) (h : Q v { s with toks := s.toks + 1 }) : wpAny (model prog w) A (getAttr (.ref x) name expr) Q E s := by
  have FX := PySem.F.attr_Exception
  obtain ⟨hp, g, d, t, os⟩ := s
  have L0 := I.type (M := model prog w)
  have L1 := looks_findIn (M := model prog w) X hga
  have L2 := looks_findIn (M := model prog w) X hgt
  have L3 := looks_find (M := model prog w) X I hf
  have sub : Looks (model prog w) hp (isInstance (.ref x) (.type "BaseException")) true := L0.andThen (looks_mroIn X hb)
  unfold getAttr getAttrBy
  refine wpAny_bind (wpAny_mkText (wpAny_holding (wpAny_bind (L0.at (wpAny_bind (L1.at ?_))))))
  show wpAny _ _ (if (onTheHeap (.ref C) && Value.builtin "BaseException.__getattribute__" == .builtin "object.__getattribute__") = true then _ else getAttrByItsOwn (.ref x) (.str name t) (.ref C) (.builtin "BaseException.__getattribute__") true expr) _ _ _
  have hne : (Value.builtin "BaseException.__getattribute__" == .builtin "object.__getattribute__") = false := by decide +kernel
  rw [hne, Bool.and_false, if_neg (by decide)]
  unfold getAttrByItsOwn
  refine wpAny_bind (show wpAny _ _ (typeLookup (.ref C) "__getattr__") _ _ _ from L2.at ?_)
  refine wpAny_bind (wpAny_attempt (wpAny_holding ?_))
  have hx0 : (expr && onTheHeap (Value.builtin "BaseException.__getattribute__")) = false := by cases expr <;> rfl
  unfold callGetattribute
  rw [hx0]
  show wpAny _ _ (boundAndCalled (.builtin "BaseException.__getattribute__") (.ref x) (.str name t)) _ _ _
  unfold boundAndCalled
  rw [FX.ga.bind]
  refine wpAny_bind (wpAny_pure (wpAny_call ?_))
  refine codeAny_call_builtin FX.ga.plain PySem.F.entry_bexc_ga (@check_slot (model prog w) _ _ _ "BaseException.__getattribute__" "BaseException" "__getattribute__" (.ref x) [.str name t] [] _ (by decide +kernel) (by decide +kernel) sub (PySem.F.args_bexc_ga (.ref x) (.str name t)) ?_)
  refine wpAny_bind (wpAny_pure (wpAny_bind (wpAny_pure (wpAny_bind (L0.at (wpAny_bind (L3.at ?_)))))))
  refine wpAny_pure ?_
  show wpAny _ _ (handedOut v) _ _ _
  rw [handedOut_of hh]; exact wpAny_pure h
end
end Mine
end

section
open PySem PySem.W PySem.Calls PyProof.Rows Builtin Builtin.ObjectAttr
namespace Mine

abbrev excObj (C T : Addr) (dx : Option Addr) : Obj := { cls := .ref C, dict := dx, data := .fields #[.ref T, .none, .none, .none, .bool false, .none] }

section
variable {prog : Program} {w : World} {A : Around} {E : Value → Shared → Prop} {s : Shared} {K : Frag} {x C D T : Addr} {name : Str} {v : Value} {cd : ClassData} {h₀ : Heap} {L : Addr} {m : Str → Option Value}

theorem set_exc {Q : Unit → Shared → Prop} (F : Fr h₀ L s.heap m) (X₀ : K.In h₀) (N : News h₀ L s.heap [(x, excObj C T none)]) (hs : findIn K (.ref C) "__setattr__" = some (some (.builtin "object.__setattr__")))
    (hcd : clsIn K C = some cd) (hm : cd.mro = .ref C :: belowExc D) (hh : cd.hasDict = true) (ha : findIn K (.ref C) name = some none)
    (h : ∀ h' tk' d tn, Fr h₀ L h' m → News h₀ L h' [(x, excObj C T (some d)), (d, dictOf [⟨PyData.keyHash w.params name, .str name tn, v⟩] 1)] → Q () { s with heap := h', toks := tk' }) :
    wpAny (model prog w) A (setAttr (.ref x) name v) Q E s := by
  have X := X₀.keeps F.keep
  have hx := (N (x, excObj C T none) (.head _)).1
  have hn := (N (x, excObj C T none) (.head _)).2
  have hxs : x ≠ s.heap.objs.size := Nat.ne_of_lt (Heap.lt_size hx)
  refine set_plain X (inst_none hx rfl rfl rfl) hs (osa_exc (s := { s with toks := s.toks + 1 }) X hx rfl rfl rfl hcd hm hh ha fun h' tk' tn k1 k2 k3 => ?_)
  have kL : L < s.heap.objs.size := F.ns.lt
  show Q () _
  refine h h' tk' s.heap.objs.size tn ⟨F.ns.at' fun o e => k1 _ _ (Ne.symm hn.1) e, fun b o e => k1 _ _ (fun q => by rw [q, hn.2] at e; cases e) (F.keep b o e), F.above⟩ fun p hp => ?_
  rcases List.mem_cons.mp hp with rfl | hp
  · exact ⟨k2, hn⟩
  · rw [List.mem_singleton.mp hp]
    refine ⟨k3, Ne.symm (Nat.ne_of_lt kL), ?_⟩
    cases q : h₀.get? s.heap.objs.size with
    | none => rfl
    | some o => exact absurd (Heap.lt_size (F.keep _ _ q)) (Nat.lt_irrefl _)
end

section
variable {M : Model} {A : Around} {E : Value → Shared → Prop} {nm q : Str} {C N : Addr} {bs bm : List Value} {hdct : Bool} {sn : List Str} {sub : List Value} {ab : Bool} {col : Option Bool} {dd : Option Addr} {k0 k1 k2 k3 k5 : Option Value} {newId : String} {env : Env}
theorem raiseStmt_exc {s : Shared} {x : Sem Value} {Q : Flow → Shared → Prop} (hbase : bm.contains (.type "BaseException") = true) (hh : A.handled = none)
    (h : wpAny M A x (fun v s₁ => ∃ e T d, v = .ref e ∧ s₁.heap.get? C = some (excClassObj nm q C N bs bm hdct sn sub ab col dd k0 k1 k2 k3 k5 newId) ∧ s₁.heap.get? e = some (excObj C T (some d)) ∧ E (.ref e) s₁) E s) :
    wpAny M A (raiseStmt env (some x) none) Q E s := by
  have hcB : (Value.ref C :: bm).contains (.type "BaseException") = true := by rw [List.contains_cons, hbase, Bool.or_true]
  unfold raiseStmt
  refine wpAny_bind (wpAny_mono h (fun v s₁ h₁ => ?_) fun _ _ x => x)
  obtain ⟨e, T, d, rfl, hC, he, hE⟩ := h₁
  obtain ⟨hp, g, dr, tk, os⟩ := s₁
  repeat (first | with_reducible refine wpAny_loadPart_at he ?_ | with_reducible refine wpAny_loadPart_at hC ?_ | (with_reducible refine wpAny_isSubtype_exc hC ?_; rw [hcB]) | wp_step)
  exact wpAny_raiseNew_none hh hE

theorem raise_exc {s : Shared} {f : Expr} {args : List Expr} {cpos pos : Pos} {Q : Flow → Shared → Prop} (hbase : bm.contains (.type "BaseException") = true) (hh : A.handled = none)
    (h : wpAny M A (eval (.Call f args [] cpos) env) (fun v s₁ => ∃ e T d, v = .ref e ∧ s₁.heap.get? C = some (excClassObj nm q C N bs bm hdct sn sub ab col dd k0 k1 k2 k3 k5 newId) ∧ s₁.heap.get? e = some (excObj C T (some d)) ∧ E (.ref e) s₁) E s) :
    wpAny M A (exec (.Raise (some (.Call f args [] cpos)) none pos) env) Q E s := by
  rw [arm_exec_Raise]
  refine wpAny_bind (wpAny_standAt (raiseStmt_exc (C := C) (nm := nm) (q := q) (N := N) (bs := bs) (bm := bm) (hdct := hdct) (sn := sn) (sub := sub) (ab := ab) (col := col) (dd := dd) (k0 := k0) (k1 := k1) (k2 := k2) (k3 := k3) (k5 := k5) (newId := newId) hbase hh ?_))
  exact wpAny_bind (wpAny_mono h (fun v s₁ h₁ => wpAny_bind (wpAny_standAt (wpAny_pure h₁))) fun _ _ x => x)
end

local macro_rules | `(tactic| walk_at "M enter") => `(tactic| (refine' enter_part ?k1 ?k2 ?k3 ?k4 ?k5 ?kA ?kF ?kK ?k6 ?k7 ?k8 ?k9 ?kB ?_ ?c2 ?c3 ?c4 ?c5; (case kA => exact rfl); (case kF => exact rfl); (case kK => assumption); (case k1 => k_asm); (case k2 => k_asm); (case k3 => k_asm); (case k4 => k_asm); (case k5 => k_asm); (case k6 => k_is); (case k7 => k_is); (case k8 => k_room); (case k9 => exact BindsTo.of_eq rfl); (case c5 => decide); (case kB => exact locs rfl); (case c2 => exact rfl); (case c3 => exact rfl); (case c4 => exact rfl); k_whole; intro g' L' h' FG' F' N' B' X' T' l1' hG'; (try k_lt l1'); (try dsimp only); (try k_fold)))
local macro_rules | `(tactic| walk_at "setAttr ref") => `(tactic| (k_here; k_dflt (refine' set_exc (D := 31) ?kF ?kX ?kN ?ks ?kc ?km ?kh ?ka ?_; (case kF => k_asm); (case kX => k_asm); (case kN => k_asm); (case ks => k_is); (case kc => k_is); (case km => rfl); (case kh => rfl); (case ka => k_is); k_whole; intro h' tk' d' tn' F' N'; (try dsimp only); (try k_sweep)); walk_say "SET of an exception"))

/-- what stands behind the making of an exception -/
structure MadeD (h h' : Heap) (e d T : Addr) (od : Obj) : Prop where
  keeps : ∀ b o, h.get? b = some o → h'.get? b = some o
  newE : h.get? e = none
  newD : h.get? d = none
  exc : h'.get? e = some (excObj 44 T (some d))
  dict : h'.get? d = some od

theorem made_of {h h₁ g h₂ : Heap} {L' : Addr} {m' : Str → Option Value} {e d T : Addr} {od o₁ : Obj} {args : List Value} (hm : Heap.MadeExcOf h h₁ e (.ref 44) args) (hG : ∀ b o, h₁.get? b = some o → b ∉ [(e, o₁)].map (·.1) → g.get? b = some o) (F : Fr g L' h₂ m')
    (N : News g L' h₂ [(e, excObj 44 T (some d)), (d, od)]) : MadeD h h₂ e d T od := by
  have up : ∀ b o, h.get? b = some o → g.get? b = some o := fun b o eb => hG b o (hm.keeps b o eb) (by
    intro q
    have q : b = e := by simpa using q
    rw [q, hm.new] at eb; cases eb)
  refine ⟨fun b o eb => F.keep _ _ (up b o eb), hm.new, ?_, (N _ (.head _)).1, (N _ (.tail _ (.head _))).1⟩
  cases q : h.get? d with
  | none => rfl
  | some o => have := up _ _ q; rw [(N (d, od) (.tail _ (.head _))).2.2] at this; cases this

section
variable {w : World} {loose : List Str} {mean : ExcName → Option Value} {mg mb : Str → Option Value} {gd : Option (List Code)} {cn : Str} {cs : Scope} {a : Addr} {ccd : Value} {cl : List (Str × Addr)} {outer : List Env} {A₀ : Around} {base h₀ : Heap} {L : Addr} {m : Str → Option Value} {s : Shared} {Q E : Value → Shared → Prop}

set_option maxHeartbeats 8000000 in
theorem made_ok {z : Str} {tz : Tok}
    (B : Below A₀ base outer h₀) (F : Fr h₀ L s.heap m) (X : (Mine.hd.heap_39 w.params).In h₀) (T : Top Mine.hd.view_39 loose mean mg mb h₀) (hk : cs.kind = .function)
    (ret : ∀ e d T tn h' tk', Fr h₀ L h' m → MadeD s.heap h' e d T (dictOf [⟨PyData.keyHash w.params (Str.ofString "message"), .str (Str.ofString "message") tn, .str z tz⟩] 1) → Q (.ref e) { s with heap := h', toks := tk' }) :
    wpAny (model PySem.Challenge.rw_xm0713_01.row.prog w) (ktrTop 304 13 gd cn cs L a ccd cl outer) (call (.ref 44) [.str z tz]) Q E s := by
  revert X; k_fill; intro X
  obtain ⟨hp, gg, dr, tt, os⟩ := s
  have Xh := X.keeps F.keep
  refine call_exc (D := 31) (fI := 28) Xh (Xh _ _ (by k_is)) (by k_is) (by k_is) (fun h' e hm => ?_) (by show 1 ≤ sizeLine; decide)
  obtain ⟨T₀, he, hT, _⟩ := hm.there
  have F' : Fr h₀ L h' m := F.keeps hm.keeps
  have hLn : e ≠ L := fun q => by
    obtain ⟨_, _, _, hL, _⟩ := F.ns
    have := hm.new; rw [q, hL] at this; cases this
  have N' : News h₀ L h' [(e, excObj 44 T₀ none)] := fun p hp => by
    rw [List.mem_singleton.mp hp]
    refine ⟨he, hLn, ?_⟩
    cases q : h₀.get? e with
    | none => rfl
    | some o => have := F.keep _ _ q; rw [hm.new] at this; cases this
  clear hT
  refine wpAny_call ?_
  k_dflt (walk_at "M enter")
  k_steps
  all_goals exact ret _ _ _ _ _ _ (by assumption) (made_of hm (by assumption) (by assumption) (by assumption))
end
end Mine
end

section
open PySem PySem.W PySem.Calls PyProof.Rows
namespace Mine

theorem ne_name {z y : Str} (hz : z ∉ modeNames) (hy : y ∈ modeNames) : z ≠ y := fun e => hz (e ▸ hy)

section
variable {prog : Program} {w : World} {A : Around} {E : Value → Shared → Prop} {s : Shared} {K : Frag} {h₀ : Heap} {L : Addr} {m : Str → Option Value} {nm q : Str} {C N : Addr} {bs bm : List Value} {hdct : Bool} {sn : List Str} {sub : List Value} {ab : Bool} {col : Option Bool} {dd : Option Addr} {k0 k1 k2 k3 k5 : Option Value} {newId : String} {env : Env}
theorem eq_ne {x y : Str} {t u : Tok} {Q : Value → Shared → Prop} (h : x ≠ y) (hq : Q (.bool false) s) : wpAny (model prog w) A (compareOp .Eq (.str x t) (.str y u)) Q E s := PyProof.Rows.eq_str (by rw [show (x == y) = false from beq_eq_false_iff_ne.mpr h]; exact hq)

theorem raise_cls {f : Expr} {args : List Expr} {cpos pos : Pos} {Q : Flow → Shared → Prop} (X : K.In h₀) (hl : K.lookup C = some (excClassObj nm q C N bs bm hdct sn sub ab col dd k0 k1 k2 k3 k5 newId)) (hbase : bm.contains (.type "BaseException") = true) (hh : A.handled = none)
    (h : wpAny (model prog w) A (eval (.Call f args [] cpos) env) (fun v s₁ => ∃ e T d, v = .ref e ∧ (∀ b o, h₀.get? b = some o → s₁.heap.get? b = some o) ∧ s₁.heap.get? e = some (excObj C T (some d)) ∧ E (.ref e) s₁) E s) :
    wpAny (model prog w) A (exec (.Raise (some (.Call f args [] cpos)) none pos) env) Q E s :=
  raise_exc (C := C) (nm := nm) (q := q) (N := N) (bs := bs) (bm := bm) (hdct := hdct) (sn := sn) (sub := sub) (ab := ab) (col := col) (dd := dd) (k0 := k0) (k1 := k1) (k2 := k2) (k3 := k3) (k5 := k5) (newId := newId) hbase hh
    (wpAny_mono h (fun v s₁ ⟨e, T, d, h1, h2, h3, h4⟩ => ⟨e, T, d, h1, h2 _ _ (X _ _ hl), h3, h4⟩) fun _ _ x => x)
end

theorem leave_made {M : Model} {A : Around} {E : Value → Shared → Prop} {s' : Shared} {base g h : Heap} {outer : List Env} {L a e d T : Addr} {m : Str → Option Value} {name : Str} {scope : Scope} {cd : Value} {Q : Unit → Shared → Prop} {od : Obj} {es : Array DictEntry} {n : Nat}
    (K : Below A base outer g) (F : Fr g L h m) (D : MadeD h s'.heap e d T od) (hod : od.data = .dict es n)
    (hQ : ∀ h', RaisedD base g outer e 44 d od h' → g.UpToSlots h' → Q () { s' with heap := h' }) (hk : scope.kind = .function := by rfl) :
    wpAny M (A.deeper (envOf name scope L a cd)) (leaving (envOf name scope L a cd) (.ref e)) Q E s' :=
  leaveD K F D.keeps D.exc D.newE D.newD rfl rfl rfl rfl D.dict hod hQ hk

theorem inst_exc {h₀ h : Heap} {L e d C : Addr} {oe od : Obj} {vs : Array Value} (N : News h₀ L h [(e, oe), (d, od)]) (hc : oe.cls = .ref C) (hdi : oe.dict = some d) (hv : oe.data = .fields vs) : InstAt h e oe C (some od) :=
  ⟨(N _ (.head _)).1, hc, by unfold notCls; rw [hv], by rw [hdi]; exact (N _ (.tail _ (.head _))).1⟩

local macro_rules | `(tactic| walk_at "M enterS") => `(tactic| (refine' code_defS0 ?k1 ?k2 ?k3 ?k4 ?k5 ?kA ?k6 ?k7 ?k8 ?k9 ?kB ?_ ?cK ?c2 ?c3 ?c4 ?c5; (case kA => exact rfl); (case k2 => k_asm); (case k1 => k_asm); (case k3 => k_asm); (case k4 => k_asm); (case k5 => k_asm); (case k6 => k_is); (case k7 => k_is); (case k8 => k_room); (case k9 => exact BindsTo.of_eq rfl); (case kB => exact locs rfl); (case cK => assumption); (case c2 => exact rfl); (case c3 => exact rfl); (case c4 => exact rfl); (case c5 => decide); k_whole; intro g' L' h' FG' F' N' B' X' T' D'; (try dsimp only); (try k_fold)))
local macro_rules | `(tactic| walk_at "compareOp Eq str str") => `(tactic| (k_here; (refine eq_ne (ne_name (by assumption) (by decide +kernel)) ?_); walk_say "ANOTHER word"))
local macro_rules | `(tactic| walk_at "exec Raise some none") => `(tactic| (k_here; k_dflt (refine' raise_cls (C := 44) ?X ?l ?b ?h ?_; (case X => k_asm); (case l => k_is); (case b => decide); (case h => rfl)); (try k_fold); walk_say "RAISE"))
local macro_rules | `(tactic| walk_at "Exists") => `(tactic| (k_here; (refine ⟨_, _, _, rfl, Fr.keep (by assumption), MadeD.exc (by assumption), ?_⟩); (try dsimp only); walk_say "THROWN"))
local macro_rules | `(tactic| walk_at "call ref") => `(tactic| (k_here; (with_reducible show wpAny _ _ (call (Value.ref 44) _) _ _ _); k_dflt (refine' made_ok ?B ?F ?X ?T ?K ?_; (case B => k_asm); (case F => k_asm); (case X => k_asm); (case T => k_asm); (case K => first | exact rfl | assumption); k_whole; intro e' d' T' tn' h' tk' F' M'; (try dsimp only); (try k_fold)); walk_say "MADE"))
local macro_rules | `(tactic| walk_at "leaving ref") => `(tactic| (k_here; k_dflt (refine' leave_made ?K ?F ?M ?hod ?_; (case M => assumption); (case F => assumption); (case K => assumption); (case hod => rfl); k_whole; intro h' R' U'); (try dsimp only at R' U' ⊢); walk_say "LEFT"))
local macro_rules | `(tactic| walk_at "noteFrame ref") => `(tactic| (k_here; k_dflt (refine' caughtD (T' := "Exception") ?R ?F ?K ?U ?XB ?TB ?T0 ?q ?ex ?hod ?_; (case R => assumption); (case F => assumption); (case K => assumption); (case U => assumption); (case XB => assumption); (case TB => assumption); (case T0 => exact KtsTurn.refl); (case q => kts_isx); (case ex => k_is); (case hod => rfl); k_whole; intro h' g' oe' sl' vs' tk' T' F' N' hc' hd' hv' B' X' P'; (try k_sweep)); walk_say "CAUGHT"))
local macro_rules | `(tactic| walk_at "getAttr ref") => `(tactic| (k_here; k_dflt (refine' get_exc ?X ?I ?a ?b ?f ?h ?c ?_; (case I => exact inst_exc (by assumption) (by assumption) (by assumption) (by assumption)); (case X => k_in); (case a => k_is); (case b => k_is); (case f => exact findObj_own (by k_is) (by k_is) (by k_is) rfl); (case h => k_handed); (case c => k_is); k_whole); walk_say "MESSAGE"))

section
variable {w : World} {loose : List Str} {mean : ExcName → Option Value} {mg mb : Str → Option Value} {gd : Option (List Code)} {cn : Str} {cs : Scope} {a : Addr} {ccd : Value} {A₀ : Around} {h₀ : Heap} {L : Addr} {m : Str → Option Value} {s : Shared} {Q E : Value → Shared → Prop}
set_option maxHeartbeats 8000000 in
theorem fault_ok {z : Str} {tz : Tok} {v : Value}
    (B : Below A₀ h₀ [] h₀) (F : Fr h₀ L s.heap m) (X : (Mine.hd.heap_39 w.params).In h₀) (N : News h₀ L s.heap []) (T : Top Mine.hd.view_39 loose mean mg mb h₀) (hk : cs.kind = .function)
    (hz : z ∉ modeNames) (hl : z.length ≤ 64)
    (ret : ∀ t h' tk', Fr h₀ L h' m → News h₀ L h' [] → Q (.str (Str.ofString "no such mode: " ++ z) t) { s with heap := h', toks := tk' }) :
    wpAny (model PySem.Challenge.rw_xm0713_01.row.prog w) (ktrTop 302 7 gd cn cs L a ccd [] []) (call (.ref 164) [.str z tz, v]) Q E s := by
  revert X; k_fill; intro X
  refine wpAny_call ?_
  k_dflt (walk_at "M enterS")
  k_steps
  all_goals exact ret _ _ _ (by assumption) News.nil
end
end Mine
end

section
open PySem PySem.W PySem.Calls PyProof.Rows
open Mine
-- one line more than the part before: the walk keeps its table of lines as long as their number stays the same
local macro_rules | `(tactic| walk_at "M nothing") => `(tactic| skip)
local macro_rules | `(tactic| walk_at "call ref") => `(tactic| (k_here; (with_reducible show wpAny _ _ (call (Value.ref 124) _) _ _ _); k_dflt (refine' take_ok ?kB ?kF ?kX ?kN ?kT ?kK ?kd ?ku ?kt ?kt2 ?kx ?ky ?ky1 ?_; (case kB => k_asm); (case kF => k_asm); (case kX => k_asm); (case kN => exact cb_drop (by k_asm) (by lcg_sub)); (case kT => k_asm); (case kK => first | exact rfl | assumption); (case kd => ktr_room); (case ku => ktr_units); (case kt => first | decide | omega); (case kt2 => first | decide | omega); (case kx => assumption); (case ky => assumption); (case ky1 => assumption); k_whole; intro r' t' x' tx' y' ty' n' h' tk' F' N' K' l1' l2' l3' l4' l5'; (have N'' := news_turn (by k_asm) (by k_upd) N' K'); clear N' K'; (try dsimp only); (try k_fold); (try k_sweep)); walk_say "TAKE"))
local macro_rules | `(tactic| walk_at "call ref") => `(tactic| (k_here; (with_reducible show wpAny _ _ (call (Value.ref 131) _) _ _ _); k_dflt (refine' one_ok ?kB ?kF ?kX ?kN ?kT ?kK ?kd ?ku ?kne ?kl ?kl1 ?kx ?ky ?ky1 ?_; (case kB => k_asm); (case kF => k_asm); (case kX => k_asm); (case kN => exact cb_drop (by k_asm) (by lcg_sub)); (case kT => k_asm); (case kK => first | exact rfl | assumption); (case kd => ktr_room); (case ku => ktr_units); (case kne => k_ne); (case kl => exact Nat.le_of_ble_eq_true rfl); (case kl1 => exact Nat.le_of_ble_eq_true rfl); (case kx => assumption); (case ky => assumption); (case ky1 => assumption); k_whole; intro v' x' tx' y' ty' n' h' tk' F' N' K' hv' l3' l4' l5'; (have N'' := news_tail (news_turn (by k_asm) (by k_upd) N' K')); clear N' K'; (have e40' : (2 : Int) ^ Int.toNat 40 = 1099511627776 := by decide); (obtain ⟨r', t', er', l1', l2'⟩ := mem_int (lo := 0) (hi := 1099511627776) (by simp only [IntsIn]; refine ⟨?_, ?_, ?_, ?_, ?_, ?_, ?_, ?_, ?_, ?_, ?_⟩ <;> first | trivial | omega) hv'); subst er'; clear hv' e40'; (try dsimp only); (try k_fold); (try k_sweep)); walk_say "ONE of ints"))
local macro_rules | `(tactic| walk_at "call ref") => `(tactic| (k_here; (with_reducible show wpAny _ _ (call (Value.ref 145) _) _ _ _); k_dflt (refine' part_ok ?kB ?kF ?kX ?kN ?kT ?kK ?kd ?ku ?ka ?ka1 ?kx ?ky ?ky1 ?_; (case kB => k_asm); (case kF => k_asm); (case kX => k_asm); (case kN => exact cb_drop (by k_asm) (by lcg_sub)); (case kT => k_asm); (case kK => first | exact rfl | assumption); (case kd => ktr_room); (case ku => ktr_units); (case ka => omega); (case ka1 => omega); (case kx => assumption); (case ky => assumption); (case ky1 => assumption); k_whole; intro r' t' x' tx' y' ty' n' h' tk' F' N' K' l1' l2' l3' l4' l5'; (have N'' := news_turn (by k_asm) (by k_upd) N' K'); clear N' K'; (try dsimp only); (try k_fold); (try k_sweep)); walk_say "PART"))
local macro_rules | `(tactic| walk_at "call ref") => `(tactic| (k_here; (with_reducible show wpAny _ _ (call (Value.ref 150) _) _ _ _); k_dflt (refine' right_ok ?kB ?kF ?kX ?kN ?kT ?kK ?a0 ?a1 ?a2 ?b0 ?b1 ?b2 ?_; (case kB => k_asm); (case kF => k_asm); (case kX => k_asm); (case kN => exact cb_drop (by k_asm) (by lcg_sub)); (case kT => k_asm); (case kK => first | exact rfl | assumption); (case a0 => omega); (case a1 => omega); (case a2 => omega); (case b0 => omega); (case b1 => omega); (case b2 => omega); k_whole; intro h' tk' F' G'; (have N' := G' _ (by k_asm)); clear G'; (try dsimp only); (try k_fold); (try k_sweep)); walk_say "RIGHT"))
local macro_rules | `(tactic| walk_at "call ref") => `(tactic| (k_here; (with_reducible show wpAny _ _ (call (Value.ref 157) _) _ _ _); k_dflt (refine' nomode_ok ?kB ?kF ?kX ?kN ?kT ?kK ?kd ?ku ?kx ?ky ?ky1 ?_; (case kB => k_asm); (case kF => k_asm); (case kX => k_asm); (case kN => exact cb_drop (by k_asm) (by lcg_sub)); (case kT => k_asm); (case kK => first | exact rfl | assumption); (case kd => ktr_room); (case ku => ktr_units); (case kx => assumption); (case ky => assumption); (case ky1 => assumption); k_whole; intro z' t' h' tk' F' N' hz' hn'; (try dsimp only); (try k_fold); (try k_sweep)); walk_say "NO MODE"))
local macro_rules | `(tactic| walk_at "call ref") => `(tactic| (k_here; (with_reducible show wpAny _ _ (call (Value.ref 164) _) _ _ _); k_dflt (refine' fault_ok ?kB ?kF ?kX ?kN ?kT ?kK ?kz ?kl ?_; (case kB => k_asm); (case kF => k_asm); (case kX => k_asm); (case kN => exact cb_drop (by k_asm) (by lcg_sub)); (case kT => k_asm); (case kK => first | exact rfl | assumption); (case kz => assumption); (case kl => assumption); k_whole; intro t' h' tk' F' N'; (try dsimp only); (try k_fold); (try k_sweep)); walk_say "FAULT"))
local macro_rules | `(tactic| walk_at "call ref") => `(tactic| (k_here; (with_reducible show wpAny _ _ (call (Value.ref 117) _) _ _ _); k_dflt (refine' pool_ok ?kB ?kF ?kX ?kN ?kT ?kK ?kL ?kI ?kn ?kd ?ku ?_; (case kB => k_asm); (case kF => k_asm); (case kX => k_asm); (case kN => exact cb_drop (by k_asm) (by lcg_sub)); (case kT => k_asm); (case kK => first | exact rfl | assumption); (case kL => k_asm); (case kI => l_ints); (case kn => l_fit); (case kd => ktr_room); (case ku => ktr_units); k_whole; intro d' x' tx' y' ty' n' h' tk' F' N' l3' l4' l5'; (try dsimp only); (try k_fold); (try k_sweep)); walk_say "POOL"))
local macro_rules | `(tactic| walk_at "call ref") => `(tactic| (k_here; (with_reducible show wpAny _ _ (call (Value.ref 109) [Value.str (Str.ofString "exclusion") _, _]) _ _ _); k_dflt (refine' exclusion_first ?kB ?kF ?kX ?kN ?kT ?kK ?kl ?a0 ?a1 ?a2 ?b0 ?b1 ?b2 ?_; (case kB => k_asm); (case kF => k_asm); (case kX => k_asm); (case kN => exact cb_drop (by k_asm) (by lcg_sub)); (case kT => k_asm); (case kK => first | exact rfl | assumption); (case kl => omega); (case a0 => decide); (case a1 => decide); (case a2 => decide); (case b0 => decide); (case b1 => decide); (case b2 => decide); k_whole; intro t' h' tk' F' G'; (have N' := G' _ News.nil); clear G'; (try dsimp only); (try k_fold); (try k_sweep)); walk_say "EXCLUSION"))
set_option maxHeartbeats 8000000 in
theorem PySem.Challenge.cw_xm0713_01_holds : PySem.Challenge.rw_xm0713_01.Holds := by
  refine Mine.hd ?_
  w_strict k_go
end
