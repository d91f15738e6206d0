import PyProof.Rows.All
import Wide.All
import OpenK.AllK
import Wide.FinOn
import PySem.Challenge.RW_rh0064_01
open PySem PySem.W PySem.Calls PyProof.Rows
set_option Elab.async false
set_option maxRecDepth 100000
set_option maxHeartbeats 8000000
namespace Mine
open_top hd for PySem.Challenge.rw_rh0064_01
section
noncomputable abbrev KK (w : World) : Frag := hd.heap_39 w.params
abbrev PP : Program := PySem.Challenge.rw_rh0064_01.row.prog
abbrev TT (mean : ExcName → Option Value) (mg mb : Str → Option Value) (h : Heap) : Prop := Top hd.view_39 (looseW hd.view_39 []) mean mg mb h

/-- all that stood in h, but at the named places, stands in h' -/
def Kept (as : List Addr) (h h' : Heap) : Prop := ∀ b o, h.get? b = some o → b ∉ as → h'.get? b = some o

def KeptR (as : List Addr) (h : Heap) (R : Result → Shared → Prop) : Result → Shared → Prop
  | .ok f, s' => Kept as h s'.heap → R (.ok f) s'
  | .error e, s' => R (.error e) s'

theorem code_keep {prog : Program} {w : World} {A₀ A : Around} {s : Shared} {base h₀ : Heap} {outer : List Env} {L : Addr} {m : Str → Option Value} {env : Env} {news : List (Addr × Obj)}
    {K : Frag} {p : Program} {loose : List Str} {mean : ExcName → Option Value} {mg mb : Str → Option Value} {R : Result → Shared → Prop} {name qual : Str} {params : Arguments} {body : List Stmt} {scope : Scope} {dV kV doc pm cdv ct oc : Value} {an od : Option Addr} {osl : Array (Option Value)} {f : Addr} {args : Args} {binds : List (Str × Value)}
    (B : Below A₀ base outer h₀) (F : Fr h₀ L s.heap m) (X₀ : K.In h₀) (N : News h₀ L s.heap news) (T : Top p loose mean mg mb h₀) (hA : A.frames = some (env :: outer)) (hf : env.frame = some L) (hke : env.scope.kind = .function)
    (ho : K.lookup f = some ⟨oc, od, .func (fnOf name qual params body scope dV kV doc pm an cdv ct), osl⟩) (hcd : codeIn K cdv qual = true) (hroom : A.depth < recursionLimit)
    (hbind : BindsTo s (fnOf name qual params body scope dV kV doc pm an cdv ct) args binds) (hloc : ∀ y ∈ binds, scope.names.lookup y.1 = some .local)
    (h : ∀ g L' h₁, Fr h₀ L g m → Fr g L' h₁ (fun y => binds.reverse.lookup y) → News g L' h₁ news → Below A base (env :: outer) g → K.In g → Top p loose mean mg mb g → GSub s.heap g (news.map (·.1)) →
      wpAny (model prog w) (A.deeper (envOf qual scope L' f cdv)) (execs body (envOf qual scope L' f cdv))
        (fun fl s' => LeaveK h₀ L m g (KeptR (news.map (·.1)) s.heap R) (match fl with | .ret v => v | _ => .none) s')
        (fun e s' => wpAny (model prog w) (A.deeper (envOf qual scope L' f cdv)) (leaving (envOf qual scope L' f cdv) e) (fun _ s'' => R (.error e) s'') (fun e' s'' => R (.error e') s'') s')
        { s with heap := h₁, toks := s.toks + binds.length })
    (hco : scope.isCoroutine = false) (hgen : scope.isGenerator = false) (hk : scope.kind = .function)
    (hcell : ∀ x ∈ scope.names, x.2 ≠ .cell) : codeAny (model prog w) A (.call (.ref f) args) R s := by
  refine code_defG B F X₀ N T hA hf hke ho hcd hroom hbind hloc (fun g L' h₁ FG F' N' B' X' T' G => ?_) hco hgen hk hcell
  refine wpAny_mono (h g L' h₁ FG F' N' B' X' T' G) (fun fl s' q => ?_) fun _ _ q => q
  obtain ⟨L₂, m₂, n₂, F₂, N₂, k⟩ := q
  exact ⟨L₂, m₂, n₂, F₂, N₂, fun a b => k a b fun b' o e nb => F₂.keep b' o (G b' o e nb)⟩

/-- keep the ledger through a call whose footprint is apart from it -/
theorem News.kept {h₀ h h' : Heap} {L : Addr} {news : List (Addr × Obj)} {as : List Addr} (N : News h₀ L h news) (k : Kept as h h') (off : ∀ p ∈ news, p.1 ∉ as) : News h₀ L h' news :=
  fun p hp => ⟨k _ _ (N p hp).1 (off p hp), (N p hp).2⟩
end
section
local macro_rules | `(tactic| walk_at "MY ENTER") => `(tactic| (refine' wpAny_call (code_keep ?k1 ?k2 ?k3 ?k4 ?k5 ?kA ?kF ?kK ?k6 ?k7 ?k8 ?k9 ?kB ?_ ?c2 ?c3 ?c4 ?c5); (case kA => exact rfl); (case kF => assumption); (case kK => assumption); (case k1 => k_asm); (case k2 => k_asm); (case k3 => k_asm); (case k4 => k_asm); (case k5 => k_asm); (case k6 => k_dflt k_is); (case k7 => k_dflt k_is); (case k8 => k_room); (case k9 => k_dflt (exact BindsTo.of_eq rfl)); (case c5 => decide); (case kB => exact locs rfl); (case c2 => exact rfl); (case c3 => exact rfl); (case c4 => exact rfl)))

theorem coin_call {w : World} {mean : ExcName → Option Value} {mg mb : Str → Option Value} {base h₀ : Heap} {A₀ : Around} {env : Env} {L : Addr} {m : Str → Option Value} {s : Shared} {Q : Value → Shared → Prop} {E : Value → Shared → Prop}
    {c : Addr} {vs : List Value} {ns : List Int} {n : Nat} {k : Int} {t : Tok}
    (B : Below A₀ base [] h₀) (F : Fr h₀ L s.heap m) (X : (hd.heap_39 w.params).In h₀) (N : News h₀ L s.heap [(c, listOf vs.toArray n)]) (T : TT mean mg mb h₀) (hf : env.frame = some L) (hke : env.scope.kind = .function)
    (hI : IntsAre vs ns) (hk : 0 < k) (hk2 : k < 100) (hlen : ns.length ≤ 2000)
    (h : ∀ r t' vs' ns' n' h' tk', 0 ≤ r → r < k → IntsAre vs' ns' → ns'.length ≤ 2000 → Fr h₀ L h' m → News h₀ L h' [(c, listOf vs'.toArray n')] → Kept [c] s.heap h' → Q (.int r t') { s with heap := h', toks := tk' }) :
    wpAny (model PySem.Challenge.rw_rh0064_01.row.prog w) (callerA.deeper env) (call (.ref 105) [.ref c, .int k t] []) Q E s := by
  w_top off
  k_with_none
  revert X; k_fill; intro X
  walk_at "MY ENTER"
  clear N F B
  intro g' L' h' FG' F' N' B' X' T' G'
  clear G'
  dsimp only
  replace F' : Fr g' L' h' (fun y => List.lookup y [(Str.ofString "sides", .int k t), (Str.ofString "coins", .ref c)]) := F'
  k_unmd; k_fold
  k_steps
  · rename News h₀ L _ _ => kN
    rename Fr h₀ L _ _ => kF
    intro kp
    exact h 0 _ vs ns n _ _ (Int.le_refl _) hk hI hlen kF (fun p hp => kN p (.tail _ hp)) kp
  · rename decide _ = false => hne
    have hne' : ns ≠ [] := by simpa using hne
    have hl := hI.length
    have hpos : 0 < vs.length := by
      have : 0 < ns.length := List.length_pos_iff.mpr hne'
      omega
    have hvl : vs.length ≤ 2000 := by omega
    rename News _ _ _ _ => N1
    rename Fr _ _ _ _ => F1
    refine kpa_pop F1 N1 (by k_upd) hI hpos (by rw [PySem.sizeLine_eq]; omega) ?_
    intro h2 t2 F2 N2 hI2
    k_steps
    rename News h₀ L _ _ => kN
    rename Fr h₀ L _ _ => kF
    intro kp
    refine h _ _ vs.dropLast ns.dropLast (n + 1) _ _ (Int.fmod_nonneg_of_pos _ hk) (Int.fmod_lt_of_pos _ hk) hI2 ?_ kF (fun p hp => kN p (.tail _ hp)) kp
    rw [List.length_dropLast]; omega
end
section
local macro_rules | `(tactic| walk_at "MY ENTER") => `(tactic| (refine' wpAny_call (code_keep ?k1 ?k2 ?k3 ?k4 ?k5 ?kA ?kF ?kK ?k6 ?k7 ?k8 ?k9 ?kB ?_ ?c2 ?c3 ?c4 ?c5); (case kA => exact rfl); (case kF => assumption); (case kK => assumption); (case k1 => k_asm); (case k2 => k_asm); (case k3 => k_asm); (case k4 => k_asm); (case k5 => k_asm); (case k6 => k_dflt k_is); (case k7 => k_dflt k_is); (case k8 => k_room); (case k9 => k_dflt (exact BindsTo.of_eq rfl)); (case c5 => decide); (case kB => exact locs rfl); (case c2 => exact rfl); (case c3 => exact rfl); (case c4 => exact rfl)))

structure Rec where
  var : Int
  first : Str
  kind : Str
  goal : Int
  count : Int
  chunk0 : Int
  chunk : Int
structure Toks where
  k0 : Tok
  k1 : Tok
  k2 : Tok
  k3 : Tok
  k4 : Tok
  k5 : Tok
  k6 : Tok
  k7 : Tok
  k8 : Tok
  v0 : Tok
  v1 : Tok
  v2 : Tok
  v3 : Tok
  v5 : Tok
  v6 : Tok
  v7 : Tok
  v8 : Tok
abbrev ent (w : World) (x : Str) (t : Tok) (v : Value) : DictEntry := { hash := PyData.keyHash w.params x, key := .str x t, val := v }
abbrev recEs (w : World) (r : Rec) (t : Toks) : List DictEntry :=
  [ent w (Str.ofString "var") t.k0 (.int r.var t.v0), ent w (Str.ofString "kind") t.k1 (.str r.kind t.v1), ent w (Str.ofString "slot") t.k2 (.int 0 t.v2), ent w (Str.ofString "first") t.k3 (.str r.first t.v3),
   ent w (Str.ofString "unsafe") t.k4 (.bool false), ent w (Str.ofString "last_goal") t.k5 (.int r.goal t.v5), ent w (Str.ofString "count") t.k6 (.int r.count t.v6),
   ent w (Str.ofString "first_chunk") t.k7 (.int r.chunk0 t.v7), ent w (Str.ofString "last_chunk") t.k8 (.int r.chunk t.v8)]

theorem valueAt_stored {K : Type} [DecidableEq K] (kvs : List (K × Value)) (k : K) (v : Value) (h : valueAt kvs k = none) : valueAt (stored kvs k v) k = some v := by
  have hn : ¬ (kvs.any fun kv => decide (kv.1 = k)) = true := by
    intro hh
    unfold valueAt at h
    rw [Option.map_eq_none_iff, List.find?_eq_none] at h
    obtain ⟨x, hx, hd⟩ := List.any_eq_true.mp hh
    exact h x hx hd
  unfold stored
  rw [if_neg hn]
  unfold valueAt at h ⊢
  rw [Option.map_eq_none_iff] at h
  rw [List.find?_append, h]
  simp

theorem getItem_D {w : World} {A : Around} {E : Value → Shared → Prop} {s : Shared} {h₀ : Heap} {L d : Addr} {news : List (Addr × Obj)} {o : Obj} {kvs : List (Int × Value)} {k : Int} {t : Tok} {v : Value} {Q : Value → Shared → Prop}
    (N : News h₀ L s.heap news) (hp : (d, o) ∈ news) (hd : o.IsDictOf (PySem.intKind PP w) kvs) (hl : valueAt kvs k = some v) (h : Q v { s with toks := s.toks + 1 }) : wpAny (model PP w) A (getItem (.ref d) (.int k t)) Q E s :=
  wpAny_getItem_of (intKind_is _ _ _ _) (kda_dict N hp hd).mapOf hl h
local macro_rules | `(tactic| walk_at "getItem ref int") => `(tactic| (k_here; k_dflt (refine getItem_D (by k_asm) (by k_mem) (by assumption) (by first | assumption | exact valueAt_stored _ _ _ (by assumption)) ?_)))
local macro_rules | `(tactic| walk_at "compareOp NotIn int ref") => `(tactic| (k_here; k_dflt (refine kdg_notin (knd := PySem.intKind _ _) (by k_asm) (by k_mem) (by k_asm) (by k_asm) (intKind_is _ _ _ _) _ (by first | assumption | rfl) ?_)))
local macro_rules | `(tactic| walk_at "subscriptTail") => `(tactic| (k_here; (with_reducible show wpAny _ _ (subscriptTail _ _ (Value.ref _) (Value.int _ _)) _ _ _); k_dflt (refine kda_item (knd := PySem.intKind _ _) (by k_asm) (by k_mem) (by assumption) (intKind_is _ _ _ _) (by first | assumption | exact valueAt_stored _ _ _ (by assumption)) ?_)))
local macro_rules | `(tactic| walk_at "setItem ref int") => `(tactic| (k_here; k_dflt (refine' kda_set (knd := PySem.intKind _ _) ?F ?N ?U ?d (intKind_is _ _ _ _) ?z ?_; (case F => k_asm); (case N => k_asm); (case U => k_updF); (case d => assumption); (case z => assumption)); intro h' o' F' N' hd'; (try dsimp only at N')))

theorem meet_new {w : World} {mean : ExcName → Option Value} {mg mb : Str → Option Value} {base h₀ : Heap} {A₀ : Around} {env : Env} {L : Addr} {m : Str → Option Value} {s : Shared} {Q : Value → Shared → Prop} {E : Value → Shared → Prop}
    {sv sd ia : Addr} {oI : Obj} {kvs : List (Int × Value)} {n : Nat} {ts : Tok} {k goal chunk count : Int} {first : Str} {t1 t2 t3 t4 t5 : Tok}
    (B : Below A₀ base [] h₀) (F : Fr h₀ L s.heap m) (X : (hd.heap_39 w.params).In h₀)
    (N : News h₀ L s.heap [(sv, instObj 73 sd), (sd, dictOf [ent w (Str.ofString "infos") ts (.ref ia)] n), (ia, oI)]) (T : TT mean mg mb h₀) (hf : env.frame = some L) (hke : env.scope.kind = .function)
    (hd : oI.IsDictOf (PySem.intKind PySem.Challenge.rw_rh0064_01.row.prog w) kvs) (lo : (ia == sysModules) = false) (hz : kvs.length ≤ sizeLine) (hno : valueAt kvs k = none) (hno' : (valueAt kvs k).isSome = false)
    (ne1 : (@Ne Nat sv sd)) (ne2 : (@Ne Nat sv ia)) (ne3 : (@Ne Nat sd ia))
    (h : ∀ x dx oI' tk h' tk', Fr h₀ L h' m → News h₀ L h' [(x, instObj 38 dx), (dx, dictOf (recEs w { var := k, first := first, kind := Str.ofString "temp", goal := goal, count := count, chunk0 := chunk, chunk := chunk } tk) 9), (sv, instObj 73 sd), (sd, dictOf [ent w (Str.ofString "infos") ts (.ref ia)] n), (ia, oI')] →
      oI'.IsDictOf (PySem.intKind PySem.Challenge.rw_rh0064_01.row.prog w) (stored kvs k (.ref x)) → Kept [sv, sd, ia] s.heap h' → s.heap.get? dx = none → s.heap.get? x = none → @LT.lt Nat _ dx x → Q .none { s with heap := h', toks := tk' }) :
    wpAny (model PySem.Challenge.rw_rh0064_01.row.prog w) (callerA.deeper env) (call (.ref 63) [.ref sv, .int k t1, .str first t2, .int goal t3, .int chunk t4, .int count t5] []) Q E s := by
  w_top off
  k_with_none
  revert X; k_fill; intro X
  walk_at "MY ENTER"
  clear N F B
  intro g' L' h' FG' F' N' B' X' T' G'
  dsimp only
  replace F' : Fr g' L' h' (fun y => List.lookup y [(Str.ofString "count", .int count t5), (Str.ofString "chunk", .int chunk t4), (Str.ofString "goal", .int goal t3), (Str.ofString "first", .str first t2), (Str.ofString "k", .int k t1), (Str.ofString "self", .ref sv)]) := F'
  k_unmd; k_fold
  k_steps
  rename News h₀ L _ _ => kN
  rename Fr h₀ L _ _ => kF
  rename News g' L' _ _ => gN
  rename @LT.lt Nat _ _ _ => hlt
  rename @LT.lt Nat _ sv _ ∧ _ => hall
  have fresh : ∀ b, g'.get? b = none → b ∉ [sv, sd, ia] → s.heap.get? b = none := fun b hb nb => by
    cases e : s.heap.get? b with
    | none => rfl
    | some o => have := G' b o e nb; rw [hb] at this; cases this
  simp only [Int.zero_add] at kN
  intro kp
  refine' h _ _ _ ⟨_, _, _, _, _, _, _, _, _, _, _, _, _, _, _, _, _⟩ _ _ kF ?N (by assumption) kp ?a ?b hlt
  case N => exact kN
  case b => exact fresh _ (gN.fresh (.head _)) (by simp only [List.mem_cons, List.not_mem_nil, or_false, not_or]; refine ⟨?_, ?_, ?_⟩ <;> (refine neN ?_; omega))
  case a => exact fresh _ (gN.fresh (.tail _ (.head _))) (by simp only [List.mem_cons, List.not_mem_nil, or_false, not_or]; refine ⟨?_, ?_, ?_⟩ <;> (refine neN ?_; omega))

theorem meet_old {w : World} {mean : ExcName → Option Value} {mg mb : Str → Option Value} {base h₀ : Heap} {A₀ : Around} {env : Env} {L : Addr} {m : Str → Option Value} {s : Shared} {Q : Value → Shared → Prop} {E : Value → Shared → Prop}
    {sv sd ia x dx : Addr} {oI : Obj} {kvs : List (Int × Value)} {n : Nat} {ts : Tok} {k goal chunk count : Int} {first : Str} {t1 t2 t3 t4 t5 : Tok} {r : Rec} {tr : Toks}
    (B : Below A₀ base [] h₀) (F : Fr h₀ L s.heap m) (X : (hd.heap_39 w.params).In h₀)
    (N : News h₀ L s.heap [(x, instObj 38 dx), (dx, dictOf (recEs w r tr) 9), (sv, instObj 73 sd), (sd, dictOf [ent w (Str.ofString "infos") ts (.ref ia)] n), (ia, oI)]) (T : TT mean mg mb h₀) (hf : env.frame = some L) (hke : env.scope.kind = .function)
    (hd : oI.IsDictOf (PySem.intKind PySem.Challenge.rw_rh0064_01.row.prog w) kvs) (lo : (ia == sysModules) = false) (hyes : valueAt kvs k = some (.ref x)) (hyes' : (valueAt kvs k).isSome = true)
    (ne1 : (@Ne Nat x dx)) (ne2 : (@Ne Nat sv dx)) (ne3 : (@Ne Nat sd dx)) (ne4 : (@Ne Nat ia dx))
    (h : ∀ tk h' tk', Fr h₀ L h' m → News h₀ L h' [(x, instObj 38 dx), (dx, dictOf (recEs w { r with goal := goal, count := r.count + count, chunk := chunk } tk) 9), (sv, instObj 73 sd), (sd, dictOf [ent w (Str.ofString "infos") ts (.ref ia)] n), (ia, oI)] →
      Kept [x, dx, sv, sd, ia] s.heap h' → Q .none { s with heap := h', toks := tk' }) :
    wpAny (model PySem.Challenge.rw_rh0064_01.row.prog w) (callerA.deeper env) (call (.ref 63) [.ref sv, .int k t1, .str first t2, .int goal t3, .int chunk t4, .int count t5] []) Q E s := by
  w_top off
  k_with_none
  revert X; k_fill; intro X
  walk_at "MY ENTER"
  clear N F B
  intro g' L' h' FG' F' N' B' X' T' G'
  clear G'
  dsimp only
  replace F' : Fr g' L' h' (fun y => List.lookup y [(Str.ofString "count", .int count t5), (Str.ofString "chunk", .int chunk t4), (Str.ofString "goal", .int goal t3), (Str.ofString "first", .str first t2), (Str.ofString "k", .int k t1), (Str.ofString "self", .ref sv)]) := F'
  k_unmd; k_fold
  k_steps
  rename News h₀ L _ _ => kN
  rename Fr h₀ L _ _ => kF
  intro kp
  refine' h ⟨tr.k0, tr.k1, tr.k2, tr.k3, tr.k4, tr.k5, tr.k6, tr.k7, tr.k8, tr.v0, tr.v1, tr.v2, tr.v3, t3, _, tr.v7, t4⟩ _ _ kF ?N kp
  case N => exact kN
end
section
local macro_rules | `(tactic| walk_at "MY ENTER") => `(tactic| (refine' wpAny_call (code_keep ?k1 ?k2 ?k3 ?k4 ?k5 ?kA ?kF ?kK ?k6 ?k7 ?k8 ?k9 ?kB ?_ ?c2 ?c3 ?c4 ?c5); (case kA => exact rfl); (case kF => assumption); (case kK => assumption); (case k1 => k_asm); (case k2 => k_asm); (case k3 => k_asm); (case k4 => k_asm); (case k5 => k_asm); (case k6 => k_dflt k_is); (case k7 => k_dflt k_is); (case k8 => k_room); (case k9 => k_dflt (exact BindsTo.of_eq rfl)); (case c5 => decide); (case kB => exact locs rfl); (case c2 => exact rfl); (case c3 => exact rfl); (case c4 => exact rfl)))

theorem q_bool {Q : Value → Shared → Prop} {a b : Bool} {s : Shared} (h : Q (.bool a) s) (e : a = b) : Q (.bool b) s := e ▸ h
theorem q_str {Q : Value → Shared → Prop} {a b : Str} {t : Tok} {s : Shared} (h : Q (.str a t) s) (e : a = b) : Q (.str b t) s := e ▸ h
def kindOf (r : Rec) : Str := if r.count = 1 then Str.ofString "void" else if r.chunk0 < r.chunk then Str.ofString "perm" else Str.ofString "temp"

theorem kind_call {w : World} {mean : ExcName → Option Value} {mg mb : Str → Option Value} {base h₀ : Heap} {A₀ : Around} {env : Env} {L : Addr} {m : Str → Option Value} {s : Shared} {Q : Value → Shared → Prop} {E : Value → Shared → Prop}
    {x dx : Addr} {r : Rec} {tr : Toks}
    (B : Below A₀ base [] h₀) (F : Fr h₀ L s.heap m) (X : (hd.heap_39 w.params).In h₀)
    (N : News h₀ L s.heap [(x, instObj 38 dx), (dx, dictOf (recEs w r tr) 9)]) (T : TT mean mg mb h₀) (hf : env.frame = some L) (hke : env.scope.kind = .function)
    (h : ∀ t h' tk', Fr h₀ L h' m → News h₀ L h' [(x, instObj 38 dx), (dx, dictOf (recEs w r tr) 9)] →
      Kept [x, dx] s.heap h' → Q (.str (kindOf r) t) { s with heap := h', toks := tk' }) :
    wpAny (model PySem.Challenge.rw_rh0064_01.row.prog w) (callerA.deeper env) (call (.ref 84) [.ref x] []) Q E s := by
  w_top off
  k_with_none
  revert X; k_fill; intro X
  walk_at "MY ENTER"
  clear N F B
  intro g' L' h' FG' F' N' B' X' T' G'
  clear G'
  dsimp only
  replace F' : Fr g' L' h' (fun y => List.lookup y [(Str.ofString "info", .ref x)]) := F'
  k_unmd; k_fold
  k_steps
  all_goals (rename News h₀ L _ _ => kN; rename Fr h₀ L _ _ => kF; intro kp)
  all_goals (dsimp only; refine q_str (h _ _ _ kF kN kp) ?_; unfold kindOf; clear N' F' kF kN h; by_cases c1 : r.count = 1 <;> by_cases c2 : r.chunk0 < r.chunk <;> simp_all <;> omega)

def goesBefore (a b : Rec) : Bool := decide (b.goal < a.goal) || (decide (a.goal = b.goal) && decide (a.var < b.var))
theorem goes_call {w : World} {mean : ExcName → Option Value} {mg mb : Str → Option Value} {base h₀ : Heap} {A₀ : Around} {env : Env} {L : Addr} {m : Str → Option Value} {s : Shared} {Q : Value → Shared → Prop} {E : Value → Shared → Prop}
    {x dx y dy : Addr} {r q : Rec} {tr tq : Toks}
    (B : Below A₀ base [] h₀) (F : Fr h₀ L s.heap m) (X : (hd.heap_39 w.params).In h₀)
    (N : News h₀ L s.heap [(x, instObj 38 dx), (dx, dictOf (recEs w r tr) 9), (y, instObj 38 dy), (dy, dictOf (recEs w q tq) 9)]) (T : TT mean mg mb h₀) (hf : env.frame = some L) (hke : env.scope.kind = .function)
    (h : ∀ h' tk', Fr h₀ L h' m → News h₀ L h' [(x, instObj 38 dx), (dx, dictOf (recEs w r tr) 9), (y, instObj 38 dy), (dy, dictOf (recEs w q tq) 9)] →
      Kept [x, dx, y, dy] s.heap h' → Q (.bool (goesBefore r q)) { s with heap := h', toks := tk' }) :
    wpAny (model PySem.Challenge.rw_rh0064_01.row.prog w) (callerA.deeper env) (call (.ref 112) [.ref x, .ref y] []) Q E s := by
  w_top off
  k_with_none
  revert X; k_fill; intro X
  walk_at "MY ENTER"
  clear N F B
  intro g' L' h' FG' F' N' B' X' T' G'
  clear G'
  dsimp only
  replace F' : Fr g' L' h' (fun z => List.lookup z [(Str.ofString "other", .ref y), (Str.ofString "one", .ref x)]) := F'
  k_unmd; k_fold
  k_steps
  all_goals (rename News h₀ L _ _ => kN; rename Fr h₀ L _ _ => kF; intro kp)
  all_goals (dsimp only; refine q_bool (h _ _ kF kN kp) ?_; unfold goesBefore; clear N' F' kF kN h; by_cases c1 : q.goal < r.goal <;> by_cases c2 : r.goal = q.goal <;> by_cases c3 : r.var < q.var <;> simp_all <;> first | omega | rw [decide_eq_false (by omega), beq_eq_false_iff_ne.mpr (by assumption)])
end
section
local macro_rules | `(tactic| walk_at "MY ENTER") => `(tactic| (refine' wpAny_call (code_keep ?k1 ?k2 ?k3 ?k4 ?k5 ?kA ?kF ?kK ?k6 ?k7 ?k8 ?k9 ?kB ?_ ?c2 ?c3 ?c4 ?c5); (case kA => exact rfl); (case kF => assumption); (case kK => assumption); (case k1 => k_asm); (case k2 => k_asm); (case k3 => k_asm); (case k4 => k_asm); (case k5 => k_asm); (case k6 => k_dflt k_is); (case k7 => k_dflt k_is); (case k8 => k_room); (case k9 => k_dflt (exact BindsTo.of_eq rfl)); (case c5 => decide); (case kB => exact locs rfl); (case c2 => exact rfl); (case c3 => exact rfl); (case c4 => exact rfl)))

theorem len_L {w : World} {A : Around} {E : Value → Shared → Prop} {s : Shared} {h₀ : Heap} {L d : Addr} {news : List (Addr × Obj)} {its : Array Value} {n : Nat} {Q : Value → Shared → Prop}
    (N : News h₀ L s.heap news) (hp : (d, listOf its n) ∈ news) (hz : its.size ≤ 16777216) (h : Q (.int its.size (s.toks + 1)) { s with toks := s.toks + 1 + 1 }) :
    wpAny (model PP w) A (call (.builtin "len") [.ref d]) Q E s := len_list ⟨_, N.get hp, rfl, _, rfl⟩ (by omega) h
local macro_rules | `(tactic| walk_at "call builtin:len") => `(tactic| (k_here; (with_reducible show wpAny _ _ (call (Value.builtin "len") [Value.ref _]) _ _ _); k_dflt (refine len_L (by k_asm) (by k_mem) (by simp only [Array.size_push, List.size_toArray]; omega) ?_)))

theorem ints_snoc {vs : List Value} {ns : List Int} (h : IntsAre vs ns) (k : Int) (t : Tok) : IntsAre (vs ++ [.int k t]) (ns ++ [k]) := by
  induction h with
  | nil => exact .cons k t .nil
  | cons n u _ ih => exact .cons n u ih
theorem ints_reverse {vs : List Value} {ns : List Int} (h : IntsAre vs ns) : IntsAre vs.reverse ns.reverse := by
  induction h with
  | nil => exact .nil
  | cons n u _ ih => rw [List.reverse_cons, List.reverse_cons]; exact ints_snoc ih n u
local macro_rules | `(tactic| walk_at "call builtin:list.reverse") => `(tactic| (k_here; k_dflt (refine' kl_reverse ?F ?N ?e ?U ?z ?_; (case F => k_asm); (case N => k_asm); (case U => k_upd); (case e => rfl); (case z => ((have hr9 := rangeKs_length 0 ((20 : Int) - 0).toNat); rw [PySem.sizeLine_eq]; simp only [Array.toList_push, List.toList_toArray, List.length_append, List.length_singleton]; omega))); (intro h' F' N')))
theorem coins_end {h₀ : Heap} {L : Addr} {m : Str → Option Value} {s : Shared} {Q : Value → Shared → Prop} {c : Addr} {its : Array Value} {ns' : List Int} {n' : Nat} {h' : Heap} {tk' : Nat} {news : List (Addr × Obj)}
    (h : ∀ c vs' ns' n' h' tk', IntsAre vs' ns' → ns'.length ≤ 2000 → Fr h₀ L h' m → News h₀ L h' [(c, listOf vs'.toArray n')] → Kept [] s.heap h' → s.heap.get? c = none → Q (.ref c) { s with heap := h', toks := tk' })
    (F : Fr h₀ L h' m) (N : News h₀ L h' news) (hm : (c, listOf its.toList.reverse.toArray n') ∈ news) (hi : IntsAre its.toList ns') (hl : ns'.length ≤ 2000) (kp : Kept [] s.heap h') (fr : s.heap.get? c = none) : Q (.ref c) { s with heap := h', toks := tk' } :=
  h c _ _ n' h' tk' (ints_reverse hi) (by rw [List.length_reverse]; exact hl) F (fun p hp => by rw [List.mem_singleton.mp hp]; exact N _ hm) kp fr
theorem fresh_of {h g : Heap} {as : List Addr} {b : Addr} (G : GSub h g as) (e : g.get? b = none) (nb : b ∉ as) : h.get? b = none := by
  cases q : h.get? b with
  | none => rfl
  | some o => have := G b o q nb; rw [e] at this; cases this
theorem coins_call {w : World} {mean : ExcName → Option Value} {mg mb : Str → Option Value} {base h₀ : Heap} {A₀ : Around} {env : Env} {L : Addr} {m : Str → Option Value} {s : Shared} {Q : Value → Shared → Prop} {E : Value → Shared → Prop}
    {l : Addr} {vs : List Value} {ns : List Int}
    (B : Below A₀ base [] h₀) (F : Fr h₀ L s.heap m) (X : (hd.heap_39 w.params).In h₀) (N : News h₀ L s.heap []) (T : TT mean mg mb h₀) (hf : env.frame = some L) (hke : env.scope.kind = .function)
    (hL : h₀.IsList l vs.toArray) (hI : IntsAre vs ns) (hlen : ns.length ≤ 63)
    (h : ∀ c vs' ns' n' h' tk', IntsAre vs' ns' → ns'.length ≤ 2000 → Fr h₀ L h' m → News h₀ L h' [(c, listOf vs'.toArray n')] → Kept [] s.heap h' → s.heap.get? c = none → Q (.ref c) { s with heap := h', toks := tk' }) :
    wpAny (model PySem.Challenge.rw_rh0064_01.row.prog w) (callerA.deeper env) (call (.ref 98) [.ref l] []) Q E s := by
  w_top off
  k_with_none
  k_with "pyIter ref" => (k_of "cell" => k_state (fun pre coins => coins.length ≤ 20 * pre.length) "coins")
  k_with "pyIter ref" => (k_of "lap" => k_state_given ["coins!"] (fun c0 pre coins (left : Int) => coins.length ≤ c0.length + pre.length) "coins" "left")
  revert X; k_fill; intro X
  walk_at "MY ENTER"
  have hL' := hL
  clear N F B
  intro g' L' h' FG' F' N' B' X' T' G'
  replace hL := stays_list FG'.keep hL
  dsimp only
  replace F' : Fr g' L' h' (fun y => List.lookup y [(Str.ofString "script", .ref l)]) := F'
  k_unmd; k_fold
  k_steps
  all_goals (rename News h₀ L _ _ => kN; rename Fr h₀ L _ _ => kF; rename News g' L' _ _ => gN; intro kp)
  all_goals (refine coins_end h kF kN (by k_mem) (by first | assumption | (rw [Array.toList_push]; exact ints_snoc (by assumption) _ _)) ?_ kp ?_)
  all_goals first
    | ((have hr9 := rangeKs_length 0 ((20 : Int) - 0).toNat); (try simp only [List.length_append, List.length_singleton]); omega)
    | skip
  all_goals exact fresh_of G' (gN.fresh (by k_mem)) (fun q => nomatch q)
end
section
def TurnEnd (h₀ : Heap) (L : Addr) (J : (Str → Option Value) → List (Addr × Obj) → Prop) (I : Addr) (oI : Obj) (s : Shared) (Q : Flow → Shared → Prop) (f : Flow) (s' : Shared) : Prop :=
  match f with
  | .ret v => Q (.ret v) s'
  | .brk => Q .next s'
  | _ => ∃ h' tk m' news', s' = { s with heap := h', toks := tk } ∧ Fr h₀ L h' m' ∧ News h₀ L h' ((I, oI) :: news') ∧ (∀ p ∈ news', p.1 ≠ I) ∧ J m' news'

theorem TurnEnd.intro {h₀ : Heap} {L : Addr} {J : (Str → Option Value) → List (Addr × Obj) → Prop} {I : Addr} {oI : Obj} {s : Shared} {Q : Flow → Shared → Prop} {h' : Heap} {tk : Nat} {m' : Str → Option Value} {news' : List (Addr × Obj)}
    (F : Fr h₀ L h' m') (N : News h₀ L h' ((I, oI) :: news')) (off : ∀ p ∈ news', p.1 ≠ I) (hJ : J m' news') : TurnEnd h₀ L J I oI s Q .next { s with heap := h', toks := tk } :=
  ⟨h', tk, m', news', rfl, F, N, off, hJ⟩

theorem new_none {h₀ h : Heap} {L : Addr} {m : Str → Option Value} (F : Fr h₀ L h m) : h₀.get? h.objs.size = none := by
  cases q : h₀.get? h.objs.size with
  | none => rfl
  | some o => exact absurd (Heap.lt_size (F.keep _ _ q)) (Nat.lt_irrefl _)

section
variable {prog : Program} {w : World} {A : Around} {E : Value → Shared → Prop} {s : Shared} {env : Env} {h₀ : Heap} {x : Str} {px : Pos} {body : List Stmt} {Q : Flow → Shared → Prop}

theorem turns_any {I : Addr} {fp : List Addr} {n : Nat} {P : Nat → Value → Prop} {St : Nat → Heap → Prop} {m : Str → Option Value} {news : List (Addr × Obj)} (W : Walks prog w A I fp [I] n P St)
    (hI : ∀ i h, St i h → ∃ o, h.get? I = some o) (hLf : env.locals ∉ fp) (hI₀ : h₀.get? I = none) (hnw : ∀ p ∈ news, p.1 ≠ I) (hst : St 0 s.heap) (F : Fr h₀ env.locals s.heap m) (N : News h₀ env.locals s.heap news)
    (J : Nat → (Str → Option Value) → List (Addr × Obj) → Prop) (h0 : J 0 m news)
    (hax : ∀ i m₁ news₁ h, J i m₁ news₁ → News h₀ env.locals h news₁ → ∀ b ∈ fp, b ≠ I → h₀.get? b = none → ∃ o, ∀ j m₂ news₂, J j m₂ news₂ → (b, o) ∈ news₂)
    (turn : ∀ i v m₁ news₁ oI h tk, i < n → P i v → J i m₁ news₁ → Fr h₀ env.locals h m₁ → News h₀ env.locals h ((I, oI) :: news₁) → (∀ p ∈ news₁, p.1 ≠ I) →
      wpAny (model prog w) A (storeName env x v) (fun _ s₃ => wpAny (model prog w) A (execs body env) (TurnEnd h₀ env.locals (J (i + 1)) I oI { s with heap := h, toks := tk } Q) E s₃) E { s with heap := h, toks := tk })
    (done : ∀ m' news' h tk, J n m' news' → Fr h₀ env.locals h m' → News h₀ env.locals h news' → Q .next { s with heap := h, toks := tk }) :
    TurnsAt prog w A h₀ env (.Name x px) body Q E (.ref I) s := by
  have hIf : I ∈ fp := W.sub I (List.mem_singleton.mpr rfl)
  refine ⟨I, fp, [I], n, _, _, St, m, news, J, rfl, KTurns.ofWalks W (fun i v s Q E _ h => wpAny_pure h), hLf, ?_, ?_, hst, F, N, h0, ?_, ?_⟩
  · intro b hb; rw [List.mem_singleton.mp hb]; exact hI₀
  · intro p hp hb; exact hnw p hp (List.mem_singleton.mp hb)
  · intro i v m₁ news₁ h₁ tk₁ own hi hP hJ hoff hsub hget hall st F₁ N₁
    obtain ⟨oI, hoI⟩ := hI _ _ st
    have hown : (I, oI) ∈ own := hall I hIf hI₀ oI hoI
    have off₁ : ∀ p ∈ news₁, p.1 ≠ I := fun p hp e => hoff p hp (by rw [e]; exact List.mem_singleton.mpr rfl)
    have Nn : News h₀ env.locals h₁ news₁ := fun p hp => N₁ p (List.mem_append_right _ hp)
    refine wpAny_assign_Name (wpAny_mono (turn i v m₁ news₁ oI h₁ tk₁ hi hP hJ F₁ (fun p hp => ?_) off₁) (fun _ s₃ h₃ => wpAny_mono h₃ (fun f s₄ h₄ => ?_) fun _ _ e => e) fun _ _ e => e)
    · rcases List.mem_cons.mp hp with rfl | hp
      · exact N₁ _ (List.mem_append_left _ hown)
      · exact N₁ _ (List.mem_append_right _ hp)
    · have fin : (∃ h' tk m' news', s₄ = { s with heap := h', toks := tk } ∧ Fr h₀ env.locals h' m' ∧ News h₀ env.locals h' ((I, oI) :: news') ∧ (∀ p ∈ news', p.1 ≠ I) ∧ J (i + 1) m' news') →
          LoopStepU h₀ env.locals [I] own (J (i + 1)) { s with heap := h₁, toks := tk₁ } .next s₄ := by
        rintro ⟨h', tk', m', news', rfl, F', N', off', hJ'⟩
        refine ⟨rfl, h', tk', m', news', rfl, F', fun p hp => ?_, fun p hp hb => off' p hp (List.mem_singleton.mp hb), hJ'⟩
        rcases List.mem_append.mp hp with hp | hp
        · by_cases e : p.1 = I
          · have e2 := hget p hp
            rw [e, hoI] at e2
            have : p = (I, oI) := Prod.ext e (Option.some.inj e2).symm
            rw [this]
            exact N' _ (.head _)
          · obtain ⟨o, ho⟩ := hax i m₁ news₁ h₁ hJ Nn p.1 (hsub p hp) e (N₁ p (List.mem_append_left _ hp)).2.2
            have e1 := (Nn _ (ho _ _ _ hJ)).1
            have e2 := hget p hp
            have e3 : p = (p.1, o) := Prod.ext rfl (Option.some.inj (e2.symm.trans e1))
            rw [e3]
            exact N' _ (.tail _ (ho _ _ _ hJ'))
        · exact N' _ (.tail _ hp)
      cases f with
      | ret v => exact .ret h₄
      | brk => exact .brk h₄
      | next => exact .next (fin h₄)
      | cont => exact .cont (fin h₄)
  · intro h' tk m' news' F' N' _ hJ
    exact done m' news' h' tk hJ F' N'

theorem turns_range {r : Addr} {a b : Int} {t u v : Tok} {n : Nat} {m : Str → Option Value} {news : List (Addr × Obj)} (hh : A.handled = none) (hr : IsRange s.heap r a b 1 t u v) (hsmall : Builtin.Range.small a b 1 = true)
    (hn : Builtin.Range.rangeSize a b 1 = (n : Int)) (F : Fr h₀ env.locals s.heap m) (N : News h₀ env.locals s.heap news)
    (J : Nat → (Str → Option Value) → List (Addr × Obj) → Prop) (h0 : J 0 m news)
    (turn : ∀ (i : Nat) (t : Tok) m₁ news₁ I oI h tk, i < n → J i m₁ news₁ → Fr h₀ env.locals h m₁ → News h₀ env.locals h ((I, oI) :: news₁) → (∀ p ∈ news₁, p.1 ≠ I) →
      wpAny (model prog w) A (storeName env x (.int (a + (i : Int)) t)) (fun _ s₃ => wpAny (model prog w) A (execs body env) (TurnEnd h₀ env.locals (J (i + 1)) I oI { s with heap := h, toks := tk } Q) E s₃) E { s with heap := h, toks := tk })
    (done : ∀ m' news' h tk, J n m' news' → Fr h₀ env.locals h m' → News h₀ env.locals h news' → Q .next { s with heap := h, toks := tk }) :
    wpAny (model prog w) A (pyIter (.ref r)) (fun it s₂ => TurnsAt prog w A h₀ env (.Name x px) body Q E it s₂) E s := by
  refine wpAny_pyIter_range hr hsmall ?_
  have W := LCg.range_walks (prog := prog) (w := w) (I := s.heap.objs.size) hh a n
  refine turns_any (prog := prog) (w := w) (A := A) (E := E) W (fun i h st => ⟨_, st⟩) ?_ ?_ ?_ ?_ (F.push _) (fun p hp => ⟨Heap.get?_push_of_some _ (N p hp).1, (N p hp).2⟩) J h0 ?_ ?_ ?_
  · intro hm; exact absurd F.ns.lt ((List.mem_singleton.mp hm) ▸ Nat.lt_irrefl _)
  · exact new_none F
  · intro p hp e; exact absurd (Heap.lt_size (N p hp).1) (e ▸ Nat.lt_irrefl _)
  · show IsRangeIter _ _ _ _ _; rw [hn]; simpa using Heap.get?_push_size _ rfl
  · intro i m₁ news₁ h _ _ b hb ne _; exact absurd (List.mem_singleton.mp hb) ne
  · rintro i v m₁ news₁ oI h tk hi ⟨t, rfl⟩ hJ F₁ N₁ off
    exact turn i t m₁ news₁ _ oI h tk hi hJ F₁ N₁ off
  · intro m' news' h tk hJ F' N'; exact done m' news' h tk hJ F' N'

theorem turns_list {l : Addr} {its : Array Value} {ep : Nat} {m : Str → Option Value} {news : List (Addr × Obj)} (hh : A.handled = none) (hl : (l, listOf its ep) ∈ news) (F : Fr h₀ env.locals s.heap m) (N : News h₀ env.locals s.heap news)
    (J : Nat → (Str → Option Value) → List (Addr × Obj) → Prop) (h0 : J 0 m news) (hkeep : ∀ i m₁ news₁, J i m₁ news₁ → (l, listOf its ep) ∈ news₁)
    (turn : ∀ i v m₁ news₁ I oI h tk, its[i]? = some v → J i m₁ news₁ → Fr h₀ env.locals h m₁ → News h₀ env.locals h ((I, oI) :: news₁) → (∀ p ∈ news₁, p.1 ≠ I) →
      wpAny (model prog w) A (storeName env x v) (fun _ s₃ => wpAny (model prog w) A (execs body env) (TurnEnd h₀ env.locals (J (i + 1)) I oI { s with heap := h, toks := tk } Q) E s₃) E { s with heap := h, toks := tk })
    (done : ∀ m' news' h tk, J its.size m' news' → Fr h₀ env.locals h m' → News h₀ env.locals h news' → Q .next { s with heap := h, toks := tk }) :
    wpAny (model prog w) A (pyIter (.ref l)) (fun it s₂ => TurnsAt prog w A h₀ env (.Name x px) body Q E it s₂) E s := by
  have hls : s.heap.IsList l its := ⟨_, (N _ hl).1, rfl, _, rfl⟩
  have hll : l < s.heap.objs.size := Heap.lt_size (N _ hl).1
  have hne : l ≠ s.heap.objs.size := Nat.ne_of_lt hll
  refine wpAny_pyIter_list hls ?_
  have W := Walks.list (prog := prog) (w := w) hh s.heap.objs.size l hne its
  refine turns_any (prog := prog) (w := w) (A := A) (E := E) W ?_ ?_ ?_ ?_ ⟨⟨_, Heap.get?_push_size _ rfl, rfl, rfl⟩, hls.at fun o e => Heap.get?_push_of_some _ e⟩ (F.push _) (fun p hp => ⟨Heap.get?_push_of_some _ (N p hp).1, (N p hp).2⟩) J h0 ?_ ?_ ?_
  · rintro i h ⟨⟨o, ho, _⟩, _⟩; exact ⟨o, ho⟩
  · intro hm
    rcases List.mem_cons.mp hm with e | hm
    · exact absurd F.ns.lt (e ▸ Nat.lt_irrefl _)
    · exact (N _ hl).2.1 (List.mem_singleton.mp hm).symm
  · exact new_none F
  · intro p hp e; exact absurd (Heap.lt_size (N p hp).1) (e ▸ Nat.lt_irrefl _)
  · intro i m₁ news₁ h _ _ b hb ne _
    rcases List.mem_cons.mp hb with e | hb
    · exact absurd e ne
    · refine ⟨listOf its ep, fun j m₂ news₂ hJ => ?_⟩
      rw [List.mem_singleton.mp hb]
      exact hkeep j m₂ news₂ hJ
  · intro i v m₁ news₁ oI h tk _ hP hJ F₁ N₁ off
    exact turn i v m₁ news₁ _ oI h tk hP hJ F₁ N₁ off
  · intro m' news' h tk hJ F' N'; exact done m' news' h tk hJ F' N'
end
end
section
section
variable {w : World} {mean : ExcName → Option Value} {mg mb : Str → Option Value} {base h₀ : Heap} {A₀ : Around} {env : Env} {L : Addr} {m : Str → Option Value} {s : Shared} {Q : Value → Shared → Prop} {E : Value → Shared → Prop} {news : List (Addr × Obj)}

theorem coin_step {c : Addr} {vs : List Value} {ns : List Int} {n : Nat} {k : Int} {t : Tok} {g : Obj → List (Addr × Obj)}
    (B : Below A₀ base [] h₀) (F : Fr h₀ L s.heap m) (X : (hd.heap_39 w.params).In h₀) (N : News h₀ L s.heap news) (T : TT mean mg mb h₀) (hf : env.frame = some L) (hke : env.scope.kind = .function)
    (U : UpdF c (listOf vs.toArray n) news g) (hI : IntsAre vs ns) (hk : 0 < k) (hk2 : k < 100) (hlen : ns.length ≤ 2000)
    (h : ∀ r t' vs' ns' n' h' tk', 0 ≤ r → r < k → IntsAre vs' ns' → ns'.length ≤ 2000 → Fr h₀ L h' m → News h₀ L h' (g (listOf vs'.toArray n')) → Q (.int r t') { s with heap := h', toks := tk' }) :
    wpAny (model PySem.Challenge.rw_rh0064_01.row.prog w) (callerA.deeper env) (call (.ref 105) [.ref c, .int k t] []) Q E s := by
  obtain ⟨pre, post, rfl, hg, a, b⟩ := U.split
  refine coin_call B F X (fun p hp => N p (by rw [List.mem_singleton.mp hp]; exact List.mem_append_right _ (.head _))) T hf hke hI hk hk2 hlen fun r t' vs' ns' n' h' tk' h1 h2 h3 h4 F' N' kp => ?_
  refine h r t' vs' ns' n' h' tk' h1 h2 h3 h4 F' ?_
  rw [hg]
  intro p hp
  rcases List.mem_append.mp hp with hp | hp
  · have z := N p (List.mem_append_left _ hp)
    exact ⟨kp _ _ z.1 (fun q => a p hp (List.mem_singleton.mp q)), z.2⟩
  · rcases List.mem_cons.mp hp with rfl | hp
    · exact N' _ (.head _)
    · have z := N p (List.mem_append_right _ (.tail _ hp))
      exact ⟨kp _ _ z.1 (fun q => b p hp (List.mem_singleton.mp q)), z.2⟩

theorem coins_step {l : Addr} {vs : List Value} {ns : List Int}
    (B : Below A₀ base [] h₀) (F : Fr h₀ L s.heap m) (X : (hd.heap_39 w.params).In h₀) (N : News h₀ L s.heap news) (T : TT mean mg mb h₀) (hf : env.frame = some L) (hke : env.scope.kind = .function)
    (hL : h₀.IsList l vs.toArray) (hI : IntsAre vs ns) (hlen : ns.length ≤ 63)
    (h : ∀ c vs' ns' n' h' tk', IntsAre vs' ns' → ns'.length ≤ 2000 → Fr h₀ L h' m → News h₀ L h' ((c, listOf vs'.toArray n') :: news) → (∀ p ∈ news, p.1 ≠ c) → Q (.ref c) { s with heap := h', toks := tk' }) :
    wpAny (model PySem.Challenge.rw_rh0064_01.row.prog w) (callerA.deeper env) (call (.ref 98) [.ref l] []) Q E s := by
  refine coins_call B F X (fun p hp => nomatch hp) T hf hke hL hI hlen fun c vs' ns' n' h' tk' h1 h2 F' N' kp fr => ?_
  refine h c vs' ns' n' h' tk' h1 h2 F' ?_ ?_
  · intro p hp
    rcases List.mem_cons.mp hp with rfl | hp
    · exact N' _ (.head _)
    · exact ⟨kp _ _ (N p hp).1 (fun q => nomatch q), (N p hp).2⟩
  · intro p hp e
    have := (N p hp).1
    rw [e, fr] at this
    cases this
end

theorem q_unit {α : Type} {Q : α → Shared → Prop} {a b : α} {s : Shared} (h : Q a s) (e : a = b) : Q b s := e ▸ h
/-- where the walk is to stop -/
structure Stop (P : Prop) : Prop where
  out : P

local macro_rules | `(tactic| walk_at "call ref") => `(tactic| (k_here; (with_reducible show wpAny _ _ (call (Value.ref 98) _) _ _ _); k_dflt (refine' coins_step ?k1 ?k2 ?k3 ?k4 ?k5 ?k6 ?k7 ?k8 ?k9 ?k10 ?_; (case k1 => k_asm); (case k2 => k_asm); (case k3 => k_asm); (case k4 => first | k_asm | exact News.nil); (case k5 => k_asm); (case k6 => exact rfl); (case k7 => exact rfl); (case k8 => assumption); (case k9 => assumption); (case k10 => omega)); intro c1 vs1 ns1 n1 h1 tk1 hI1 hlen1 F1 N1 off1))
local macro_rules | `(tactic| walk_at "call ref") => `(tactic| (k_here; (with_reducible show wpAny _ _ (call (Value.ref 105) _) _ _ _); k_dflt (refine' coin_step ?k1 ?k2 ?k3 ?k4 ?k5 ?k6 ?k7 ?k8 ?k9 ?k10 ?k11 ?k12 ?_; (case k1 => k_asm); (case k2 => k_asm); (case k3 => k_asm); (case k4 => k_asm); (case k5 => k_asm); (case k6 => exact rfl); (case k7 => exact rfl); (case k8 => k_updF); (case k9 => assumption); (case k10 => decide); (case k11 => decide); (case k12 => assumption)); intro r1 t1 vs1 ns1 n1 h1 tk1 hr1 hr2 hI1 hlen1 F1 N1; (try dsimp only at N1)))

local macro_rules | `(tactic| walk_at "exec For Name Call cons nil") => `(tactic| ((with_reducible show wpAny _ _ (exec (Stmt.For _ _ _ _ _) _) _ _ _); refine Stop.out ?_))
local macro_rules | `(tactic| walk_at "exec For Name Name cons nil") => `(tactic| ((with_reducible show wpAny _ _ (exec (Stmt.For _ _ _ _ _) _) _ _ _); refine Stop.out ?_))
end
section
structure Row where
  number : Int
  word : Str
  goal : Int
  chunk : Int
  many : Int
def upd (o : Option Rec) (r : Row) : Option Rec := match o with
  | none => some { var := r.number, first := r.word, kind := Str.ofString "temp", goal := r.goal, count := r.many, chunk0 := r.chunk, chunk := r.chunk }
  | some q => some { q with goal := r.goal, count := q.count + r.many, chunk := r.chunk }
def recOf (rows : List Row) (k : Int) : Option Rec := (rows.filter fun r => decide (r.number = k)).foldl upd none
theorem recOf_other (rows : List Row) (r : Row) (k : Int) (h : r.number ≠ k) : recOf (rows ++ [r]) k = recOf rows k := by
  unfold recOf; rw [List.filter_append, List.filter_cons, if_neg (by simpa using h)]; simp
theorem recOf_this (rows : List Row) (r : Row) : recOf (rows ++ [r]) r.number = upd (recOf rows r.number) r := by
  unfold recOf; rw [List.filter_append, List.filter_cons, if_pos (by simp)]; simp
theorem recOf_none (rows : List Row) (k : Int) (h : ∀ r ∈ rows, r.number ≠ k) : recOf rows k = none := by
  unfold recOf; rw [List.filter_eq_nil_iff.mpr (fun r hr => by simpa using h r hr)]; rfl

structure Info where
  k : Int
  x : Addr
  dx : Addr
  r : Rec
  tr : Toks
structure RowAt where
  a : Addr
  row : Row
  t1 : Tok
  t2 : Tok
  t3 : Tok
  t4 : Tok
  t5 : Tok
abbrev tupOf (vs : List Value) : Obj := { cls := .type "tuple", data := .seq vs.toArray }
abbrev RowAt.obj (r : RowAt) : Obj := tupOf [.int r.row.number r.t1, .str r.row.word r.t2, .int r.row.goal r.t3, .int r.row.chunk r.t4, .int r.row.many r.t5]
def infoLed (w : World) : List Info → List (Addr × Obj)
  | [] => []
  | q :: l => (q.x, instObj 38 q.dx) :: (q.dx, dictOf (recEs w q.r q.tr) 9) :: infoLed w l
def rowLed (rs : List RowAt) : List (Addr × Obj) := rs.map fun r => (r.a, r.obj)
def kvsOf (l : List Info) : List (Int × Value) := l.map fun q => (q.k, .ref q.x)
theorem infoLed_append (w : World) (a b : List Info) : infoLed w (a ++ b) = infoLed w a ++ infoLed w b := by
  induction a with
  | nil => rfl
  | cons q l ih => simp only [List.cons_append, infoLed, ih]

theorem valueAt_kvs_none {l : List Info} {k : Int} (h : ∀ q ∈ l, q.k ≠ k) : valueAt (kvsOf l) k = none := by
  unfold valueAt kvsOf
  rw [Option.map_eq_none_iff, List.find?_eq_none]
  intro x hx
  obtain ⟨q, hq, rfl⟩ := List.mem_map.mp hx
  simpa using h q hq
theorem valueAt_kvs_some {l : List Info} {k : Int} (h : ∃ q ∈ l, q.k = k) : ∃ pre q post, l = pre ++ q :: post ∧ q.k = k ∧ valueAt (kvsOf l) k = some (.ref q.x) := by
  induction l with
  | nil => obtain ⟨q, hq, _⟩ := h; cases hq
  | cons p l ih =>
    by_cases hp : p.k = k
    · exact ⟨[], p, l, rfl, hp, by simp [valueAt, kvsOf, hp]⟩
    · obtain ⟨q, hq, hk⟩ := h
      rcases List.mem_cons.mp hq with rfl | hq
      · exact absurd hk hp
      · obtain ⟨pre, q', post, rfl, h2, h3⟩ := ih ⟨q, hq, hk⟩
        refine ⟨p :: pre, q', post, rfl, h2, ?_⟩
        unfold valueAt kvsOf at h3 ⊢
        rw [List.map_cons, List.find?_cons]
        simp only [hp, decide_false]
        exact h3
theorem stored_new {l : List Info} {k : Int} {v : Value} (h : ∀ q ∈ l, q.k ≠ k) : stored (kvsOf l) k v = kvsOf l ++ [(k, v)] := by
  unfold stored
  rw [if_neg]
  intro e
  obtain ⟨x, hx, he⟩ := List.any_eq_true.mp e
  obtain ⟨q, hq, rfl⟩ := List.mem_map.mp hx
  exact h q hq (by simpa using he)

section
variable {w : World} {mean : ExcName → Option Value} {mg mb : Str → Option Value} {base h₀ : Heap} {A₀ : Around} {env : Env} {L : Addr} {m : Str → Option Value} {s : Shared} {Q : Value → Shared → Prop} {E : Value → Shared → Prop} {news : List (Addr × Obj)}

theorem merge {big small : List (Addr × Obj)} {h h' : Heap} (N : News h₀ L h big) (hs : ∀ p ∈ small, p ∈ big) (kp : Kept (small.map (·.1)) h h') {p : Addr × Obj} (hp : p ∈ big) :
    p ∈ small ∨ (h'.get? p.1 = some p.2 ∧ p.1 ≠ L ∧ h₀.get? p.1 = none) := by
  by_cases hm : p.1 ∈ small.map (·.1)
  · obtain ⟨q, hq, e⟩ := List.mem_map.mp hm
    have e1 := (N q (hs q hq)).1
    have e2 := (N p hp).1
    have e' : q.1 = p.1 := e
    rw [e', e2] at e1
    have : p = q := Prod.ext e'.symm (Option.some.inj e1)
    exact .inl (this ▸ hq)
  · exact .inr ⟨kp _ _ (N p hp).1 hm, (N p hp).2⟩
theorem perm2 (a : List Addr) (b : Addr) (c d : List Addr) (x y : Addr) (e : List Addr) : (a ++ b :: (c ++ (d ++ x :: y :: e))).Perm (x :: y :: (a ++ b :: (c ++ (d ++ e)))) := by
  have e1 : a ++ b :: (c ++ (d ++ x :: y :: e)) = (a ++ b :: (c ++ d)) ++ x :: y :: e := by simp
  have e2 : a ++ b :: (c ++ (d ++ e)) = (a ++ b :: (c ++ d)) ++ e := by simp
  rw [e1, e2]
  exact List.perm_middle.trans (List.Perm.cons _ List.perm_middle)
theorem nodup_ne {a b : List (Addr × Obj)} (nd : ((a ++ b).map (·.1)).Nodup) {p q : Addr × Obj} (hp : p ∈ a) (hq : q ∈ b) : p.1 ≠ q.1 := by
  rw [List.map_append, List.nodup_append] at nd
  exact nd.2.2 _ (List.mem_map.mpr ⟨p, hp, rfl⟩) _ (List.mem_map.mpr ⟨q, hq, rfl⟩)
theorem not_in {big : List (Addr × Obj)} {h : Heap} (N : News h₀ L h big) {b : Addr} (e : h.get? b = none) : b ∉ big.map (·.1) := by
  intro hm
  obtain ⟨p, hp, rfl⟩ := List.mem_map.mp hm
  rw [(N p hp).1] at e; cases e

/-- what `meet` makes of the records -/
structure Met (w : World) (rows : List Row) (row : Row) (infos infos' : List Info) : Prop where
  recs : ∀ q ∈ infos', recOf (rows ++ [row]) q.k = some q.r ∧ q.r.var = q.k
  keep : ∀ q ∈ infos, ∃ q' ∈ infos', q'.k = q.k
  this : ∃ q' ∈ infos', q'.k = row.number
  only : ∀ q' ∈ infos', q'.k = row.number ∨ ∃ q ∈ infos, q.k = q'.k
  len : infos'.length ≤ infos.length + 1

theorem meet_step {sv sd ia : Addr} {oD : Obj} {ts : Tok} {goal chunk count k : Int} {first : Str} {t1 t2 t3 t4 t5 : Tok} {lits rest : List (Addr × Obj)} {g : Obj → List (Addr × Obj)} {infos : List Info} {rows : List Row}
    (B : Below A₀ base [] h₀) (F : Fr h₀ L s.heap m) (X : (hd.heap_39 w.params).In h₀) (N : News h₀ L s.heap (lits ++ (infoLed w infos ++ rest))) (T : TT mean mg mb h₀) (hf : env.frame = some L) (hke : env.scope.kind = .function)
    (U : UpdF ia oD lits g) (m1 : (sv, instObj 73 sd) ∈ lits) (m2 : (sd, dictOf [ent w (Str.ofString "infos") ts (.ref ia)] 1) ∈ lits)
    (nd : ((lits ++ (infoLed w infos ++ rest)).map (·.1)).Nodup)
    (hd : oD.IsDictOf (PySem.intKind PySem.Challenge.rw_rh0064_01.row.prog w) (kvsOf infos)) (lo : (ia == sysModules) = false) (hlen : infos.length ≤ 100)
    (hr : ∀ q ∈ infos, recOf rows q.k = some q.r ∧ q.r.var = q.k) (hall : ∀ r ∈ rows, ∃ q ∈ infos, q.k = r.number)
    (h : ∀ oD' infos' h' tk', Fr h₀ L h' m → News h₀ L h' (g oD' ++ (infoLed w infos' ++ rest)) → oD'.IsDictOf (PySem.intKind PySem.Challenge.rw_rh0064_01.row.prog w) (kvsOf infos') → Met w rows ⟨k, first, goal, chunk, count⟩ infos infos' →
      ((g oD' ++ (infoLed w infos' ++ rest)).map (·.1)).Nodup → Q .none { s with heap := h', toks := tk' }) :
    wpAny (model PySem.Challenge.rw_rh0064_01.row.prog w) (callerA.deeper env) (call (.ref 63) [.ref sv, .int k t1, .str first t2, .int goal t3, .int chunk t4, .int count t5] []) Q E s := by
  obtain ⟨pre, post, rfl, hg, na, nb⟩ := U.split
  have mi : (ia, oD) ∈ pre ++ (ia, oD) :: post := List.mem_append_right _ (.head _)
  have knd : (infos.map (·.k)).Nodup := by
    obtain ⟨_, _, _, _, _, _, _, _, hn⟩ := kda_dict N (List.mem_append_left _ mi) hd
    have e : (kvsOf infos).map (·.1) = infos.map (·.k) := by simp [kvsOf, Function.comp_def]
    rw [e] at hn; exact hn
  by_cases hk : ∃ q ∈ infos, q.k = k
  · obtain ⟨pre2, q, post2, rfl, hqk, hv⟩ := valueAt_kvs_some hk
    have hq := hr q (by simp)
    have q1 : (q.x, instObj 38 q.dx) ∈ infoLed w (pre2 ++ q :: post2) := by rw [infoLed_append]; exact List.mem_append_right _ (.head _)
    have q2 : (q.dx, dictOf (recEs w q.r q.tr) 9) ∈ infoLed w (pre2 ++ q :: post2) := by rw [infoLed_append]; exact List.mem_append_right _ (.tail _ (.head _))
    have nd1 := nd
    have small : ∀ p ∈ [(q.x, instObj 38 q.dx), (q.dx, dictOf (recEs w q.r q.tr) 9), (sv, instObj 73 sd), (sd, dictOf [ent w (Str.ofString "infos") ts (.ref ia)] 1), (ia, oD)], p ∈ (pre ++ (ia, oD) :: post) ++ (infoLed w (pre2 ++ q :: post2) ++ rest) := by
      intro p hp
      simp only [List.mem_cons, List.not_mem_nil, or_false] at hp
      rcases hp with rfl | rfl | rfl | rfl | rfl
      · exact List.mem_append_right _ (List.mem_append_left _ q1)
      · exact List.mem_append_right _ (List.mem_append_left _ q2)
      · exact List.mem_append_left _ m1
      · exact List.mem_append_left _ m2
      · exact List.mem_append_left _ mi
    have d1 : ∀ p ∈ pre ++ (ia, oD) :: post, p.1 ≠ q.dx := fun p hp => nodup_ne nd hp (List.mem_append_left rest q2)
    have nd2 : ((infoLed w pre2 ++ (q.x, instObj 38 q.dx) :: (q.dx, dictOf (recEs w q.r q.tr) 9) :: (infoLed w post2 ++ rest)).map (·.1)).Nodup := by
      have := nd
      rw [List.map_append, List.nodup_append, infoLed_append] at this
      simpa [infoLed, List.append_assoc] using this.2.1
    have nd3 := nd2
    rw [List.map_append, List.nodup_append] at nd3
    have nd4 := nd3.2.1
    rw [List.map_cons, List.nodup_cons, List.map_cons, List.nodup_cons] at nd4
    have xd : q.x ≠ q.dx := fun e => nd4.1 (by rw [List.mem_cons]; exact .inl e)
    have d2 : ∀ p ∈ infoLed w pre2, p.1 ≠ q.dx := fun p hp => nodup_ne nd2 hp (.tail _ (.head _))
    have d3 : ∀ p ∈ infoLed w post2 ++ rest, p.1 ≠ q.dx := fun p hp e => nd4.2.1 (List.mem_map.mpr ⟨p, hp, e⟩)
    refine meet_old B F X (fun p hp => N p (small p hp)) T hf hke hd lo hv (by rw [hv]; rfl) xd (d1 _ m1) (d1 _ m2) (d1 _ mi) fun tk h' tk' F' N' kp => ?_
    have mg := fun {p : Addr × Obj} (hp : p ∈ (pre ++ (ia, oD) :: post) ++ (infoLed w (pre2 ++ q :: post2) ++ rest)) => merge (small := [(q.x, instObj 38 q.dx), (q.dx, dictOf (recEs w q.r q.tr) 9), (sv, instObj 73 sd), (sd, dictOf [ent w (Str.ofString "infos") ts (.ref ia)] 1), (ia, oD)]) N small kp hp
    have keepN : ∀ p ∈ (pre ++ (ia, oD) :: post) ++ (infoLed w (pre2 ++ q :: post2) ++ rest), p.1 ≠ q.dx → h'.get? p.1 = some p.2 ∧ p.1 ≠ L ∧ h₀.get? p.1 = none := by
      intro p hp hne
      rcases mg hp with hm | hm
      · simp only [List.mem_cons, List.not_mem_nil, or_false] at hm
        rcases hm with rfl | rfl | rfl | rfl | rfl
        · exact N' _ (.head _)
        · exact absurd rfl hne
        · exact N' _ (.tail _ (.tail _ (.head _)))
        · exact N' _ (.tail _ (.tail _ (.tail _ (.head _))))
        · exact N' _ (.tail _ (.tail _ (.tail _ (.tail _ (.head _)))))
      · exact hm
    have e1 : kvsOf (pre2 ++ { q with r := { q.r with goal := goal, count := q.r.count + count, chunk := chunk }, tr := tk } :: post2) = kvsOf (pre2 ++ q :: post2) := by simp [kvsOf]
    have ea : ∀ l : List Info, ((infoLed w (pre2 ++ { q with r := { q.r with goal := goal, count := q.r.count + count, chunk := chunk }, tr := tk } :: post2)).map (·.1)) = ((infoLed w (pre2 ++ q :: post2)).map (·.1)) := by
      intro l; rw [infoLed_append, infoLed_append]; simp [infoLed]
    refine h oD (pre2 ++ { q with r := { q.r with goal := goal, count := q.r.count + count, chunk := chunk }, tr := tk } :: post2) h' tk' F' ?_ (by rw [e1]; exact hd) ?_ ?_
    · rw [hg]
      intro p hp
      rw [infoLed_append] at hp
      rcases List.mem_append.mp hp with hp | hp
      · exact keepN p (List.mem_append_left _ hp) (d1 p hp)
      · rcases List.mem_append.mp hp with hp | hp
        · rcases List.mem_append.mp hp with hp | hp
          · exact keepN p (List.mem_append_right _ (List.mem_append_left _ (by rw [infoLed_append]; exact List.mem_append_left _ hp))) (d2 p hp)
          · rcases List.mem_cons.mp hp with rfl | hp
            · exact N' _ (.head _)
            · rcases List.mem_cons.mp hp with rfl | hp
              · exact N' _ (.tail _ (.head _))
              · exact keepN p (List.mem_append_right _ (List.mem_append_left _ (by rw [infoLed_append]; exact List.mem_append_right _ (.tail _ (.tail _ hp))))) (d3 p (List.mem_append_left _ hp))
        · exact keepN p (List.mem_append_right _ (List.mem_append_right _ hp)) (d3 p (List.mem_append_right _ hp))
    · have kother : ∀ p ∈ pre2 ++ post2, p.k ≠ k := by
        rw [List.map_append, List.map_cons, List.nodup_append, List.nodup_cons] at knd
        intro p hp e
        rcases List.mem_append.mp hp with hp | hp
        · exact knd.2.2 p.k (List.mem_map.mpr ⟨p, hp, rfl⟩) q.k (.head _) (e.trans hqk.symm)
        · exact knd.2.1.1 (List.mem_map.mpr ⟨p, hp, e.trans hqk.symm⟩)
      have mem' : ∀ p, p ∈ pre2 ++ post2 → p ∈ pre2 ++ q :: post2 := fun p hp => by
        rcases List.mem_append.mp hp with hp | hp
        · exact List.mem_append_left _ hp
        · exact List.mem_append_right _ (.tail _ hp)
      refine ⟨?_, ?_, ⟨_, List.mem_append_right _ (.head _), hqk⟩, ?_, ?_⟩
      · intro p hp
        rcases List.mem_append.mp hp with hp | hp
        · rw [recOf_other _ _ _ (kother p (List.mem_append_left _ hp)).symm]; exact hr p (mem' p (List.mem_append_left _ hp))
        · rcases List.mem_cons.mp hp with rfl | hp
          · refine ⟨?_, hq.2⟩
            show recOf _ q.k = _
            rw [hqk]
            have := recOf_this rows ⟨k, first, goal, chunk, count⟩
            rw [this]
            show upd (recOf rows k) _ = _
            rw [← hqk, hq.1]; rfl
          · rw [recOf_other _ _ _ (kother p (List.mem_append_right _ hp)).symm]; exact hr p (mem' p (List.mem_append_right _ hp))
      · intro p hp
        rcases List.mem_append.mp hp with hp | hp
        · exact ⟨p, List.mem_append_left _ hp, rfl⟩
        · rcases List.mem_cons.mp hp with rfl | hp
          · exact ⟨_, List.mem_append_right _ (.head _), rfl⟩
          · exact ⟨p, List.mem_append_right _ (.tail _ hp), rfl⟩
      · intro p hp
        rcases List.mem_append.mp hp with hp | hp
        · exact .inr ⟨p, mem' p (List.mem_append_left _ hp), rfl⟩
        · rcases List.mem_cons.mp hp with rfl | hp
          · exact .inl hqk
          · exact .inr ⟨p, mem' p (List.mem_append_right _ hp), rfl⟩
      · simp
    · rw [hg, List.map_append, List.map_append (l₁ := infoLed w _), ea []]
      rw [← List.map_append, ← List.map_append]
      exact nd
  · have hk' : ∀ q ∈ infos, q.k ≠ k := fun q hq e => hk ⟨q, hq, e⟩
    have hv := valueAt_kvs_none hk'
    have small : ∀ p ∈ [(sv, instObj 73 sd), (sd, dictOf [ent w (Str.ofString "infos") ts (.ref ia)] 1), (ia, oD)], p ∈ (pre ++ (ia, oD) :: post) ++ (infoLed w infos ++ rest) := by
      intro p hp
      simp only [List.mem_cons, List.not_mem_nil, or_false] at hp
      rcases hp with rfl | rfl | rfl
      · exact List.mem_append_left _ m1
      · exact List.mem_append_left _ m2
      · exact List.mem_append_left _ mi
    have nsv : sv ≠ sd := fun e => by
      have e1 := (N _ (List.mem_append_left _ m1)).1
      have e2 := (N _ (List.mem_append_left _ m2)).1
      rw [show (sv, instObj 73 sd).1 = sd from e, e2] at e1
      cases e1
    have msv : sv ≠ ia := fun e => by
      have e1 := (N _ (List.mem_append_left _ m1)).1
      obtain ⟨o, es, ep, ho, hex, hdat, hkeys, _⟩ := kda_dict N (List.mem_append_left _ mi) hd
      rw [show (sv, instObj 73 sd).1 = ia from e, ho] at e1
      have e2 : o.data = (instObj 73 sd).data := congrArg Obj.data (Option.some.inj e1)
      rw [hdat] at e2
      cases e2
    have msd : sd ≠ ia := fun e => by
      have e1 := (N _ (List.mem_append_left _ m2)).1
      obtain ⟨o, es, ep, ho, hex, hdat, hkeys, _⟩ := kda_dict N (List.mem_append_left _ mi) hd
      rw [show (sd, dictOf [ent w (Str.ofString "infos") ts (.ref ia)] 1).1 = ia from e, ho] at e1
      have e2 : o.data = (dictOf [ent w (Str.ofString "infos") ts (.ref ia)] 1).data := congrArg Obj.data (Option.some.inj e1)
      rw [hdat] at e2
      have e3 : es = #[ent w (Str.ofString "infos") ts (.ref ia)] := by injection e2
      obtain ⟨k, hk, _⟩ := hkeys (ent w (Str.ofString "infos") ts (.ref ia)) (by rw [e3]; simp)
      cases hk
    refine meet_new B F X (fun p hp => N p (small p hp)) T hf hke hd lo (by rw [sizeLine_eq]; unfold kvsOf; rw [List.length_map]; omega) hv (by rw [hv]; rfl) nsv msv msd fun x dx oD' tk h' tk' F' N' hd' kp fdx fx hlt => ?_
    have keepN : ∀ p ∈ (pre ++ (ia, oD) :: post) ++ (infoLed w infos ++ rest), p.1 ≠ ia → h'.get? p.1 = some p.2 ∧ p.1 ≠ L ∧ h₀.get? p.1 = none := by
      intro p hp hne
      rcases merge N small kp hp with hm | hm
      · simp only [List.mem_cons, List.not_mem_nil, or_false] at hm
        rcases hm with rfl | rfl | rfl
        · exact N' _ (.tail _ (.tail _ (.head _)))
        · exact N' _ (.tail _ (.tail _ (.tail _ (.head _))))
        · exact absurd rfl hne
      · exact hm
    have d1 : ∀ p ∈ infoLed w infos ++ rest, p.1 ≠ ia := fun p hp => (nodup_ne nd mi hp).symm
    refine h oD' (infos ++ [⟨k, x, dx, { var := k, first := first, kind := Str.ofString "temp", goal := goal, count := count, chunk0 := chunk, chunk := chunk }, tk⟩]) h' tk' F' ?_ ?_ ?_ ?_
    · rw [hg, infoLed_append]
      intro p hp
      rcases List.mem_append.mp hp with hp | hp
      · rcases List.mem_append.mp hp with hp | hp
        · exact keepN p (List.mem_append_left _ (List.mem_append_left _ hp)) (na p hp)
        · rcases List.mem_cons.mp hp with rfl | hp
          · exact N' _ (.tail _ (.tail _ (.tail _ (.tail _ (.head _)))))
          · exact keepN p (List.mem_append_left _ (List.mem_append_right _ (.tail _ hp))) (nb p hp)
      · rcases List.mem_append.mp hp with hp | hp
        · rcases List.mem_append.mp hp with hp | hp
          · exact keepN p (List.mem_append_right _ (List.mem_append_left _ hp)) (d1 p (List.mem_append_left _ hp))
          · rcases List.mem_cons.mp hp with rfl | hp
            · exact N' _ (.head _)
            · rcases List.mem_cons.mp hp with rfl | hp
              · exact N' _ (.tail _ (.head _))
              · cases hp
        · exact keepN p (List.mem_append_right _ (List.mem_append_right _ hp)) (d1 p (List.mem_append_right _ hp))
    · rw [stored_new hk'] at hd'
      simpa [kvsOf] using hd'
    · have hno : recOf rows k = none := recOf_none rows k fun r hr e => by
        obtain ⟨q, hq, hqk⟩ := hall r hr
        exact hk' q hq (hqk.trans e)
      refine ⟨?_, fun q hq => ⟨q, List.mem_append_left _ hq, rfl⟩, ⟨_, List.mem_append_right _ (.head _), rfl⟩, ?_, by simp⟩
      · intro p hp
        rcases List.mem_append.mp hp with hp | hp
        · rw [recOf_other _ _ _ (hk' p hp).symm]; exact hr p hp
        · rw [List.mem_singleton.mp hp]
          refine ⟨?_, rfl⟩
          show recOf _ k = _
          have := recOf_this rows ⟨k, first, goal, chunk, count⟩
          rw [this]
          show upd (recOf rows k) _ = _
          rw [hno]; rfl
      · intro p hp
        rcases List.mem_append.mp hp with hp | hp
        · exact .inr ⟨p, hp, rfl⟩
        · rw [List.mem_singleton.mp hp]; exact .inl rfl
    · have hx := not_in N fx
      have hdx := not_in N fdx
      have e1 : (pre ++ (ia, oD') :: post).map (·.1) = (pre ++ (ia, oD) :: post).map (·.1) := by simp
      rw [hg, List.map_append, e1, ← List.map_append]
      have perm : (((pre ++ (ia, oD) :: post) ++ (infoLed w (infos ++ [⟨k, x, dx, { var := k, first := first, kind := Str.ofString "temp", goal := goal, count := count, chunk0 := chunk, chunk := chunk }, tk⟩]) ++ rest)).map (·.1)).Perm (x :: dx :: (((pre ++ (ia, oD) :: post) ++ (infoLed w infos ++ rest)).map (·.1))) := by
        rw [infoLed_append]
        simp only [infoLed, List.map_append, List.map_cons, List.map_nil, List.append_assoc, List.cons_append, List.nil_append]
        exact perm2 _ _ _ _ _ _ _
      rw [perm.nodup_iff, List.nodup_cons, List.nodup_cons]
      refine ⟨?_, hdx, nd⟩
      rw [List.mem_cons, not_or]
      exact ⟨Nat.ne_of_gt hlt, hx⟩
end
end
section
def lawDef : Stmt := (PP.main.body.getLast?).getD (.Pass ⟨0, 0, 0, 0⟩)
def bodyOf : Stmt → List Stmt
  | .FunctionDef _ _ b _ _ _ _ _ _ _ => b
  | .For _ _ b _ _ => b
  | _ => []
def scopeOf : Stmt → Scope
  | .FunctionDef _ _ _ _ _ _ sc _ _ _ => sc
  | _ => default
def lawStmt (i : Nat) : Stmt := ((bodyOf lawDef)[i]?).getD (.Pass ⟨0, 0, 0, 0⟩)
def turnBody : List Stmt := bodyOf (lawStmt 5)
abbrev lawEnv (L fa : Addr) (cd : Value) : Env := envOfC (Str.ofString "law") (scopeOf lawDef) L fa cd

structure Ad where
  ml : Addr
  ia : Addr
  sv : Addr
  sd : Addr
  c : Addr
  ts : Tok
structure St where
  rows : List RowAt
  infos : List Info
  goal : Int
  chunk : Int
  tg : Tok
  tc : Tok
  vs : List Value
  ns : List Int
  n : Nat
  oN : Obj
  oD : Obj
  oF : Obj
  oO : Obj
  oC : Obj
abbrev lits (w : World) (L : Addr) (a : Ad) (z : St) (vs : List Value) (n : Nat) (oN oD : Obj) : List (Addr × Obj) :=
  [(a.ml, listOf (z.rows.map fun r => Value.ref r.a).toArray z.rows.length), (a.ia, oD), (a.sv, instObj 73 a.sd), (a.sd, dictOf [ent w (Str.ofString "infos") a.ts (.ref a.ia)] 1), (a.c, listOf vs.toArray n),
   (L + 1 + 1 + 1 + 1, z.oF), (L + 1 + 1 + 1, z.oO), (L + 1 + 1, z.oC), (L + 1, oN)]
def led (w : World) (L : Addr) (a : Ad) (z : St) : List (Addr × Obj) := lits w L a z z.vs z.n z.oN z.oD ++ (infoLed w z.infos ++ rowLed z.rows)

structure RowsOk (goal chunk : Int) (rows : List Row) : Prop where
  small : ∀ r ∈ rows, 0 ≤ r.number ∧ r.number < 8 ∧ 1 ≤ r.many ∧ r.goal ≤ goal ∧ r.chunk ≤ chunk
  words : ∀ r ∈ rows, PyData.strOk r.word = true
  sorted : rows.Pairwise fun a b => a.goal ≤ b.goal ∧ a.chunk ≤ b.chunk
structure MainOk (w : World) (L : Addr) (a : Ad) (z : St) (i : Nat) (m : Str → Option Value) : Prop where
  dict : z.oD.IsDictOf (PySem.intKind PySem.Challenge.rw_rh0064_01.row.prog w) (kvsOf z.infos)
  lo : (a.ia == sysModules) = false
  recs : ∀ q ∈ z.infos, recOf (z.rows.map (·.row)) q.k = some q.r ∧ q.r.var = q.k
  all : ∀ r ∈ z.rows.map (·.row), ∃ q ∈ z.infos, q.k = r.number
  only : ∀ q ∈ z.infos, ∃ r ∈ z.rows.map (·.row), r.number = q.k
  nodup : ((led w L a z).map (·.1)).Nodup
  len : z.rows.length = i
  ilen : z.infos.length ≤ i
  rows : RowsOk z.goal z.chunk (z.rows.map (·.row))
  cints : IntsAre z.vs z.ns
  nlen : z.ns.length ≤ 2000
  cF : ∃ v, z.oF.data = .cell v
  cO : ∃ v, z.oO.data = .cell v
  cC : ∃ v, z.oC.data = .cell v
  cN : ∃ v, z.oN.data = .cell v
  mv1 : m (Str.ofString "coins") = some (.ref a.c)
  mv2 : m (Str.ofString "survey") = some (.ref a.sv)
  mv3 : m (Str.ofString "meetings") = some (.ref a.ml)
  mv4 : m (Str.ofString "goal") = some (.int z.goal z.tg)
  mv5 : m (Str.ofString "chunk") = some (.int z.chunk z.tc)
def MainJ (w : World) (L : Addr) (a : Ad) (i : Nat) (m : Str → Option Value) (news : List (Addr × Obj)) : Prop := ∃ z, news = led w L a z ∧ MainOk w L a z i m

theorem fr_see {h₀ h : Heap} {L : Addr} {m : Str → Option Value} (ps : List (Str × Value)) (F : Fr h₀ L h m) (hp : ∀ p ∈ ps, m p.1 = some p.2) : Fr h₀ L h (fun y => match ps.lookup y with | some v => some v | none => m y) := by
  have e : (fun y => match ps.lookup y with | some v => some v | none => m y) = m := by
    funext y
    induction ps with
    | nil => rfl
    | cons p r ih =>
      rw [List.lookup_cons]
      cases hb : (y == p.1) with
      | true => rw [eq_of_beq hb]; exact (hp p (.head _)).symm
      | false => exact ih fun q hq => hp q (.tail _ hq)
  rw [e]; exact F

/-- two places that differ (kept out of omega's sight) -/
structure NE (a b : Nat) : Prop where
  out : a ≠ b
/-- what must differ from the places that a turn writes -/
theorem led_ne {w : World} {L : Addr} {a : Ad} {z : St} {I : Addr} (nd : ((led w L a z).map (·.1)).Nodup) (off : ∀ p ∈ led w L a z, p.1 ≠ I) :
    (NE a.ml a.ia ∧ NE a.ml a.sv ∧ NE a.ml a.sd ∧ NE a.ml a.c ∧ NE a.ml (L + 1 + 1 + 1 + 1) ∧ NE a.ml (L + 1 + 1 + 1) ∧ NE a.ml (L + 1 + 1) ∧ NE a.ml (L + 1) ∧ NE a.ml I) ∧
    (NE a.c a.ia ∧ NE a.c a.sv ∧ NE a.c a.sd ∧ NE a.c (L + 1 + 1 + 1 + 1) ∧ NE a.c (L + 1 + 1 + 1) ∧ NE a.c (L + 1 + 1) ∧ NE a.c (L + 1) ∧ NE a.c I) ∧
    (NE (L + 1) a.ia ∧ NE (L + 1) a.sv ∧ NE (L + 1) a.sd ∧ NE (L + 1) I) ∧ (NE a.ia a.sv ∧ NE a.ia a.sd ∧ NE a.ia I ∧ NE a.ia (L + 1 + 1 + 1 + 1) ∧ NE a.ia (L + 1 + 1 + 1) ∧ NE a.ia (L + 1 + 1)) ∧
    OwnOff (infoLed w z.infos ++ rowLed z.rows) [a.ml, a.ia, a.sv, a.sd, a.c, L + 1 + 1 + 1 + 1, L + 1 + 1 + 1, L + 1 + 1, L + 1, I] := by
  have o : ∀ b ∈ (lits w L a z z.vs z.n z.oN z.oD).map (·.1), (@Ne Nat b I) := fun b hb => by
    obtain ⟨p, hp, rfl⟩ := List.mem_map.mp hb
    exact off p (List.mem_append_left _ hp)
  simp only [List.map_cons, List.map_nil, List.forall_mem_cons] at o
  have nd0 := nd
  unfold led at nd
  rw [List.map_append, List.nodup_append] at nd
  obtain ⟨n1, n2, n3⟩ := nd
  simp only [List.map_cons, List.map_nil, List.nodup_cons, List.mem_cons, List.not_mem_nil, or_false, not_or, List.nodup_nil, and_true] at n1
  have sy : ∀ {x y : Nat}, ¬ (x = y) → NE y x := fun h => ⟨fun e => h e.symm⟩
  obtain ⟨⟨a1, a2, a3, a4, a5, a6, a7, a8⟩, ⟨b1, b2, b3, b4, b5, b6, b7⟩, ⟨c1, c2, c3, c4, c5, c6⟩, ⟨d1, d2, d3, d4, d5⟩, ⟨e1, e2, e3, e4⟩, _⟩ := n1
  obtain ⟨o1, o2, o3, o4, o5, o6, o7, o8, o9, _⟩ := o
  refine ⟨⟨⟨a1⟩, ⟨a2⟩, ⟨a3⟩, ⟨a4⟩, ⟨a5⟩, ⟨a6⟩, ⟨a7⟩, ⟨a8⟩, ⟨o1⟩⟩, ⟨sy b3, sy c2, sy d1, ⟨e1⟩, ⟨e2⟩, ⟨e3⟩, ⟨e4⟩, ⟨o5⟩⟩, ⟨sy b7, sy c6, sy d5, ⟨o9⟩⟩, ⟨⟨b1⟩, ⟨b2⟩, ⟨o2⟩, ⟨b4⟩, ⟨b5⟩, ⟨b6⟩⟩, ?_⟩
  intro p hp b hb
  have hp' : p.1 ∈ (infoLed w z.infos ++ rowLed z.rows).map (·.1) := List.mem_map.mpr ⟨p, hp, rfl⟩
  rw [show [a.ml, a.ia, a.sv, a.sd, a.c, L + 1 + 1 + 1 + 1, L + 1 + 1 + 1, L + 1 + 1, L + 1, I] = ((lits w L a z z.vs z.n z.oN z.oD).map (·.1)) ++ [I] from rfl, List.mem_append] at hb
  rcases hb with hb | hb
  · exact fun e => n3 b hb p.1 hp' e.symm
  · rw [List.mem_singleton.mp hb]; exact off p (List.mem_append_right _ hp)
end
section
local macro_rules | `(tactic| walk_at "MY NOTHING") => `(tactic| fail)
local macro_rules | `(tactic| walk_at "call ref") => `(tactic| (k_here; (with_reducible show wpAny _ _ (call (Value.ref 105) _) _ _ _); k_dflt (refine' coin_step ?k1 ?k2 ?k3 ?k4 ?k5 ?k6 ?k7 ?k8 ?k9 ?k10 ?k11 ?k12 ?_; (case k1 => k_asm); (case k2 => k_asm); (case k3 => k_asm); (case k4 => k_asm); (case k5 => k_asm); (case k6 => exact rfl); (case k7 => exact rfl); (case k8 => k_updF); (case k9 => assumption); (case k10 => decide); (case k11 => decide); (case k12 => assumption)); intro r1 t1 vs1 ns1 n1 h1 tk1 hr1 hr2 hI1 hlen1 F1 N1; (try dsimp only at N1 F1); (try dsimp only); (try k_sweep)))
local macro_rules | `(tactic| walk_at "call ref") => `(tactic| (k_here; (with_reducible show wpAny _ _ (call (Value.ref 63) _) _ _ _); refine Stop.out ?_))

local macro_rules | `(tactic| k_ne) => `(tactic| (refine neN ?_; (try dsimp only); first | exact NE.out (by assumption) | exact (NE.out (by assumption)).symm | omega))

theorem item_word {w : World} {A : Around} {E : Value → Shared → Prop} {s : Shared} {h₀ : Heap} {L l : Addr} {news : List (Addr × Obj)} {vs : List Value} {n : Nat} {r : Int} {t : Tok} {value slice : PySem.Expr} {Q : Value → Shared → Prop}
    (N : News h₀ L s.heap news) (hp : (l, listOf vs.toArray n) ∈ news) (h0 : 0 ≤ r) (hr : r < (vs.length : Int)) (hv : vs.length ≤ 100) (hstr : ∀ v ∈ vs, ∃ x u, v = .str x u ∧ PyData.strOk x = true) (h : ∀ x u, PyData.strOk x = true → Q (.str x u) s)
    (hs : subscripted slice false (.ref l) (.int r t) = operate [.ref l, .int r t] (getItem (.ref l) (.int r t)) := by with_unfolding_all rfl) (hg : ∀ q, letTemporaryGo value (.ref l) q = pure () := by intro _; with_unfolding_all rfl) :
    wpAny (model PP w) A (subscriptTail value slice (.ref l) (.int r t)) Q E s := by
  have hL : s.heap.IsList l vs.toArray := ⟨_, N.get hp, rfl, _, rfl⟩
  have hlt : r.toNat < vs.length := by omega
  obtain ⟨x, u, e, hx⟩ := hstr _ (List.getElem_mem hlt)
  exact subscriptTail_builtin hL.typeIs slot_list_getitem.lookup (wpAny_getItem_list hL h0 (by omega) (by simp [hlt]; exact e) (h x u hx)) hs hg
local macro_rules | `(tactic| walk_at "last subscriptTail") => `(tactic| (k_here; (with_reducible show wpAny _ _ (subscriptTail _ _ (Value.ref _) (Value.int _ _)) _ _ _); k_dflt (refine item_word (by k_asm) (by k_mem) (by assumption) (by assumption) (Nat.le_of_ble_eq_true rfl) (by intro v hv; simp only [List.mem_cons, List.not_mem_nil, or_false] at hv; rcases hv with rfl | rfl | rfl | rfl | rfl <;> exact ⟨_, _, rfl, by decide +kernel⟩) ?_); (intro x1 u1 hx1); (try dsimp only)))

theorem meet_turn {w : World} {mean : ExcName → Option Value} {mg mb : Str → Option Value} {base h₀ : Heap} {env : Env} {L : Addr} {m m0 : Str → Option Value} {s : Shared} {Q : Value → Shared → Prop} {E : Value → Shared → Prop} {a : Ad} {z : St} {i : Nat} {I l' : Addr} {oI ol oN : Obj} {vs : List Value} {n : Nat} {dyn : List (Addr × Obj)}
    {goal chunk count k : Int} {first : Str} {t1 t2 t3 t4 t5 : Tok}
    (B : Below callerA base [] h₀) (F : Fr h₀ L s.heap m) (X : (hd.heap_39 w.params).In h₀) (N : News h₀ L s.heap ((l', ol) :: (I, oI) :: (lits w L a z vs n oN z.oD ++ dyn))) (T : TT mean mg mb h₀) (hf : env.frame = some L) (hke : env.scope.kind = .function)
    (hdyn : dyn = infoLed w z.infos ++ rowLed z.rows) (ok : MainOk w L a z i m0) (hi : i < 23) (off : ∀ p ∈ led w L a z, p.1 ≠ I)
    (h : ∀ oD' infos' dyn' h' tk', Fr h₀ L h' m → News h₀ L h' ((I, oI) :: (lits w L a z vs n oN oD' ++ dyn')) → dyn' = infoLed w infos' ++ rowLed z.rows → OwnOff dyn' [a.ml] → oD'.IsDictOf (PySem.intKind PySem.Challenge.rw_rh0064_01.row.prog w) (kvsOf infos') →
      Met w (z.rows.map (·.row)) ⟨k, first, goal, chunk, count⟩ z.infos infos' → ((((I, oI) :: (lits w L a z vs n oN oD' ++ (infoLed w infos' ++ rowLed z.rows))).map (·.1)).Nodup) → Q .none { s with heap := h', toks := tk' }) :
    wpAny (model PySem.Challenge.rw_rh0064_01.row.prog w) (callerA.deeper env) (call (.ref 63) [.ref a.sv, .int k t1, .str first t2, .int goal t3, .int chunk t4, .int count t5] []) Q E s := by
  have nd1 : (I :: (led w L a z).map (·.1)).Nodup := List.nodup_cons.mpr ⟨fun hm => by
    obtain ⟨p, hp, e⟩ := List.mem_map.mp hm
    exact off p hp e, ok.nodup⟩
  subst hdyn
  refine meet_step (sd := a.sd) (ts := a.ts) (lits := (I, oI) :: lits w L a z vs n oN z.oD) (infos := z.infos) (rest := rowLed z.rows) (rows := z.rows.map (·.row)) (g := fun o => (I, oI) :: lits w L a z vs n oN o) B F X (fun p hp => N p (.tail _ hp)) T hf hke ?_ ?_ ?_ ?_ ok.dict ok.lo ?_ ok.recs ok.all ?_
  · obtain ⟨⟨ne1, ne2, ne3, ne4, ne5, ne6, ne7, ne8, ne9⟩, ⟨nf1, nf2, nf3, nf4, nf5, nf6, nf7, nf8⟩, ⟨ng1, ng2, ng3, ng4⟩, ⟨nh1, nh2, nh3, nh4, nh5, nh6⟩, hoff⟩ := led_ne ok.nodup off
    k_updF
  · exact .tail _ (.tail _ (.tail _ (.head _)))
  · exact .tail _ (.tail _ (.tail _ (.tail _ (.head _))))
  · exact nd1
  · have := ok.ilen; omega
  · intro oD' infos' h' tk' F' N' hd' met nd'
    refine h oD' infos' _ h' tk' F' N' rfl ?_ hd' met nd'
    intro p hp b hb
    rw [List.mem_singleton.mp hb]
    exact (nodup_ne (a := (I, oI) :: lits w L a z vs n oN oD') nd' (.tail _ (.head _)) hp).symm

theorem pairwise_snoc {α : Type} {R : α → α → Prop} {l : List α} {x : α} (h : l.Pairwise R) (hx : ∀ y ∈ l, R y x) : (l ++ [x]).Pairwise R :=
  List.pairwise_append.mpr ⟨h, List.pairwise_singleton _ _, fun a ha b hb => by rw [List.mem_singleton.mp hb]; exact hx a ha⟩

theorem turn1_end {w : World} {h₀ h' : Heap} {L : Addr} {m m0 : Str → Option Value} {s : Shared} {Q : Flow → Shared → Prop} {a : Ad} {z : St} {i : Nat} {I D : Addr} {oI oN oD : Obj} {vs : List Value} {ns : List Int} {n tk : Nat} {infos : List Info} {dyn : List (Addr × Obj)}
    {goal chunk many number : Int} {word : Str} {q1 q2 q3 q4 q5 : Tok}
    (ok : MainOk w L a z i m0) (F : Fr h₀ L h' m)
    (N : News h₀ L h' ((D, tupOf [.int number q1, .str word q2, .int goal q3, .int chunk q4, .int many q5]) :: (I, oI) :: (a.ml, listOf ((z.rows.map fun r => Value.ref r.a).toArray.push (.ref D)) (z.rows.length + 1)) :: (a.ia, oD) :: (a.sv, instObj 73 a.sd) :: (a.sd, dictOf [ent w (Str.ofString "infos") a.ts (.ref a.ia)] 1) ::
      (a.c, listOf vs.toArray n) :: (L + 1 + 1 + 1 + 1, z.oF) :: (L + 1 + 1 + 1, z.oO) :: (L + 1 + 1, z.oC) :: (L + 1, oN) :: dyn))
    (hdyn : dyn = infoLed w infos ++ rowLed z.rows) (hd : oD.IsDictOf (PySem.intKind PySem.Challenge.rw_rh0064_01.row.prog w) (kvsOf infos)) (met : Met w (z.rows.map (·.row)) ⟨number, word, goal, chunk, many⟩ z.infos infos)
    (nd : ((((I, oI) :: (lits w L a z vs n oN oD ++ (infoLed w infos ++ rowLed z.rows))).map (·.1)).Nodup)) (hI : IntsAre vs ns) (hlen : ns.length ≤ 2000) (hc : ∃ v, oN.data = .cell v)
    (hlt : ∀ p ∈ (I, oI) :: (lits w L a z vs n oN oD ++ dyn), p.1 < D) (h0 : 0 ≤ number) (h8 : number < 8) (h1 : 1 ≤ many) (hword : PyData.strOk word = true) (hg : z.goal ≤ goal) (hk : z.chunk ≤ chunk)
    (mv1 : m (Str.ofString "coins") = some (.ref a.c)) (mv2 : m (Str.ofString "survey") = some (.ref a.sv)) (mv3 : m (Str.ofString "meetings") = some (.ref a.ml))
    (mv4 : m (Str.ofString "goal") = some (.int goal q3)) (mv5 : m (Str.ofString "chunk") = some (.int chunk q4)) :
    TurnEnd h₀ L (MainJ w L a (i + 1)) I oI s Q .next { s with heap := h', toks := tk } := by
  subst hdyn
  have hnew : led w L a { rows := z.rows ++ [⟨D, ⟨number, word, goal, chunk, many⟩, q1, q2, q3, q4, q5⟩], infos := infos, goal := goal, chunk := chunk, tg := q3, tc := q4, vs := vs, ns := ns, n := n, oN := oN, oD := oD, oF := z.oF, oO := z.oO, oC := z.oC } =
      (a.ml, listOf ((z.rows.map fun r => Value.ref r.a).toArray.push (.ref D)) (z.rows.length + 1)) :: (a.ia, oD) :: (a.sv, instObj 73 a.sd) :: (a.sd, dictOf [ent w (Str.ofString "infos") a.ts (.ref a.ia)] 1) ::
      (a.c, listOf vs.toArray n) :: (L + 1 + 1 + 1 + 1, z.oF) :: (L + 1 + 1 + 1, z.oO) :: (L + 1 + 1, z.oC) :: (L + 1, oN) :: (infoLed w infos ++ (rowLed z.rows ++ [(D, tupOf [.int number q1, .str word q2, .int goal q3, .int chunk q4, .int many q5])])) := by
    simp [led, rowLed]
  refine TurnEnd.intro (news' := led w L a { rows := z.rows ++ [⟨D, ⟨number, word, goal, chunk, many⟩, q1, q2, q3, q4, q5⟩], infos := infos, goal := goal, chunk := chunk, tg := q3, tc := q4, vs := vs, ns := ns, n := n, oN := oN, oD := oD, oF := z.oF, oO := z.oO, oC := z.oC }) F ?_ ?_ ⟨_, rfl, ?_⟩
  · rw [hnew]
    intro p hp
    refine N p ?_
    simp only [List.mem_cons, List.mem_append, List.not_mem_nil, or_false] at hp ⊢
    grind
  · rw [hnew]
    intro p hp e
    have nI := (List.nodup_cons.mp nd).1
    apply nI
    rw [← e]
    have hD : p.1 ≠ D := by
      rw [e]; exact Nat.ne_of_lt (hlt _ (.head _))
    simp only [List.mem_cons, List.mem_append, List.not_mem_nil, or_false] at hp
    simp only [List.map_cons, List.map_append, List.mem_cons, List.mem_append, List.map_nil, List.not_mem_nil, or_false, List.mem_map]
    grind
  · have er : (z.rows ++ [(⟨D, ⟨number, word, goal, chunk, many⟩, q1, q2, q3, q4, q5⟩ : RowAt)]).map (·.row) = z.rows.map (·.row) ++ [⟨number, word, goal, chunk, many⟩] := by simp
    refine { dict := hd, lo := ok.lo, recs := ?_, all := ?_, only := ?_, nodup := ?_, len := ?_, ilen := ?_, rows := ⟨?_, ?_, ?_⟩, cints := hI, nlen := hlen, cF := ok.cF, cO := ok.cO, cC := ok.cC, cN := hc, mv1 := mv1, mv2 := mv2, mv3 := mv3, mv4 := mv4, mv5 := mv5 }
    · dsimp only; rw [er]; exact met.recs
    · dsimp only; rw [er]
      intro r hr
      rcases List.mem_append.mp hr with hr | hr
      · obtain ⟨q, hq, e⟩ := ok.all r hr
        obtain ⟨q', hq', e'⟩ := met.keep q hq
        exact ⟨q', hq', e'.trans e⟩
      · rw [List.mem_singleton.mp hr]; exact met.this
    · dsimp only; rw [er]
      intro q hq
      rcases met.only q hq with e | ⟨q0, hq0, e⟩
      · exact ⟨_, List.mem_append_right _ (.head _), e.symm⟩
      · obtain ⟨r, hr, e'⟩ := ok.only q0 hq0
        exact ⟨r, List.mem_append_left _ hr, e'.trans e⟩
    · rw [hnew]
      have e1 : ((a.ml, listOf ((z.rows.map fun r => Value.ref r.a).toArray.push (.ref D)) (z.rows.length + 1)) :: (a.ia, oD) :: (a.sv, instObj 73 a.sd) :: (a.sd, dictOf [ent w (Str.ofString "infos") a.ts (.ref a.ia)] 1) ::
        (a.c, listOf vs.toArray n) :: (L + 1 + 1 + 1 + 1, z.oF) :: (L + 1 + 1 + 1, z.oO) :: (L + 1 + 1, z.oC) :: (L + 1, oN) :: (infoLed w infos ++ (rowLed z.rows ++ [(D, tupOf [.int number q1, .str word q2, .int goal q3, .int chunk q4, .int many q5])]))).map (·.1) =
        (lits w L a z vs n oN oD ++ (infoLed w infos ++ rowLed z.rows)).map (·.1) ++ [D] := by simp
      rw [e1, List.nodup_append]
      refine ⟨(List.nodup_cons.mp nd).2, by simp, fun x hx y hy => ?_⟩
      rw [List.mem_singleton.mp hy]
      obtain ⟨p, hp, rfl⟩ := List.mem_map.mp hx
      exact Nat.ne_of_lt (hlt p (.tail _ hp))
    · dsimp only; rw [List.length_append, ok.len]; rfl
    · have := met.len; have := ok.ilen; dsimp only; omega
    · dsimp only; rw [er]
      intro r hr
      rcases List.mem_append.mp hr with hr | hr
      · obtain ⟨b1, b2, b3, b4, b5⟩ := ok.rows.small r hr
        exact ⟨b1, b2, b3, Int.le_trans b4 hg, Int.le_trans b5 hk⟩
      · rw [List.mem_singleton.mp hr]
        exact ⟨h0, h8, h1, Int.le_refl _, Int.le_refl _⟩
    · dsimp only; rw [er]
      intro r hr
      rcases List.mem_append.mp hr with hr | hr
      · exact ok.rows.words r hr
      · rw [List.mem_singleton.mp hr]; exact hword
    · dsimp only; rw [er]
      refine pairwise_snoc ok.rows.sorted fun r hr => ?_
      obtain ⟨b1, b2, b3, b4, b5⟩ := ok.rows.small r hr
      exact ⟨Int.le_trans b4 hg, Int.le_trans b5 hk⟩

theorem turn1 {w : World} {mean : ExcName → Option Value} {mg mb : Str → Option Value} {base h₀ : Heap} {L fa : Addr} {cd : Value} {m : Str → Option Value} {s : Shared} {Q : Flow → Shared → Prop} {E : Value → Shared → Prop} {news : List (Addr × Obj)} {a : Ad} {i : Nat} {I : Addr} {oI : Obj} {t : Tok}
    (B : Below callerA base [] h₀) (X : (hd.heap_39 w.params).In h₀) (T : TT mean mg mb h₀) (hi : i < 23) (hJ : MainJ w L a i m news) (F : Fr h₀ L s.heap m) (N : News h₀ L s.heap ((I, oI) :: news)) (off : ∀ p ∈ news, p.1 ≠ I) :
    wpAny (model PySem.Challenge.rw_rh0064_01.row.prog w) (callerA.deeper (lawEnv L fa cd)) (storeName (lawEnv L fa cd) (Str.ofString "lap") (.int (0 + (i : Int)) t))
      (fun _ s₃ => wpAny (model PySem.Challenge.rw_rh0064_01.row.prog w) (callerA.deeper (lawEnv L fa cd)) (execs turnBody (lawEnv L fa cd)) (TurnEnd h₀ L (MainJ w L a (i + 1)) I oI s Q) E s₃) E s := by
  w_top off
  k_with_none
  revert X; k_fill; intro X
  obtain ⟨z, rfl, ok⟩ := hJ
  obtain ⟨⟨ne1, ne2, ne3, ne4, ne5, ne6, ne7, ne8, ne9⟩, ⟨nf1, nf2, nf3, nf4, nf5, nf6, nf7, nf8⟩, ⟨ng1, ng2, ng3, ng4⟩, ⟨nh1, nh2, nh3, nh4, nh5, nh6⟩, hoff⟩ := led_ne ok.nodup off
  obtain ⟨vF, hcF⟩ := ok.cF
  obtain ⟨vO, hcO⟩ := ok.cO
  obtain ⟨vC, hcC⟩ := ok.cC
  obtain ⟨vN, hcN⟩ := ok.cN
  have hints := ok.cints
  have hnlen := ok.nlen
  have hrl : z.rows.length = i := ok.len
  have F1 := fr_see [(Str.ofString "coins", .ref a.c), (Str.ofString "survey", .ref a.sv), (Str.ofString "meetings", .ref a.ml), (Str.ofString "goal", .int z.goal z.tg), (Str.ofString "chunk", .int z.chunk z.tc)] F (by
    intro p hp
    simp only [List.mem_cons, List.not_mem_nil, or_false] at hp
    rcases hp with rfl | rfl | rfl | rfl | rfl
    · exact ok.mv1
    · exact ok.mv2
    · exact ok.mv3
    · exact ok.mv4
    · exact ok.mv5)
  clear F
  obtain ⟨dyn, hdyn⟩ : ∃ d, d = infoLed w z.infos ++ rowLed z.rows := ⟨_, rfl⟩
  unfold led at N
  rw [← hdyn] at N hoff
  simp only [lits, List.cons_append, List.nil_append] at N
  have hs : scopeOf lawDef = Scope.mk _ _ _ _ _ := rfl
  unfold lawEnv
  rw [hs]
  show wpAny _ _ _ (fun _ s₃ => wpAny _ _ (execs (_ :: _) _) _ _ s₃) _ _
  k_unmd; k_fold
  k_steps
  constructor
  rename News _ _ _ _ => N2
  rename Fr _ _ _ _ => F2
  refine meet_turn B F2 X N2 T rfl rfl hdyn ok hi off ?_
  clear N2 F2 hoff hdyn
  intro oD' infos' dyn' h' tk' F3 N3 hdyn' hoff' hd' met nd'
  simp only [lits, List.cons_append, List.nil_append] at N3
  dsimp only
  dsimp only at F3
  k_steps
  rename_i F4 N4
  rename @LT.lt Nat _ I _ ∧ _ => hlt'
  refine turn1_end ok F4 N4 hdyn' hd' met nd' (by assumption) (by assumption) ⟨_, by assumption⟩ (kst_ltOf hlt') (Int.fmod_nonneg_of_pos _ (by decide)) (Int.fmod_lt_of_pos _ (by decide)) (by omega) (by assumption) ?_ (by omega) rfl rfl rfl rfl rfl
  have hg0 := fun x : Int => Int.fmod_nonneg_of_pos x (b := 3) (by decide)
  exact Int.le_add_of_nonneg_right (hg0 _)
end
section
inductive Rel {α β : Type} (R : α → β → Prop) : List α → List β → Prop
  | nil : Rel R [] []
  | cons {a : α} {b : β} {l : List α} {k : List β} : R a b → Rel R l k → Rel R (a :: l) (b :: k)
theorem Rel.snoc {α β : Type} {R : α → β → Prop} {l : List α} {k : List β} (h : Rel R l k) {a : α} {b : β} (e : R a b) : Rel R (l ++ [a]) (k ++ [b]) := by
  induction h with
  | nil => exact .cons e .nil
  | cons x _ ih => exact .cons x ih
theorem Rel.length {α β : Type} {R : α → β → Prop} {l : List α} {k : List β} (h : Rel R l k) : l.length = k.length := by
  induction h with
  | nil => rfl
  | cons _ _ ih => simp [ih]
theorem Rel.mono {α β : Type} {R S : α → β → Prop} {l : List α} {k : List β} (h : Rel R l k) (m : ∀ a ∈ l, ∀ b, R a b → S a b) : Rel S l k := by
  induction h with
  | nil => exact .nil
  | cons e _ ih => exact .cons (m _ (.head _) _ e) (ih fun a ha => m a (.tail _ ha))
theorem Rel.map_eq {α β : Type} {f : α → β} {l : List α} {k : List β} (h : Rel (fun a b => b = f a) l k) : k = l.map f := by
  induction h with
  | nil => rfl
  | cons e _ ih => rw [List.map_cons, ih, e]

def TestEnd (h₀ : Heap) (L : Addr) (m : Str → Option Value) (s : Shared) (led : List (Addr × Obj)) (b : Bool) (ok : Bool) (s' : Shared) : Prop :=
  ok = b ∧ ∃ h' tk', s' = { s with heap := h', toks := tk' } ∧ Fr h₀ L h' m ∧ News h₀ L h' led
def EltEnd (h₀ : Heap) (L : Addr) (m : Str → Option Value) (s : Shared) (led : List (Addr × Obj)) (R : Value → Prop) (y : Value) (s' : Shared) : Prop :=
  R y ∧ ∃ h' tk', s' = { s with heap := h', toks := tk' } ∧ Fr h₀ L h' m ∧ News h₀ L h' led

section
variable {prog : Program} {w : World} {A : Around} {s : Shared} {h₀ : Heap} {L : Addr} {m : Str → Option Value} {env : Env} {ct elt : Expr} {x : Str} {scope : Scope} {cl : List (Str × Addr)} {S : List (Addr × Obj) → Prop} {P : Nat → Value → Prop} {Fin : List Value → List (Addr × Obj) → Prop} {news : List (Addr × Obj)}
theorem compT {n : Nat} (p : Nat → Bool) (R : Nat → Value → Prop) (hS : S news)
    (test : ∀ i v I oI C oC D m₂ ys h tk (E' : Value → Shared → Prop), i < n → P i v → LCg.NsObj oC m₂ → m₂ x = some v → Fr h₀ L h m → News h₀ L h ((I, oI) :: (C, oC) :: (D, LCg.lst ys) :: news) → LCg.Off3 I C D news → ((@Ne Nat I C) ∧ (@Ne Nat I D) ∧ (@Ne Nat C D)) →
      wpAny (model prog w) A (isTrue ct (compEnvC scope cl C env) (eval ct (compEnvC scope cl C env))) (TestEnd h₀ L m { s with heap := h, toks := tk } ((I, oI) :: (C, oC) :: (D, LCg.lst ys) :: news) (p i)) E' { s with heap := h, toks := tk })
    (elts : ∀ i v I oI C oC D m₂ ys h tk (E' : Value → Shared → Prop), i < n → P i v → p i = true → LCg.NsObj oC m₂ → m₂ x = some v → Fr h₀ L h m → News h₀ L h ((I, oI) :: (C, oC) :: (D, LCg.lst ys) :: news) → LCg.Off3 I C D news → ((@Ne Nat I C) ∧ (@Ne Nat I D) ∧ (@Ne Nat C D)) →
      wpAny (model prog w) A (eval elt (compEnvC scope cl C env)) (EltEnd h₀ L m { s with heap := h, toks := tk } ((I, oI) :: (C, oC) :: (D, LCg.lst ys) :: news) (R i)) E' { s with heap := h, toks := tk })
    (fin : ∀ ys, Rel R ((List.range n).filter p) ys → Fin ys news) : LCt.CompRestT prog w A h₀ L m env ct elt x scope cl s S P Fin n 0 [] news := by
  have key : ∀ (j i : Nat) (ys : List Value), i + j = n → Rel R ((List.range i).filter p) ys → LCt.CompRestT prog w A h₀ L m env ct elt x scope cl s S P Fin j i ys news := by
    intro j
    induction j with
    | zero =>
      intro i ys hi hy
      exact LCt.CompRestT.zero (fin ys (by rw [← hi]; exact hy))
    | succ j ih =>
      intro i ys hi hy
      refine LCt.CompRestT.succ ?_
      intro v I oI C oC D m₂ h tk E' hv hC hx F N off ne
      refine wpAny_mono (test i v I oI C oC D m₂ ys h tk E' (by omega) hv hC hx F N off ne) (fun ok s' q => ?_) fun _ _ e => e
      obtain ⟨hok, h', tk', rfl, F', N'⟩ := q
      cases hb : p i with
      | true =>
        rw [hb] at hok
        rw [if_pos hok]
        refine wpAny_mono (elts i v I oI C oC D m₂ ys h' tk' E' (by omega) hv hb hC hx F' N' off ne) (fun y s'' q => ?_) fun _ _ e => e
        obtain ⟨hy', h'', tk'', rfl, F'', N''⟩ := q
        refine ⟨h'', tk'', news, rfl, F'', N'', off, hS, ih (i + 1) _ (by omega) ?_⟩
        rw [List.range_succ, List.filter_append]
        simp only [List.filter_cons, hb, if_true, List.filter_nil]
        exact hy.snoc hy'
      | false =>
        rw [hb] at hok
        rw [if_neg (by rw [hok]; exact Bool.false_ne_true)]
        refine ⟨h', tk', news, rfl, F', N', off, hS, ih (i + 1) _ (by omega) ?_⟩
        rw [List.range_succ, List.filter_append]
        simpa only [List.filter_cons, hb, Bool.false_eq_true, if_false, List.filter_nil, List.append_nil] using hy
  exact key n 0 [] (by omega) .nil

theorem compU {n : Nat} (R : Nat → Value → Prop) (hS : S news)
    (elts : ∀ i v I oI C oC D m₂ ys h tk (E' : Value → Shared → Prop), i < n → P i v → LCg.NsObj oC m₂ → m₂ x = some v → Fr h₀ L h m → News h₀ L h ((I, oI) :: (C, oC) :: (D, LCg.lst ys) :: news) → LCg.Off3 I C D news → ((@Ne Nat I C) ∧ (@Ne Nat I D) ∧ (@Ne Nat C D)) →
      wpAny (model prog w) A (eval elt (compEnvC scope cl C env)) (EltEnd h₀ L m { s with heap := h, toks := tk } ((I, oI) :: (C, oC) :: (D, LCg.lst ys) :: news) (R i)) E' { s with heap := h, toks := tk })
    (fin : ∀ ys, Rel R (List.range n) ys → Fin ys news) : LCg.CompRest prog w A h₀ L m env elt x scope cl s S P Fin n 0 [] news := by
  have key : ∀ (j i : Nat) (ys : List Value), i + j = n → Rel R (List.range i) ys → LCg.CompRest prog w A h₀ L m env elt x scope cl s S P Fin j i ys news := by
    intro j
    induction j with
    | zero =>
      intro i ys hi hy
      exact LCg.CompRest.zero (fin ys (by rw [← hi]; exact hy))
    | succ j ih =>
      intro i ys hi hy
      refine LCg.CompRest.succ ?_
      intro v I oI C oC D m₂ h tk E' hv hC hx F N off ne
      refine wpAny_mono (elts i v I oI C oC D m₂ ys h tk E' (by omega) hv hC hx F N off ne) (fun y s'' q => ?_) fun _ _ e => e
      obtain ⟨hy', h'', tk'', rfl, F'', N''⟩ := q
      refine ⟨h'', tk'', news, rfl, F'', N'', off, hS, ih (i + 1) _ (by omega) ?_⟩
      rw [List.range_succ]
      exact hy.snoc hy'
  exact key n 0 [] (by omega) .nil
end
end
section
def rowData (r : Row) : PyData := .tuple [.int r.number, .str r.word, .int r.goal, .int r.chunk, .int r.many]
theorem canLay_rows (rs : List RowAt) (h : ∀ r ∈ rs, PyData.strOk r.row.word = true) : PyData.canLayAll0 (rs.map fun r => rowData r.row) = true := by
  induction rs with
  | nil => rfl
  | cons r l ih =>
    have e := h r (.head _)
    simp only [List.map_cons, PyData.canLayAll0, rowData, PyData.canLay0, e, Bool.and_true, Bool.true_and]
    exact ih fun q hq => h q (.tail _ hq)
theorem depth_rows (rs : List RowAt) : PyData.depthAll (rs.map fun r => rowData r.row) ≤ 1 := by
  induction rs with
  | nil => exact Nat.zero_le _
  | cons r l ih =>
    have : PyData.depth (rowData r.row) = 1 := by simp [rowData, PyData.depth, PyData.depthAll]
    simp only [List.map_cons, PyData.depthAll, this]
    omega
theorem shaped_rows (rs : List RowAt) (h : ∀ r ∈ rs, PyData.strOk r.row.word = true) : SeqAt.shaped (.list (rs.map fun r => rowData r.row)) = true := by
  unfold SeqAt.shaped
  rw [Bool.and_eq_true]
  refine ⟨canLay_rows rs h, decide_eq_true ?_⟩
  have := depth_rows rs
  simp only [PyData.depth]; omega
theorem eqv_nil (rs : List RowAt) : PyData.eqv (.list (rs.map fun r => rowData r.row)) (.list []) = rs.isEmpty := by
  cases rs <;> simp [PyData.eqv, PyData.eqvAll]

section
variable {w : World} {A : Around} {E : Value → Shared → Prop} {s : Shared} {h₀ : Heap} {L : Addr} {m : Str → Option Value} {news : List (Addr × Obj)} {Q : Value → Shared → Prop}
theorem reads_row (N : News h₀ L s.heap news) {r : RowAt} (hm : (r.a, r.obj) ∈ news) : ∃ as, Reads s.heap (.ref r.a) (rowData r.row) as :=
  ⟨_, reads_tuple_at (News.get N hm) rfl rfl (.cons (.int _ _) (.cons (.str _ _) (.cons (.int _ _) (.cons (.int _ _) (.cons (.int _ _) .nil)))))⟩
theorem reads_rows (N : News h₀ L s.heap news) : ∀ {rs : List RowAt}, (∀ r ∈ rs, (r.a, r.obj) ∈ news) → ∃ as, ReadsAll s.heap (rs.map fun r => Value.ref r.a) (rs.map fun r => rowData r.row) as
  | [], _ => ⟨_, .nil⟩
  | r :: l, hm => by
    obtain ⟨as, h1⟩ := reads_row N (hm r (.head _))
    obtain ⟨bs, h2⟩ := reads_rows N (rs := l) fun q hq => hm q (.tail _ hq)
    exact ⟨_, .cons h1 h2⟩
theorem rows_ne {D e : Addr} {rs : List RowAt} {n k : Nat} (N : News h₀ L s.heap news) (hD : (D, listOf (rs.map fun r => Value.ref r.a).toArray n) ∈ news) (he : (e, listOf #[] k) ∈ news) (hm : ∀ r ∈ rs, (r.a, r.obj) ∈ news) (hw : ∀ r ∈ rs, PyData.strOk r.row.word = true)
    (hu : A.units + 64 < cLine) (h : Q (.bool (!rs.isEmpty)) s) : wpAny (model PP w) A (compareOp .NotEq (.ref D) (.ref e)) Q E s := by
  obtain ⟨as, hr⟩ := reads_rows N hm
  refine ne_dataH (reads_list_at (News.get N hD) rfl rfl hr) (reads_list_at (News.get N he) rfl rfl .nil) (shaped_rows rs hw) rfl hu ?_
  rw [eqv_nil]; exact h
theorem rows_eq {D e : Addr} {rs : List RowAt} {n k : Nat} (N : News h₀ L s.heap news) (hD : (D, listOf (rs.map fun r => Value.ref r.a).toArray n) ∈ news) (he : (e, listOf #[] k) ∈ news) (hm : ∀ r ∈ rs, (r.a, r.obj) ∈ news) (hw : ∀ r ∈ rs, PyData.strOk r.row.word = true)
    (hu : A.units + 64 < cLine) (h : Q (.bool rs.isEmpty) s) : wpAny (model PP w) A (compareOp .Eq (.ref D) (.ref e)) Q E s := by
  obtain ⟨as, hr⟩ := reads_rows N hm
  refine eq_dataH (reads_list_at (News.get N hD) rfl rfl hr) (reads_list_at (News.get N he) rfl rfl .nil) (shaped_rows rs hw) rfl hu ?_
  rw [eqv_nil]; exact h

/-- the first and the last item of a list that is not empty -/
theorem item_first {l : Addr} {v : Value} {vs : List Value} {n : Nat} {t : Tok} {value slice : PySem.Expr} (N : News h₀ L s.heap news) (hp : (l, listOf (v :: vs).toArray n) ∈ news) (h : Q v s)
    (hs : subscripted slice false (.ref l) (.int 0 t) = operate [.ref l, .int 0 t] (getItem (.ref l) (.int 0 t)) := by with_unfolding_all rfl) (hg : ∀ q, letTemporaryGo value (.ref l) q = pure () := by intro _; with_unfolding_all rfl) :
    wpAny (model PP w) A (subscriptTail value slice (.ref l) (.int 0 t)) Q E s := by
  have hL : s.heap.IsList l (v :: vs).toArray := ⟨_, N.get hp, rfl, _, rfl⟩
  exact subscriptTail_builtin hL.typeIs slot_list_getitem.lookup (wpAny_getItem_list hL (Int.le_refl 0) (by decide) (by simp) h) hs hg
theorem item_last {l : Addr} {v : Value} {vs : List Value} {n : Nat} {t : Tok} {value slice : PySem.Expr} (N : News h₀ L s.heap news) (hp : (l, listOf vs.toArray n) ∈ news) (hl : vs.getLast? = some v) (hz : vs.length ≤ 1000) (h : Q v s)
    (hs : subscripted slice false (.ref l) (.int (-1) t) = operate [.ref l, .int (-1) t] (getItem (.ref l) (.int (-1) t)) := by with_unfolding_all rfl) (hg : ∀ q, letTemporaryGo value (.ref l) q = pure () := by intro _; with_unfolding_all rfl) :
    wpAny (model PP w) A (subscriptTail value slice (.ref l) (.int (-1) t)) Q E s := by
  have hL : s.heap.IsList l vs.toArray := ⟨_, N.get hp, rfl, _, rfl⟩
  have hne : vs ≠ [] := fun e => by rw [e] at hl; cases hl
  have hpos : 0 < vs.length := List.length_pos_iff.mpr hne
  have he : ((-1 : Int) + (vs.length : Int)).toNat = vs.length - 1 := by omega
  refine subscriptTail_builtin hL.typeIs slot_list_getitem.lookup (wpAny_getItem_list_neg hL (by decide) (by simp; omega) (by decide) ?_ h) hs hg
  rw [List.size_toArray, he, List.getElem?_toArray, ← List.getLast?_eq_getElem?]
  exact hl
end

section
variable {w : World} {mean : ExcName → Option Value} {mg mb : Str → Option Value} {base h₀ : Heap} {A₀ : Around} {env : Env} {L : Addr} {m : Str → Option Value} {s : Shared} {E : Value → Shared → Prop} {news : List (Addr × Obj)}
theorem kind_step {x dx : Addr} {r : Rec} {tr : Toks} {Q : Value → Shared → Prop}
    (B : Below A₀ base [] h₀) (F : Fr h₀ L s.heap m) (X : (hd.heap_39 w.params).In h₀) (N : News h₀ L s.heap news) (T : TT mean mg mb h₀) (hf : env.frame = some L) (hke : env.scope.kind = .function)
    (m1 : (x, instObj 38 dx) ∈ news) (m2 : (dx, dictOf (recEs w r tr) 9) ∈ news)
    (h : ∀ t h' tk', Fr h₀ L h' m → News h₀ L h' news → Q (.str (kindOf r) t) { s with heap := h', toks := tk' }) :
    wpAny (model PySem.Challenge.rw_rh0064_01.row.prog w) (callerA.deeper env) (call (.ref 84) [.ref x] []) Q E s := by
  have small : ∀ p ∈ [(x, instObj 38 dx), (dx, dictOf (recEs w r tr) 9)], p ∈ news := by
    intro p hp
    simp only [List.mem_cons, List.not_mem_nil, or_false] at hp
    rcases hp with rfl | rfl
    · exact m1
    · exact m2
  refine kind_call B F X (fun p hp => N p (small p hp)) T hf hke fun t h' tk' F' N' kp => h t h' tk' F' fun p hp => ?_
  rcases merge N small kp hp with hm | hm
  · exact N' p hm
  · exact hm

theorem upd_mid {d : Addr} {o o' : Obj} : ∀ {pre post : List (Addr × Obj)}, (∀ p ∈ pre, p.1 ≠ d) → (∀ p ∈ post, p.1 ≠ d) → Upd d o o' (pre ++ (d, o) :: post) (pre ++ (d, o') :: post)
  | [], _, _, h2 => .head h2
  | p :: pre, _, h1, h2 => .tail (h1 p (.head _)) (upd_mid (fun q hq => h1 q (.tail _ hq)) h2)

theorem set_kind {lits rest : List (Addr × Obj)} {pre post : List Info} {q : Info} {K : Str} {t : Tok} {Q : Unit → Shared → Prop}
    (F : Fr h₀ L s.heap m) (X : (hd.heap_39 w.params).In h₀) (N : News h₀ L s.heap (lits ++ (infoLed w (pre ++ q :: post) ++ rest))) (nd : ((lits ++ (infoLed w (pre ++ q :: post) ++ rest)).map (·.1)).Nodup)
    (h : ∀ h' tr' tk', Fr h₀ L h' m → News h₀ L h' (lits ++ (infoLed w (pre ++ { q with r := { q.r with kind := K }, tr := tr' } :: post) ++ rest)) → Q () { s with heap := h', toks := tk' }) :
    wpAny (model PySem.Challenge.rw_rh0064_01.row.prog w) A₀ (setAttr (.ref q.x) (Str.ofString "kind") (.str K t)) Q E s := by
  revert X; k_fill; intro X
  have e0 : ∀ o, lits ++ (infoLed w pre ++ (q.x, instObj 38 q.dx) :: (q.dx, o) :: (infoLed w post ++ rest)) = (lits ++ (infoLed w pre ++ [(q.x, instObj 38 q.dx)])) ++ (q.dx, o) :: (infoLed w post ++ rest) := by intro o; simp
  have e1 : lits ++ (infoLed w (pre ++ q :: post) ++ rest) = (lits ++ (infoLed w pre ++ [(q.x, instObj 38 q.dx)])) ++ (q.dx, dictOf (recEs w q.r q.tr) 9) :: (infoLed w post ++ rest) := by
    rw [infoLed_append, ← e0]; simp [infoLed]
  rw [e1] at N nd
  have nd' := nd
  rw [List.map_append, List.nodup_append] at nd'
  have hpre : ∀ p ∈ lits ++ (infoLed w pre ++ [(q.x, instObj 38 q.dx)]), p.1 ≠ q.dx := fun p hp => nodup_ne nd hp (.head _)
  have hpost : ∀ p ∈ infoLed w post ++ rest, p.1 ≠ q.dx := fun p hp e => by
    have := nd'.2.1
    rw [List.map_cons, List.nodup_cons] at this
    exact this.1 (List.mem_map.mpr ⟨p, hp, e⟩)
  have m1 : (q.x, instObj 38 q.dx) ∈ (lits ++ (infoLed w pre ++ [(q.x, instObj 38 q.dx)])) ++ (q.dx, dictOf (recEs w q.r q.tr) 9) :: (infoLed w post ++ rest) := by simp
  have m2 : (q.dx, dictOf (recEs w q.r q.tr) 9) ∈ (lits ++ (infoLed w pre ++ [(q.x, instObj 38 q.dx)])) ++ (q.dx, dictOf (recEs w q.r q.tr) 9) :: (infoLed w post ++ rest) := by simp
  refine set_dict (es := recEs w q.r q.tr) (n := 9) (es' := recEs w { q.r with kind := K } { q.tr with v1 := t }) (n' := 9) F X N (InstAt.of_news N m1 m2) rfl ?sk1 ?sk2 ?sk3 ?sk4 rfl ?sk5 (upd_mid hpre hpost) (Nat.le_of_ble_eq_true rfl) fun h' F' N' => ?_
  case sk1 => k_dflt k_is
  case sk2 => k_dflt k_is
  case sk3 => k_dflt k_is
  case sk4 => k_dflt k_is
  case sk5 => rfl
  refine h h' { q.tr with v1 := t } _ F' ?_
  have e2 : lits ++ (infoLed w (pre ++ { q with r := { q.r with kind := K }, tr := { q.tr with v1 := t } } :: post) ++ rest) = (lits ++ (infoLed w pre ++ [(q.x, instObj 38 q.dx)])) ++ (q.dx, dictOf (recEs w { q.r with kind := K } { q.tr with v1 := t }) 9) :: (infoLed w post ++ rest) := by
    rw [infoLed_append, ← e0]; simp [infoLed]
  rw [e2]; exact N'
end
end
section
theorem fold_upd (q : Rec) (rows : List Row) : rows.foldl upd (some q) = some { q with goal := (rows.getLast?.map (·.goal)).getD q.goal, count := q.count + (rows.map (·.many)).sum, chunk := (rows.getLast?.map (·.chunk)).getD q.chunk } := by
  induction rows generalizing q with
  | nil => simp
  | cons r l ih =>
    rw [List.foldl_cons]
    show l.foldl upd (some _) = _
    rw [ih]
    congr 1
    cases hl : l.getLast? with
    | none =>
      have : l = [] := List.getLast?_eq_none_iff.mp hl
      subst this
      simp
    | some x =>
      have e : (r :: l).getLast? = some x := by rw [List.getLast?_cons, hl]; rfl
      rw [e]
      simp only [Option.map_some, Option.getD_some, List.map_cons, List.sum_cons]
      congr 1
      omega

theorem recOf_own (rows : List RowAt) (k : Int) (r0 rl : RowAt) (rest : List RowAt) (hos : rows.filter (fun r => decide (r.row.number = k)) = r0 :: rest) (hl : (r0 :: rest).getLast? = some rl) :
    recOf (rows.map (·.row)) k = some { var := k, first := r0.row.word, kind := Str.ofString "temp", goal := rl.row.goal, count := ((r0 :: rest).map (·.row.many)).sum, chunk0 := r0.row.chunk, chunk := rl.row.chunk } := by
  have h0 : r0.row.number = k := by
    have : r0 ∈ rows.filter (fun r => decide (r.row.number = k)) := by rw [hos]; exact .head _
    simpa using (List.mem_filter.mp this).2
  unfold recOf
  rw [List.filter_map]
  have e : (rows.filter ((fun r => decide (r.number = k)) ∘ fun x => x.row)) = r0 :: rest := hos
  rw [e, List.map_cons, List.foldl_cons]
  show (rest.map (·.row)).foldl upd (some _) = _
  rw [fold_upd]
  congr 1
  have hg : (rest.map (·.row)).getLast? = (rest.getLast?).map (·.row) := by rw [List.getLast?_map]
  rw [hg]
  have em : (rest.map (·.row)).map (·.many) = rest.map (·.row.many) := by simp [Function.comp_def]
  cases hr : rest.getLast? with
  | none =>
    have : rest = [] := List.getLast?_eq_none_iff.mp hr
    subst this
    simp at hl
    subst hl
    simp [h0]
  | some x =>
    have e2 : (r0 :: rest).getLast? = some x := by rw [List.getLast?_cons, hr]; rfl
    rw [e2] at hl
    cases hl
    simp only [Option.map_some, Option.getD_some, List.map_cons, List.sum_cons]
    rw [h0]
    simp [Function.comp_def]

theorem sum_ge (l : List RowAt) (h : ∀ r ∈ l, 1 ≤ r.row.many) : (l.length : Int) ≤ (l.map (·.row.many)).sum := by
  induction l with
  | nil => simp
  | cons r l ih =>
    have h1 := h r (.head _)
    have h2 := ih fun q hq => h q (.tail _ hq)
    simp only [List.length_cons, List.map_cons, List.sum_cons]
    push_cast
    omega

structure OwnOk (r0 rl : RowAt) (rest : List RowAt) : Prop where
  many : ∀ r ∈ r0 :: rest, 1 ≤ r.row.many
  mono : ∀ r ∈ r0 :: rest, r0.row.chunk ≤ r.row.chunk ∧ r.row.chunk ≤ rl.row.chunk
abbrev ownRec (k : Int) (r0 rl : RowAt) (rest : List RowAt) (K : Str) : Rec := { var := k, first := r0.row.word, kind := K, goal := rl.row.goal, count := ((r0 :: rest).map (·.row.many)).sum, chunk0 := r0.row.chunk, chunk := rl.row.chunk }
theorem kind_void {k : Int} {r0 rl : RowAt} {rest : List RowAt} {K : Str} (h1 : (r0 :: rest).length = 1) (h2 : r0.row.many = 1) : kindOf (ownRec k r0 rl rest K) = Str.ofString "void" := by
  have : rest = [] := by simpa using h1
  subst this
  unfold kindOf
  rw [if_pos]
  simp [h2]
theorem count_ne {r0 : RowAt} {rest : List RowAt} (ok : ∀ r ∈ r0 :: rest, 1 ≤ r.row.many) (h : ¬ ((r0 :: rest).length = 1 ∧ r0.row.many = 1)) : ((r0 :: rest).map (·.row.many)).sum ≠ 1 := by
  intro e
  rw [List.map_cons, List.sum_cons] at e
  have h1 := sum_ge rest fun r hr => ok r (.tail _ hr)
  have h0 := ok r0 (.head _)
  have hl : rest.length = 0 := by omega
  have : rest = [] := List.length_eq_zero_iff.mp hl
  subst this
  apply h
  simp at e
  exact ⟨rfl, e⟩
theorem kind_perm {k : Int} {r0 rl : RowAt} {rest : List RowAt} {K : Str} (ok : OwnOk r0 rl rest) (h : ¬ ((r0 :: rest).length = 1 ∧ r0.row.many = 1)) (h2 : (r0 :: rest).filter (fun r => decide (r.row.chunk ≠ r0.row.chunk)) ≠ []) : kindOf (ownRec k r0 rl rest K) = Str.ofString "perm" := by
  unfold kindOf
  rw [if_neg (count_ne ok.many h), if_pos]
  obtain ⟨r, hr⟩ := List.exists_mem_of_ne_nil _ h2
  obtain ⟨h3, h4⟩ := List.mem_filter.mp hr
  have := ok.mono r h3
  have h5 : r.row.chunk ≠ r0.row.chunk := by simpa using h4
  show r0.row.chunk < rl.row.chunk
  omega
theorem kind_temp {k : Int} {r0 rl : RowAt} {rest : List RowAt} {K : Str} (ok : OwnOk r0 rl rest) (hl : rl ∈ r0 :: rest) (h : ¬ ((r0 :: rest).length = 1 ∧ r0.row.many = 1)) (h2 : (r0 :: rest).filter (fun r => decide (r.row.chunk ≠ r0.row.chunk)) = []) : kindOf (ownRec k r0 rl rest K) = Str.ofString "temp" := by
  unfold kindOf
  rw [if_neg (count_ne ok.many h), if_neg]
  have := List.filter_eq_nil_iff.mp h2 rl hl
  have h5 : rl.row.chunk = r0.row.chunk := by simpa using this
  show ¬ r0.row.chunk < rl.row.chunk
  omega
theorem ownOk_of {rows : List RowAt} {goal chunk : Int} (ok : RowsOk goal chunk (rows.map (·.row))) {k : Int} {r0 rl : RowAt} {rest : List RowAt} (hos : rows.filter (fun r => decide (r.row.number = k)) = r0 :: rest) (hl : (r0 :: rest).getLast? = some rl) : OwnOk r0 rl rest := by
  have sub : ∀ r ∈ r0 :: rest, r ∈ rows := fun r hr => (List.mem_filter.mp (hos ▸ hr)).1
  have srt : (r0 :: rest).Pairwise fun a b => a.row.chunk ≤ b.row.chunk := by
    rw [← hos]
    refine List.Pairwise.filter _ ?_
    have := ok.sorted
    rw [List.pairwise_map] at this
    exact this.imp fun h => h.2
  refine ⟨fun r hr => (ok.small _ (List.mem_map.mpr ⟨r, sub r hr, rfl⟩)).2.2.1, fun r hr => ⟨?_, ?_⟩⟩
  · rcases List.mem_cons.mp hr with rfl | hr
    · exact Int.le_refl _
    · exact (List.pairwise_cons.mp srt).1 r hr
  · obtain ⟨ini, e⟩ := List.getLast?_eq_some_iff.mp hl
    rw [e] at hr srt
    rcases List.mem_append.mp hr with hr | hr
    · exact (List.pairwise_append.mp srt).2.2 r hr rl (.head _)
    · rw [List.mem_singleton.mp hr]; exact Int.le_refl _
end
section
def checkBody : List Stmt := bodyOf (lawStmt 8)
abbrev lits2 (w : World) (L : Addr) (a : Ad) (ll : Addr) (z : St) (las : List Addr) (nl : Nat) (oN oO oF : Obj) : List (Addr × Obj) :=
  (ll, listOf (las.map Value.ref).toArray nl) :: lits w L a { z with oF := oF, oO := oO } z.vs z.n oN z.oD
def led2 (w : World) (L : Addr) (a : Ad) (ll : Addr) (z : St) (las : List Addr) (nl : Nat) : List (Addr × Obj) := lits2 w L a ll z las nl z.oN z.oO z.oF ++ (infoLed w z.infos ++ rowLed z.rows)
def permAt (infos : List Info) (k : Nat) : Option Addr := (infos.find? fun q => decide (q.k = (k : Int))).bind fun q => if kindOf q.r = Str.ofString "perm" then some q.x else none
structure CheckOk (w : World) (L : Addr) (a : Ad) (ll : Addr) (z : St) (las : List Addr) (nl : Nat) (j : Nat) (m : Str → Option Value) : Prop where
  dict : z.oD.IsDictOf (PySem.intKind PySem.Challenge.rw_rh0064_01.row.prog w) (kvsOf z.infos)
  lo : (a.ia == sysModules) = false
  recs : ∀ q ∈ z.infos, ∃ r, recOf (z.rows.map (·.row)) q.k = some r ∧ q.r = { r with kind := q.r.kind } ∧ q.r.var = q.k ∧ (q.k < (j : Int) → q.r.kind = kindOf q.r)
  all : ∀ r ∈ z.rows.map (·.row), ∃ q ∈ z.infos, q.k = r.number
  only : ∀ q ∈ z.infos, ∃ r ∈ z.rows.map (·.row), r.number = q.k
  nodup : ((led2 w L a ll z las nl).map (·.1)).Nodup
  len : z.rows.length ≤ 23
  ilen : z.infos.length ≤ 23
  rows : RowsOk z.goal z.chunk (z.rows.map (·.row))
  cF : ∃ v, z.oF.data = .cell v
  cO : ∃ v, z.oO.data = .cell v
  cC : z.oC.data = .cell (some (.ref a.ia))
  cN : ∃ v, z.oN.data = .cell v
  mv1 : m (Str.ofString "lasting") = some (.ref ll)
  mv2 : m (Str.ofString "meetings") = some (.ref a.ml)
  las : las = (List.range j).filterMap (permAt z.infos)
def CheckJ (w : World) (L : Addr) (a : Ad) (ll : Addr) (j : Nat) (m : Str → Option Value) (news : List (Addr × Obj)) : Prop := ∃ z las nl, news = led2 w L a ll z las nl ∧ CheckOk w L a ll z las nl j m

/-- what must differ from the places that a turn writes -/
theorem led2_ne {w : World} {L ll : Addr} {a : Ad} {z : St} {las : List Addr} {nl : Nat} {I : Addr} (nd : ((led2 w L a ll z las nl).map (·.1)).Nodup) (off : ∀ p ∈ led2 w L a ll z las nl, p.1 ≠ I) :
    (NE ll a.ml ∧ NE ll a.ia ∧ NE ll a.sv ∧ NE ll a.sd ∧ NE ll a.c ∧ NE ll (L + 1 + 1 + 1 + 1) ∧ NE ll (L + 1 + 1 + 1) ∧ NE ll (L + 1 + 1) ∧ NE ll (L + 1) ∧ NE ll I) ∧
    (NE (L + 1) a.ml ∧ NE (L + 1) a.ia ∧ NE (L + 1) a.sv ∧ NE (L + 1) a.sd ∧ NE (L + 1) a.c ∧ NE (L + 1) I) ∧ (NE (L + 1 + 1 + 1) a.ml ∧ NE (L + 1 + 1 + 1) a.ia ∧ NE (L + 1 + 1 + 1) a.sv ∧ NE (L + 1 + 1 + 1) a.sd ∧ NE (L + 1 + 1 + 1) a.c ∧ NE (L + 1 + 1 + 1) I) ∧
    (NE (L + 1 + 1 + 1 + 1) a.ml ∧ NE (L + 1 + 1 + 1 + 1) a.ia ∧ NE (L + 1 + 1 + 1 + 1) a.sv ∧ NE (L + 1 + 1 + 1 + 1) a.sd ∧ NE (L + 1 + 1 + 1 + 1) a.c ∧ NE (L + 1 + 1 + 1 + 1) I) ∧
    OwnOff (infoLed w z.infos ++ rowLed z.rows) [ll, a.ml, a.ia, a.sv, a.sd, a.c, L + 1 + 1 + 1 + 1, L + 1 + 1 + 1, L + 1 + 1, L + 1, I] := by
  have o : ∀ b ∈ (lits2 w L a ll z las nl z.oN z.oO z.oF).map (·.1), (@Ne Nat b I) := fun b hb => by
    obtain ⟨p, hp, rfl⟩ := List.mem_map.mp hb
    exact off p (List.mem_append_left _ hp)
  simp only [List.map_cons, List.map_nil, List.forall_mem_cons] at o
  unfold led2 at nd
  rw [List.map_append, List.nodup_append] at nd
  obtain ⟨n1, n2, n3⟩ := nd
  simp only [List.map_cons, List.map_nil, List.nodup_cons, List.mem_cons, List.not_mem_nil, or_false, not_or, List.nodup_nil, and_true] at n1
  have sy : ∀ {x y : Nat}, ¬ (x = y) → NE y x := fun h => ⟨fun e => h e.symm⟩
  obtain ⟨⟨l1, l2, l3, l4, l5, l6, l7, l8, l9⟩, ⟨a1, a2, a3, a4, a5, a6, a7, a8⟩, ⟨b1, b2, b3, b4, b5, b6, b7⟩, ⟨c1, c2, c3, c4, c5, c6⟩, ⟨d1, d2, d3, d4, d5⟩, ⟨e1, e2, e3, e4⟩, _⟩ := n1
  obtain ⟨o0, o1, o2, o3, o4, o5, o6, o7, o8, o9, _⟩ := o
  refine ⟨⟨⟨l1⟩, ⟨l2⟩, ⟨l3⟩, ⟨l4⟩, ⟨l5⟩, ⟨l6⟩, ⟨l7⟩, ⟨l8⟩, ⟨l9⟩, ⟨o0⟩⟩, ⟨sy a8, sy b7, sy c6, sy d5, sy e4, ⟨o9⟩⟩, ⟨sy a6, sy b5, sy c4, sy d3, sy e2, ⟨o7⟩⟩, ⟨sy a5, sy b4, sy c3, sy d2, sy e1, ⟨o6⟩⟩, ?_⟩
  intro p hp b hb
  have hp' : p.1 ∈ (infoLed w z.infos ++ rowLed z.rows).map (·.1) := List.mem_map.mpr ⟨p, hp, rfl⟩
  rw [show [ll, a.ml, a.ia, a.sv, a.sd, a.c, L + 1 + 1 + 1 + 1, L + 1 + 1 + 1, L + 1 + 1, L + 1, I] = ((lits2 w L a ll z las nl z.oN z.oO z.oF).map (·.1)) ++ [I] from rfl, List.mem_append] at hb
  rcases hb with hb | hb
  · exact fun e => n3 b hb p.1 hp' e.symm
  · rw [List.mem_singleton.mp hb]; exact off p (List.mem_append_right _ hp)

theorem rel_filter (rows : List RowAt) (p : RowAt → Bool) (ys : List Value)
    (h : Rel (fun i y => ∃ r, rows[i]? = some r ∧ y = Value.ref r.a) ((List.range rows.length).filter (fun i => match rows[i]? with | some r => p r | none => false)) ys) : ys = (rows.filter p).map fun r => Value.ref r.a := by
  have h2 := (h.mono (S := fun i y => y = (match rows[i]? with | some r => Value.ref r.a | none => .none)) fun i _ y e => by
    obtain ⟨r, hr, rfl⟩ := e
    rw [hr]).map_eq
  rw [h2]
  have key : ∀ k, k ≤ rows.length → ((List.range k).filter (fun i => match rows[i]? with | some r => p r | none => false)).map (fun i => (match rows[i]? with | some r => Value.ref r.a | none => .none)) = ((rows.take k).filter p).map fun r => Value.ref r.a := by
    intro k
    induction k with
    | zero => intro _; rfl
    | succ k ih =>
      intro hk
      have hlt : k < rows.length := hk
      have e : rows[k]? = some rows[k] := List.getElem?_eq_getElem hlt
      rw [List.range_succ, List.filter_append, List.map_append, ih (Nat.le_of_lt hlt), List.take_add_one, List.filter_append, List.map_append]
      congr 1
      rw [e]
      simp only [Option.toList_some, List.filter_cons, e, List.filter_nil]
      split <;> simp [e]
  have := key rows.length (Nat.le_refl _)
  rw [List.take_length] at this
  exact this

theorem turn2_end {w : World} {h₀ h' : Heap} {L ll : Addr} {m m0 : Str → Option Value} {s : Shared} {Q : Flow → Shared → Prop} {a : Ad} {z : St} {las las' : List Addr} {nl nl' j : Nat} {I : Addr} {oI oN oO oF : Obj} {infos' : List Info} {big : List (Addr × Obj)} {tk : Nat}
    (ok : CheckOk w L a ll z las nl j m0) (off : ∀ p ∈ led2 w L a ll z las nl, p.1 ≠ I) (F : Fr h₀ L h' m) (N : News h₀ L h' big)
    (sub : ∀ p ∈ (I, oI) :: (lits2 w L a ll z las' nl' oN oO oF ++ (infoLed w infos' ++ rowLed z.rows)), p ∈ big)
    (adr : (infoLed w infos').map (·.1) = (infoLed w z.infos).map (·.1)) (hkv : kvsOf infos' = kvsOf z.infos)
    (recs : ∀ q ∈ infos', ∃ r, recOf (z.rows.map (·.row)) q.k = some r ∧ q.r = { r with kind := q.r.kind } ∧ q.r.var = q.k ∧ (q.k < ((j + 1 : Nat) : Int) → q.r.kind = kindOf q.r))
    (cN : ∃ v, oN.data = .cell v) (cO : ∃ v, oO.data = .cell v) (cF : ∃ v, oF.data = .cell v)
    (mv1 : m (Str.ofString "lasting") = some (.ref ll)) (mv2 : m (Str.ofString "meetings") = some (.ref a.ml))
    (hlas : las' = (List.range (j + 1)).filterMap (permAt infos')) :
    TurnEnd h₀ L (CheckJ w L a ll (j + 1)) I oI s Q .next { s with heap := h', toks := tk } := by
  have hks : infos'.map (·.k) = z.infos.map (·.k) := by
    have := congrArg (List.map (·.1)) hkv
    simpa [kvsOf, Function.comp_def] using this
  have hl : infos'.length = z.infos.length := by
    have := congrArg List.length hks
    simpa using this
  have eadr : ((led2 w L a ll { z with infos := infos', oN := oN, oO := oO, oF := oF } las' nl').map (·.1)) = ((led2 w L a ll z las nl).map (·.1)) := by
    unfold led2
    rw [List.map_append, List.map_append, List.map_append, List.map_append, adr]
    rfl
  have hk1 : ∀ q ∈ infos', ∃ q0 ∈ z.infos, q0.k = q.k := fun q hq => by
    have : q.k ∈ z.infos.map (·.k) := by rw [← hks]; exact List.mem_map.mpr ⟨q, hq, rfl⟩
    obtain ⟨q0, h0, e⟩ := List.mem_map.mp this
    exact ⟨q0, h0, e⟩
  have hk2 : ∀ q0 ∈ z.infos, ∃ q ∈ infos', q.k = q0.k := fun q0 hq => by
    have : q0.k ∈ infos'.map (·.k) := by rw [hks]; exact List.mem_map.mpr ⟨q0, hq, rfl⟩
    obtain ⟨q, h0, e⟩ := List.mem_map.mp this
    exact ⟨q, h0, e⟩
  refine TurnEnd.intro (news' := led2 w L a ll { z with infos := infos', oN := oN, oO := oO, oF := oF } las' nl') F (fun p hp => N p (sub p hp)) ?_ ⟨{ z with infos := infos', oN := oN, oO := oO, oF := oF }, las', nl', rfl, ?_⟩
  · intro p hp e
    have h1 : p.1 ∈ (led2 w L a ll z las nl).map (·.1) := by rw [← eadr]; exact List.mem_map.mpr ⟨p, hp, rfl⟩
    obtain ⟨q, hq, e'⟩ := List.mem_map.mp h1
    exact off q hq (e'.trans e)
  · refine { dict := by rw [hkv]; exact ok.dict, lo := ok.lo, recs := recs, all := ?_, only := ?_, nodup := by rw [eadr]; exact ok.nodup, len := ok.len, ilen := by rw [hl]; exact ok.ilen, rows := ok.rows, cF := cF, cO := cO, cC := ok.cC, cN := cN, mv1 := mv1, mv2 := mv2, las := hlas }
    · intro r hr
      obtain ⟨q0, h0, e⟩ := ok.all r hr
      obtain ⟨q, hq, e'⟩ := hk2 q0 h0
      exact ⟨q, hq, e'.trans e⟩
    · intro q hq
      obtain ⟨q0, h0, e⟩ := hk1 q hq
      obtain ⟨r, hr, e'⟩ := ok.only q0 h0
      exact ⟨r, hr, e'.trans e⟩

theorem permAt_none {infos : List Info} {k : Nat} (h : ∀ q ∈ infos, q.k ≠ (k : Int)) : permAt infos k = none := by
  unfold permAt
  have : (infos.find? fun q => decide (q.k = (k : Int))) = none := List.find?_eq_none.mpr fun q hq => by simpa using h q hq
  rw [this]; rfl

theorem off1_mem {D : Addr} : ∀ {l : List (Addr × Obj)}, LCg.Off1 D l → ∀ p ∈ l, p.1 ≠ D
  | [], _, _, h => nomatch h
  | _ :: _, x, p, h => by
    rcases List.mem_cons.mp h with rfl | h
    · exact x.1
    · exact off1_mem x.2 p h
theorem rows_ne2 {w : World} {A : Around} {E : Value → Shared → Prop} {s : Shared} {h₀ : Heap} {L : Addr} {news dyn : List (Addr × Obj)} {Q : Value → Shared → Prop} {D e : Addr} {rs : List RowAt} {n k : Nat} (N : News h₀ L s.heap news) (hD : (D, listOf (rs.map fun r => Value.ref r.a).toArray n) ∈ news) (he : (e, listOf #[] k) ∈ news) (hs : ∀ p ∈ dyn, p ∈ news) (hm : ∀ r ∈ rs, (r.a, r.obj) ∈ dyn) (hw : ∀ r ∈ rs, PyData.strOk r.row.word = true)
    (hu : A.units + 64 < cLine) (h : Q (.bool (!rs.isEmpty)) s) : wpAny (model PP w) A (compareOp .NotEq (.ref D) (.ref e)) Q E s := rows_ne N hD he (fun r hr => hs _ (hm r hr)) hw hu h
theorem rows_eq2 {w : World} {A : Around} {E : Value → Shared → Prop} {s : Shared} {h₀ : Heap} {L : Addr} {news dyn : List (Addr × Obj)} {Q : Value → Shared → Prop} {D e : Addr} {rs : List RowAt} {n k : Nat} (N : News h₀ L s.heap news) (hD : (D, listOf (rs.map fun r => Value.ref r.a).toArray n) ∈ news) (he : (e, listOf #[] k) ∈ news) (hs : ∀ p ∈ dyn, p ∈ news) (hm : ∀ r ∈ rs, (r.a, r.obj) ∈ dyn) (hw : ∀ r ∈ rs, PyData.strOk r.row.word = true)
    (hu : A.units + 64 < cLine) (h : Q (.bool rs.isEmpty) s) : wpAny (model PP w) A (compareOp .Eq (.ref D) (.ref e)) Q E s := rows_eq N hD he (fun r hr => hs _ (hm r hr)) hw hu h
theorem rel_ints (rows : List RowAt) (ys : List Value) (h : Rel (fun i y => ∃ r, rows[i]? = some r ∧ y = Value.int r.row.many r.t5) (List.range rows.length) ys) : IntsAre ys (rows.map (·.row.many)) := by
  have h2 := (h.mono (S := fun i y => y = (match rows[i]? with | some r => Value.int r.row.many r.t5 | none => .none)) fun i _ y e => by
    obtain ⟨r, hr, rfl⟩ := e
    rw [hr]).map_eq
  rw [h2]
  have key : ∀ k, k ≤ rows.length → (List.range k).map (fun i => (match rows[i]? with | some r => Value.int r.row.many r.t5 | none => .none)) = (rows.take k).map fun r => Value.int r.row.many r.t5 := by
    intro k
    induction k with
    | zero => intro _; rfl
    | succ k ih =>
      intro hk
      have hlt : k < rows.length := hk
      have e : rows[k]? = some rows[k] := List.getElem?_eq_getElem hlt
      rw [List.range_succ, List.map_append, ih (Nat.le_of_lt hlt), List.take_add_one, List.map_append]
      congr 1
      rw [e]
      simp [e]
  rw [key rows.length (Nat.le_refl _), List.take_length]
  clear h h2 key
  induction rows with
  | nil => exact .nil
  | cons r l ih => exact .cons _ _ ih

theorem told_ne {w : World} {A : Around} {E : Value → Shared → Prop} {s : Shared} {h₀ : Heap} {L : Addr} {news : List (Addr × Obj)} {Q : Value → Shared → Prop} {D1 D2 : Addr} {a c d e f : Int} {b : Str} {t1 t2 t3 t4 t5 t6 u1 u2 u3 u4 u5 u6 : Tok}
    (N : News h₀ L s.heap news) (h1 : (D1, tupOf [.int a t1, .str b t2, .int c t3, .int d t4, .int e t5, .int f t6]) ∈ news) (h2 : (D2, tupOf [.int a u1, .str b u2, .int c u3, .int d u4, .int e u5, .int f u6]) ∈ news) (hw : PyData.strOk b = true)
    (hu : A.units + 64 < cLine) (h : Q (.bool false) s) : wpAny (model PP w) A (compareOp .NotEq (.ref D1) (.ref D2)) Q E s := by
  have sh : SeqAt.shaped (.tuple [.int a, .str b, .int c, .int d, .int e, .int f]) = true := by
    unfold SeqAt.shaped
    rw [Bool.and_eq_true]
    refine ⟨by simp [PyData.canLay0, PyData.canLayAll0, hw], by simp [PyData.depth, PyData.depthAll]⟩
  refine ne_dataH (da := .tuple [.int a, .str b, .int c, .int d, .int e, .int f]) (db := .tuple [.int a, .str b, .int c, .int d, .int e, .int f]) (reads_tuple_at (News.get N h1) rfl rfl (.cons (.int _ _) (.cons (.str _ _) (.cons (.int _ _) (.cons (.int _ _) (.cons (.int _ _) (.cons (.int _ _) .nil)))))))
    (reads_tuple_at (News.get N h2) rfl rfl (.cons (.int _ _) (.cons (.str _ _) (.cons (.int _ _) (.cons (.int _ _) (.cons (.int _ _) (.cons (.int _ _) .nil))))))) sh sh hu ?_
  have : PyData.eqv (.tuple [.int a, .str b, .int c, .int d, .int e, .int f]) (.tuple [.int a, .str b, .int c, .int d, .int e, .int f]) = true := by simp [PyData.eqv, PyData.eqvAll]
  rw [this]; exact h

theorem set_kind_turn {w : World} {h₀ : Heap} {L ll : Addr} {m m0 : Str → Option Value} {s : Shared} {Q' : Unit → Shared → Prop} {E : Value → Shared → Prop} {A₀ : Around} {ad : Ad} {z : St} {las las' : List Addr} {nl nl' j : Nat} {I : Addr} {oI oN oO oF : Obj} {pre post : List Info} {q : Info} {big : List (Addr × Obj)} {K : Str} {t : Tok}
    (X : (hd.heap_39 w.params).In h₀) (ok : CheckOk w L ad ll z las nl j m0) (off : ∀ p ∈ led2 w L ad ll z las nl, p.1 ≠ I) (hsplit : z.infos = pre ++ q :: post) (F : Fr h₀ L s.heap m) (N : News h₀ L s.heap big)
    (sub : ∀ p ∈ (I, oI) :: (lits2 w L ad ll z las' nl' oN oO oF ++ (infoLed w z.infos ++ rowLed z.rows)), p ∈ big)
    (h : ∀ h' tr' tk', Fr h₀ L h' m → News h₀ L h' ((I, oI) :: (lits2 w L ad ll z las' nl' oN oO oF ++ (infoLed w (pre ++ { q with r := { q.r with kind := K }, tr := tr' } :: post) ++ rowLed z.rows))) → Q' () { s with heap := h', toks := tk' }) :
    wpAny (model PySem.Challenge.rw_rh0064_01.row.prog w) A₀ (setAttr (.ref q.x) (Str.ofString "kind") (.str K t)) Q' E s := by
  have nd1 : (I :: (led2 w L ad ll z las nl).map (·.1)).Nodup := List.nodup_cons.mpr ⟨fun hm => by
    obtain ⟨p, hp, e⟩ := List.mem_map.mp hm
    exact off p hp e, ok.nodup⟩
  have e0 : (((I, oI) :: lits2 w L ad ll z las' nl' oN oO oF) ++ (infoLed w z.infos ++ rowLed z.rows)).map (·.1) = I :: (led2 w L ad ll z las nl).map (·.1) := by
    unfold led2
    simp only [List.map_append, List.map_cons, List.cons_append, lits2, lits, List.map_nil]
  rw [hsplit] at sub e0
  exact set_kind (lits := (I, oI) :: lits2 w L ad ll z las' nl' oN oO oF) (rest := rowLed z.rows) F X (fun p hp => N p (sub p hp)) (by rw [e0]; exact nd1) h

theorem adr_kind {w : World} {pre post : List Info} {q q' : Info} (hx : q'.x = q.x) (hdx : q'.dx = q.dx) : (infoLed w (pre ++ q' :: post)).map (·.1) = (infoLed w (pre ++ q :: post)).map (·.1) := by
  rw [infoLed_append, infoLed_append]; simp [infoLed, hx, hdx]
theorem kvs_kind {pre post : List Info} {q q' : Info} (hx : q'.x = q.x) (hk : q'.k = q.k) : kvsOf (pre ++ q' :: post) = kvsOf (pre ++ q :: post) := by simp [kvsOf, hx, hk]
theorem key_ne {pre post : List Info} {q : Info} (knd : ((pre ++ q :: post).map (·.k)).Nodup) : ∀ p ∈ pre ++ post, p.k ≠ q.k := by
  rw [List.map_append, List.map_cons, List.nodup_append, List.nodup_cons] at knd
  intro p hp e
  rcases List.mem_append.mp hp with hp | hp
  · exact knd.2.2 p.k (List.mem_map.mpr ⟨p, hp, rfl⟩) q.k (.head _) e
  · exact knd.2.1.1 (List.mem_map.mpr ⟨p, hp, e⟩)
theorem recs_next {w : World} {L ll : Addr} {ad : Ad} {z : St} {las : List Addr} {nl j : Nat} {m0 : Str → Option Value} {pre post : List Info} {q : Info} {K : Str} {tr' : Toks} (ok : CheckOk w L ad ll z las nl j m0) (hsplit : z.infos = pre ++ q :: post) (hqk : q.k = 0 + (j : Int)) (knd : (z.infos.map (·.k)).Nodup) (hK : kindOf q.r = K) :
    ∀ p ∈ pre ++ { q with r := { q.r with kind := K }, tr := tr' } :: post, ∃ r, recOf (z.rows.map (·.row)) p.k = some r ∧ p.r = { r with kind := p.r.kind } ∧ p.r.var = p.k ∧ (p.k < ((j + 1 : Nat) : Int) → p.r.kind = kindOf p.r) := by
  rw [hsplit] at knd
  have kne := key_ne knd
  have other : ∀ p ∈ pre ++ post, p ∈ z.infos → ∃ r, recOf (z.rows.map (·.row)) p.k = some r ∧ p.r = { r with kind := p.r.kind } ∧ p.r.var = p.k ∧ (p.k < ((j + 1 : Nat) : Int) → p.r.kind = kindOf p.r) := by
    intro p hp hz
    obtain ⟨r, h1, h2, h3, h4⟩ := ok.recs p hz
    exact ⟨r, h1, h2, h3, fun hlt => h4 (by have := kne p hp; omega)⟩
  intro p hp
  rcases List.mem_append.mp hp with hp | hp
  · exact other p (List.mem_append_left _ hp) (by rw [hsplit]; exact List.mem_append_left _ hp)
  · rcases List.mem_cons.mp hp with rfl | hp
    · obtain ⟨r, h1, h2, h3, h4⟩ := ok.recs q (by rw [hsplit]; simp)
      refine ⟨r, h1, ?_, h3, fun _ => hK.symm⟩
      show { q.r with kind := K } = { r with kind := K }
      rw [h2]
    · exact other p (List.mem_append_right _ hp) (by rw [hsplit]; exact List.mem_append_right _ (.tail _ hp))
theorem permAt_kind {pre post : List Info} {q : Info} {K : Str} {tr' : Toks} : permAt (pre ++ { q with r := { q.r with kind := K }, tr := tr' } :: post) = permAt (pre ++ q :: post) := by
  funext k
  unfold permAt
  rw [List.find?_append, List.find?_append]
  cases List.find? (fun q => decide (q.k = (k : Int))) pre with
  | some x => rfl
  | none =>
    simp only [Option.none_or, List.find?_cons]
    cases decide (q.k = (k : Int)) with
    | true => rfl
    | false => rfl
theorem permAt_this {pre post : List Info} {q : Info} {j : Nat} (hqk : q.k = 0 + (j : Int)) (knd : ((pre ++ q :: post).map (·.k)).Nodup) : permAt (pre ++ q :: post) j = if kindOf q.r = Str.ofString "perm" then some q.x else none := by
  unfold permAt
  have kne := key_ne knd
  have h1 : List.find? (fun q => decide (q.k = (j : Int))) pre = none := List.find?_eq_none.mpr fun p hp => by
    have := kne p (List.mem_append_left _ hp)
    simp only [decide_eq_true_eq]; omega
  rw [List.find?_append, h1, Option.none_or, List.find?_cons, decide_eq_true (by omega)]
  rfl
theorem las_next {w : World} {L ll : Addr} {ad : Ad} {z : St} {las : List Addr} {nl j : Nat} {m0 : Str → Option Value} {pre post : List Info} {q : Info} {K : Str} {tr' : Toks} (ok : CheckOk w L ad ll z las nl j m0) (hsplit : z.infos = pre ++ q :: post) (hqk : q.k = 0 + (j : Int)) (knd : (z.infos.map (·.k)).Nodup) :
    (List.range (j + 1)).filterMap (permAt (pre ++ { q with r := { q.r with kind := K }, tr := tr' } :: post)) = las ++ (if kindOf q.r = Str.ofString "perm" then [q.x] else []) := by
  rw [hsplit] at knd
  rw [permAt_kind, List.range_succ, List.filterMap_append, ← hsplit, ← ok.las]
  congr 1
  rw [hsplit]
  simp only [List.filterMap_cons, List.filterMap_nil, permAt_this hqk knd]
  split <;> simp_all
end
section
local macro_rules | `(tactic| walk_at "compareOp NotEq ref ref") => `(tactic| (k_here; (with_reducible show wpAny _ _ (compareOp CmpOp.NotEq (Value.ref _) (Value.ref _)) _ _ _); k_dflt (refine rows_ne2 (by k_asm) (by k_mem) (by k_mem) ?hs (by assumption) (by assumption) (by ke_room) ?_; (case hs => (intro p hp; kcf_m)); (try dsimp only [List.isEmpty, Bool.not_true, Bool.not_false]))))
local macro_rules | `(tactic| walk_at "compareOp Eq ref ref") => `(tactic| (k_here; (with_reducible show wpAny _ _ (compareOp CmpOp.Eq (Value.ref _) (Value.ref _)) _ _ _); k_dflt (refine rows_eq2 (by k_asm) (by k_mem) (by k_mem) ?hs (by assumption) (by assumption) (by ke_room) ?_; (case hs => (intro p hp; kcf_m)); (try dsimp only [List.isEmpty, Bool.not_true, Bool.not_false]))))
local macro_rules | `(tactic| walk_at "subscriptTail") => `(tactic| (k_here; (with_reducible show wpAny _ _ (subscriptTail _ _ (Value.ref _) (Value.int 0 _)) _ _ _); k_dflt (refine item_first (by k_asm) (by k_mem) ?_)))
local macro_rules | `(tactic| walk_at "subscriptTail") => `(tactic| (k_here; (with_reducible show wpAny _ _ (subscriptTail _ _ (Value.ref _) (Value.int (-1) _)) _ _ _); k_dflt (refine item_last (by k_asm) (by k_mem) (by assumption) (by assumption) ?_)))
local macro_rules | `(tactic| walk_at "subscriptTail") => `(tactic| (k_here; (with_reducible show wpAny _ _ (subscriptTail _ _ (Value.ref _) (Value.int _ _)) _ _ _); k_dflt (refine kda_item (knd := PySem.intKind _ _) (by k_asm) (by k_mem) (by assumption) (intKind_is _ _ _ _) (by assumption) ?_)))
local macro_rules | `(tactic| walk_at "compareOp In int ref") => `(tactic| (k_here; k_dflt (refine kda_in (knd := PySem.intKind _ _) (by k_asm) (by k_mem) (by assumption) (by assumption) (intKind_is _ _ _ _) _ (by assumption) ?_)))
local macro_rules | `(tactic| k_ne) => `(tactic| (refine neN ?_; (try dsimp only); first | exact NE.out (by assumption) | exact (NE.out (by assumption)).symm | omega))
local macro_rules | `(tactic| k_mem) => `(tactic| assumption)
local macro_rules | `(tactic| walk_at "eval ListComp") => `(tactic| (k_here; refine Stop.out ?_))
local macro_rules | `(tactic| walk_at "compareOp NotEq ref ref") => `(tactic| (k_here; (with_reducible show wpAny _ _ (compareOp CmpOp.NotEq (Value.ref _) (Value.ref _)) _ _ _); k_dflt (refine told_ne (by k_asm) (by k_mem) (by k_mem) (by assumption) (by ke_room) ?_)))
local macro_rules | `(tactic| walk_at "call builtin:len") => `(tactic| (k_here; (with_reducible show wpAny _ _ (call (Value.builtin "len") [Value.ref _]) _ _ _); k_dflt (refine len_L (by k_asm) (by k_mem) (by rw [List.size_toArray]; omega) ?_)))
local macro_rules | `(tactic| walk_at "call ref") => `(tactic| (k_here; (with_reducible show wpAny _ _ (call (Value.ref 84) _) _ _ _); refine Stop.out ?_))
local macro_rules | `(tactic| walk_at "setAttr ref") => `(tactic| (k_here; refine Stop.out ?_))
local macro_rules | `(tactic| walk_at "STEPS") => `(tactic| repeat' (first | (k_unfold; (try dsimp only)) | (walk1; (try dsimp only)) | (dsimp only; walk1) | fail "no step"))

theorem push_las (las : List Addr) (x : Addr) : ((las ++ [x]).map Value.ref).toArray = (las.map Value.ref).toArray.push (.ref x) := by simp

theorem turn2 {w : World} {mean : ExcName → Option Value} {mg mb : Str → Option Value} {base h₀ : Heap} {L fa ll : Addr} {cd : Value} {m : Str → Option Value} {s : Shared} {Q : Flow → Shared → Prop} {E : Value → Shared → Prop} {news : List (Addr × Obj)} {ad : Ad} {j : Nat} {I : Addr} {oI : Obj} {t : Tok}
    (B : Below callerA base [] h₀) (X : (hd.heap_39 w.params).In h₀) (T : TT mean mg mb h₀) (hj : j < 8) (hJ : CheckJ w L ad ll j m news) (F : Fr h₀ L s.heap m) (N : News h₀ L s.heap ((I, oI) :: news)) (off : ∀ p ∈ news, p.1 ≠ I) :
    wpAny (model PySem.Challenge.rw_rh0064_01.row.prog w) (callerA.deeper (lawEnv L fa cd)) (storeName (lawEnv L fa cd) (Str.ofString "number") (.int (0 + (j : Int)) t))
      (fun _ s₃ => wpAny (model PySem.Challenge.rw_rh0064_01.row.prog w) (callerA.deeper (lawEnv L fa cd)) (execs checkBody (lawEnv L fa cd)) (TurnEnd h₀ L (CheckJ w L ad ll (j + 1)) I oI s Q) E s₃) E s := by
  w_top off
  k_with_none
  revert X; k_fill; intro X
  obtain ⟨z, las, nl, rfl, ok⟩ := hJ
  obtain ⟨⟨ne0, ne1, ne2, ne3, ne4, ne5, ne6, ne7, ne8, ne9⟩, ⟨nf1, nf2, nf3, nf4, nf5, nf6⟩, ⟨ng1, ng2, ng3, ng4, ng5, ng6⟩, ⟨nh1, nh2, nh3, nh4, nh5, nh6⟩, hoff⟩ := led2_ne ok.nodup off
  obtain ⟨vF, hcF⟩ := ok.cF
  obtain ⟨vO, hcO⟩ := ok.cO
  obtain ⟨vN, hcN⟩ := ok.cN
  have hcC := ok.cC
  have hlo := ok.lo
  have hdict := ok.dict
  have hlen := ok.len
  have hlasl : las.length ≤ 8 := by
    have h1 := List.length_filterMap_le (permAt z.infos) (List.range j)
    rw [← ok.las, List.length_range] at h1
    omega
  have knd : (z.infos.map (·.k)).Nodup := by
    obtain ⟨_, _, _, _, _, _, _, _, hn⟩ := kda_dict N (.tail _ (.tail _ (.tail _ (.head _)))) hdict
    have e : (kvsOf z.infos).map (·.1) = z.infos.map (·.k) := by simp [kvsOf, Function.comp_def]
    rw [e] at hn; exact hn
  have F1 := fr_see [(Str.ofString "lasting", .ref ll), (Str.ofString "meetings", .ref ad.ml)] F (by
    intro p hp
    simp only [List.mem_cons, List.not_mem_nil, or_false] at hp
    rcases hp with rfl | rfl
    · exact ok.mv1
    · exact ok.mv2)
  clear F
  obtain ⟨dyn, hdyn⟩ : ∃ d, d = infoLed w z.infos ++ rowLed z.rows := ⟨_, rfl⟩
  have hrows : ∀ r ∈ z.rows, (r.a, r.obj) ∈ dyn := fun r hr => by rw [hdyn]; exact List.mem_append_right _ (List.mem_map.mpr ⟨r, hr, rfl⟩)
  unfold led2 at N
  rw [← hdyn] at N hoff
  simp only [lits2, lits, List.cons_append, List.nil_append] at N
  have hs : scopeOf lawDef = Scope.mk _ _ _ _ _ := rfl
  unfold lawEnv
  rw [hs]
  show wpAny _ _ _ (fun _ s₃ => wpAny _ _ (execs (_ :: _) _) _ _ s₃) _ _
  k_unmd; k_fold
  k_steps
  constructor
  rename News _ _ _ _ => N2
  rename Fr _ _ _ _ => F2
  rename Obj.data _ = Data.cell (some (Value.int (0 + (j : Int)) _)) => hcN'
  refine LCt.ListComp_T F2 (by with_unfolding_all rfl) (by decide) (by rfl) (by decide) (by rfl) ?_
  k_steps
  refine LCt.CompSrcT.ledger rfl F2 N2 (by k_mem) (by rw [sizeLine_eq, List.size_toArray, List.length_map]; omega) ?_
  intro g
  refine compT (fun i => match z.rows[i]? with | some r => decide (r.row.number = 0 + (j : Int)) | none => false) (fun i y => ∃ r, z.rows[i]? = some r ∧ y = .ref r.a) (.inr ⟨_, by k_mem, rfl, _, rfl⟩) ?test ?elts ?fin
  case test =>
    intro i v I' oI' C' oC' D' m2 ys h tk E' hi hP hC hx F3 N3 off3 ne3
    obtain ⟨r, hr, hv⟩ : ∃ r, z.rows[i]? = some r ∧ v = .ref r.a := by
      rw [List.getElem?_toArray, List.getElem?_map, Option.map_eq_some_iff] at hP
      obtain ⟨r, hr, e⟩ := hP
      exact ⟨r, hr, e.symm⟩
    subst hv
    have hrow := hrows r (List.mem_of_getElem? hr)
    dsimp only
    rw [hr]
    dsimp only
    clear N2 F2
    k_unmd; k_fold
    k_steps
    exact ⟨rfl, _, _, rfl, F3, N3⟩
  case elts =>
    intro i v I' oI' C' oC' D' m2 ys h tk E' hi hP hp hC hx F3 N3 off3 ne3
    obtain ⟨r, hr, hv⟩ : ∃ r, z.rows[i]? = some r ∧ v = .ref r.a := by
      rw [List.getElem?_toArray, List.getElem?_map, Option.map_eq_some_iff] at hP
      obtain ⟨r, hr, e⟩ := hP
      exact ⟨r, hr, e.symm⟩
    subst hv
    clear N2 F2
    k_unmd; k_fold
    k_steps
    exact ⟨⟨r, hr, rfl⟩, _, _, rfl, F3, N3⟩
  case fin =>
    intro ys hys
    rw [List.size_toArray, List.length_map] at hys
    have hys' := rel_filter z.rows (fun r => decide (r.row.number = 0 + (j : Int))) ys hys
    subst hys'
    clear hys N2 F2
    intro D h tk F3 N3 off3
    have off1 := off1_mem off3
    have nd1 : NE ll D := ⟨off1 _ (.tail _ (.head _))⟩
    have nd2 : NE (L + 1 + 1 + 1 + 1) D := ⟨off1 _ (.tail _ (.tail _ (.tail _ (.tail _ (.tail _ (.tail _ (.tail _ (.head _))))))))⟩
    have nd3 : NE (L + 1 + 1 + 1) D := ⟨off1 _ (.tail _ (.tail _ (.tail _ (.tail _ (.tail _ (.tail _ (.tail _ (.tail _ (.head _)))))))))⟩
    clear off3 off1
    dsimp only
    k_unmd; k_fold
    cases hos : z.rows.filter (fun r => decide (r.row.number = 0 + (j : Int))) with
    | nil =>
      rw [hos] at N3
      have hnone : ∀ q ∈ z.infos, q.k ≠ (j : Int) := fun q hq e => by
        obtain ⟨r, hr, e'⟩ := ok.only q hq
        obtain ⟨ra, hra, rfl⟩ := List.mem_map.mp hr
        have := List.filter_eq_nil_iff.mp hos ra hra
        simp at this
        omega
      have hval : (valueAt (kvsOf z.infos) (0 + (j : Int))).isSome = false := by
        rw [valueAt_kvs_none fun q hq e => hnone q hq (by omega)]; rfl
      k_steps
      dsimp only
      rename News _ _ _ _ => N4
      rename Fr _ _ _ _ => F4
      show TurnEnd h₀ L _ I oI s Q Flow.next _
      refine turn2_end (infos' := z.infos) (las' := las) (nl' := nl) ok off F4 N4 ?_ rfl rfl ?_ ⟨_, hcN'⟩ ⟨_, by assumption⟩ ⟨_, hcF⟩ rfl rfl ?_
      · rw [← hdyn]
        simp only [lits2, lits, List.cons_append, List.nil_append]
        kcf_all
      · intro q hq
        obtain ⟨r, h1, h2, h3, h4⟩ := ok.recs q hq
        exact ⟨r, h1, h2, h3, fun hlt => h4 (by have := hnone q hq; omega)⟩
      · rw [List.range_succ, List.filterMap_append, ← ok.las]
        simp [permAt_none hnone]
    | cons r0 rest =>
      rw [hos] at N3
      have hosr : ∀ r ∈ r0 :: rest, r ∈ z.rows := fun r hr => (List.mem_filter.mp (hos ▸ hr)).1
      obtain ⟨rl, hrl⟩ : ∃ rl, (r0 :: rest).getLast? = some rl := by
        cases e : (r0 :: rest).getLast? with
        | none => rw [List.getLast?_eq_none_iff] at e; cases e
        | some x => exact ⟨x, rfl⟩
      have hrlm : rl ∈ r0 :: rest := List.mem_of_getLast? hrl
      have hown := ownOk_of ok.rows hos hrl
      have hosm : ∀ r ∈ r0 :: rest, (r.a, r.obj) ∈ dyn := fun r hr => hrows r (hosr r hr)
      have hosw : ∀ r ∈ r0 :: rest, PyData.strOk r.row.word = true := fun r hr => ok.rows.words _ (List.mem_map.mpr ⟨r, hosr r hr, rfl⟩)
      have hm0 := hosm r0 (.head _)
      have hw0 := hosw r0 (.head _)
      have hml := hosm rl hrlm
      have hlast : (List.map (fun r => Value.ref r.a) (r0 :: rest)).getLast? = some (.ref rl.a) := by rw [List.getLast?_map, hrl]; rfl
      have hlen1 : (List.map (fun r => Value.ref r.a) (r0 :: rest)).length ≤ 1000 := by
        have h1 := List.length_filter_le (fun r : RowAt => decide (r.row.number = 0 + (j : Int))) z.rows
        rw [hos] at h1
        rw [List.length_map]; omega
      have hn0 : r0.row.number = 0 + (j : Int) := by
        have : r0 ∈ z.rows.filter (fun r => decide (r.row.number = 0 + (j : Int))) := by rw [hos]; exact .head _
        simpa using (List.mem_filter.mp this).2
      obtain ⟨q0, hq0, hq0k⟩ := ok.all r0.row (List.mem_map.mpr ⟨r0, hosr r0 (.head _), rfl⟩)
      obtain ⟨pre, q, post, hsplit, hqk, hvv⟩ := valueAt_kvs_some (l := z.infos) (k := 0 + (j : Int)) ⟨q0, hq0, hq0k.trans hn0⟩
      have hval : (valueAt (kvsOf z.infos) (0 + (j : Int))).isSome = true := by rw [hvv]; rfl
      obtain ⟨r, hr1, hr2, hr3, hr4⟩ := ok.recs q (by rw [hsplit]; simp)
      obtain ⟨K0, hK0⟩ : ∃ K, K = q.r.kind := ⟨_, rfl⟩
      have hqr : q.r = ownRec (0 + (j : Int)) r0 rl rest K0 := by
        rw [hqk, recOf_own z.rows _ r0 rl rest hos hrl] at hr1
        cases hr1
        rw [hK0]
        exact hr2
      have hqx : (q.x, instObj 38 q.dx) ∈ dyn := by rw [hdyn, hsplit, infoLed_append]; simp [infoLed]
      have hqd : (q.dx, dictOf (recEs w (ownRec (0 + (j : Int)) r0 rl rest K0) q.tr) 9) ∈ dyn := by rw [← hqr, hdyn, hsplit, infoLed_append]; simp [infoLed]
      clear hr1 hr2
      walk_at "STEPS"
      constructor
      rename News _ _ _ _ => N4
      rename Fr _ _ _ _ => F4
      refine LCg.ListComp_U F4 (by with_unfolding_all rfl) (by decide) (by rfl) (by decide) (by rfl) ?_
      walk_at "STEPS"
      refine LCg.CompSrc.ledger rfl F4 N4 (by k_mem) (by rw [sizeLine_eq, List.size_toArray]; omega) ?_
      intro g2
      refine compU (fun i y => ∃ r, (r0 :: rest)[i]? = some r ∧ y = .int r.row.many r.t5) (.inr ⟨_, by k_mem, rfl, _, rfl⟩) ?elts ?fin
      case elts =>
        intro i v I' oI' C' oC' D' m2 ys h tk E' hi hP hC hx F5 N5 off5 ne5
        obtain ⟨r, hr, hv⟩ : ∃ r, (r0 :: rest)[i]? = some r ∧ v = .ref r.a := by
          rw [List.getElem?_toArray, List.getElem?_map, Option.map_eq_some_iff] at hP
          obtain ⟨r, hr, e⟩ := hP
          exact ⟨r, hr, e.symm⟩
        subst hv
        have hrow := hosm r (List.mem_of_getElem? hr)
        clear N4 F4
        k_unmd; k_fold
        walk_at "STEPS"
        exact ⟨⟨r, hr, rfl⟩, _, _, rfl, F5, N5⟩
      case fin =>
        intro ys hys
        rw [List.size_toArray, List.length_map] at hys
        have hys' := rel_ints (r0 :: rest) ys hys
        clear hys N4 F4
        intro D2 h2 tk2 F5 N5 off5
        have nk1 : NE ll D2 := ⟨off1_mem off5 (ll, _) (by k_mem)⟩
        clear off5
        dsimp only
        k_unmd; k_fold
        walk_at "STEPS"
        · constructor
          have hL1 : (r0 :: rest).length = 1 := by
            rename ((Array.size _ : Nat) : Int) = 1 => hsz
            rw [List.size_toArray, List.length_map] at hsz
            omega
          have hv : kindOf (ownRec (0 + (j : Int)) r0 rl rest K0) = Str.ofString "void" := kind_void hL1 (by assumption)
          have hkq : kindOf q.r = Str.ofString "void" := by rw [hqr]; exact hv
          rename News _ _ _ _ => N6
          rename Fr _ _ _ _ => F6
          refine kind_step B F6 X N6 T rfl rfl (by k_mem) (by k_mem) ?_
          intro t6 h6 tk6 F7 N7
          rw [hv]
          clear F6 N6
          dsimp only
          walk_at "STEPS"
          constructor
          rename News _ _ _ _ => N8
          rename Fr _ _ _ _ => F8
          refine' set_kind_turn (las' := las) (nl' := nl) X ok off hsplit F8 N8 ?sub ?_
          case sub =>
            rw [← hdyn]
            simp only [lits2, lits, List.cons_append, List.nil_append]
            kcf_all
          intro h9 tr9 tk9 F9 N9
          clear N8 F8
          dsimp only
          walk_at "STEPS"
          rename News _ _ _ _ => N10
          rename Fr _ _ _ _ => F10
          try dsimp only
          show TurnEnd h₀ L _ I oI s Q Flow.next _
          refine turn2_end ok off F10 N10 (fun p hp => hp) (by rw [hsplit]; exact adr_kind rfl rfl) (by rw [hsplit]; exact kvs_kind rfl rfl) (recs_next ok hsplit hqk knd hkq) ⟨_, by assumption⟩ ⟨_, by assumption⟩ ⟨_, by assumption⟩ rfl rfl ?_
          rw [las_next ok hsplit hqk knd, hkq]
          simp only [(by decide : ¬ Str.ofString "void" = Str.ofString "perm"), if_false, List.append_nil]
        all_goals
          have hnv : ¬ ((r0 :: rest).length = 1 ∧ r0.row.many = 1) := by
            rintro ⟨h1, h2⟩
            first
              | exact absurd h2 (by assumption)
              | (rename ((Array.size _ : Nat) : Int) ≠ 1 => hsz; apply hsz; rw [List.size_toArray, List.length_map]; omega)
          constructor
          rename News _ _ _ _ => N6
          rename Fr _ _ _ _ => F6
          refine LCt.ListComp_T F6 (by with_unfolding_all rfl) (by decide) (by rfl) (by decide) (by rfl) ?_
          walk_at "STEPS"
          refine LCt.CompSrcT.ledger rfl F6 N6 (by k_mem) (by rw [sizeLine_eq, List.size_toArray]; omega) ?_
          intro g6
          refine compT (fun i => match (r0 :: rest)[i]? with | some r => decide (r.row.chunk ≠ r0.row.chunk) | none => false) (fun i y => ∃ r, (r0 :: rest)[i]? = some r ∧ y = .ref r.a) (.inr ⟨_, by k_mem, rfl, _, rfl⟩) ?_ ?_ ?_
          · intro i v I' oI' C' oC' D' m2 ys h tk E' hi hP hC hx F5 N5 off5 ne5
            obtain ⟨r, hr, hv⟩ : ∃ r, (r0 :: rest)[i]? = some r ∧ v = .ref r.a := by
              rw [List.getElem?_toArray, List.getElem?_map, Option.map_eq_some_iff] at hP
              obtain ⟨r, hr, e⟩ := hP
              exact ⟨r, hr, e.symm⟩
            subst hv
            have hrow := hosm r (List.mem_of_getElem? hr)
            dsimp only
            rw [hr]
            dsimp only
            clear N6 F6
            k_unmd; k_fold
            walk_at "STEPS"
            exact ⟨by first | rfl | (by_cases hc : r.row.chunk = r0.row.chunk <;> simp [hc]), _, _, rfl, F5, N5⟩
          · intro i v I' oI' C' oC' D' m2 ys h tk E' hi hP hp hC hx F5 N5 off5 ne5
            obtain ⟨r, hr, hv⟩ : ∃ r, (r0 :: rest)[i]? = some r ∧ v = .ref r.a := by
              rw [List.getElem?_toArray, List.getElem?_map, Option.map_eq_some_iff] at hP
              obtain ⟨r, hr, e⟩ := hP
              exact ⟨r, hr, e.symm⟩
            subst hv
            clear N6 F6
            k_unmd; k_fold
            walk_at "STEPS"
            exact ⟨⟨r, hr, rfl⟩, _, _, rfl, F5, N5⟩
          · intro ys6 hys6
            rw [List.size_toArray, List.length_map] at hys6
            have hys7 := rel_filter (r0 :: rest) (fun r => decide (r.row.chunk ≠ r0.row.chunk)) ys6 hys6
            subst hys7
            clear hys6 N6 F6
            intro D3 h3 tk3 F5 N5 off5
            have nk2 : NE ll D3 := ⟨off1_mem off5 (ll, _) (by k_mem)⟩
            clear off5
            dsimp only
            cases hos2 : (r0 :: rest).filter (fun r => decide (r.row.chunk ≠ r0.row.chunk)) with
            | nil =>
              rw [hos2] at N5
              have hv : kindOf (ownRec (0 + (j : Int)) r0 rl rest K0) = Str.ofString "temp" := kind_temp hown hrlm hnv hos2
              k_unmd; k_fold
              walk_at "STEPS"
              constructor
              have hkq : kindOf q.r = Str.ofString "temp" := by rw [hqr]; exact hv
              rename News _ _ _ _ => N6
              rename Fr _ _ _ _ => F6
              refine kind_step B F6 X N6 T rfl rfl (by k_mem) (by k_mem) ?_
              intro t6 h6 tk6 F7 N7
              rw [hv]
              clear F6 N6
              dsimp only
              walk_at "STEPS"
              constructor
              rename News _ _ _ _ => N8
              rename Fr _ _ _ _ => F8
              refine' set_kind_turn (las' := las) (nl' := nl) X ok off hsplit F8 N8 ?sub ?_
              case sub =>
                rw [← hdyn]
                simp only [lits2, lits, List.cons_append, List.nil_append]
                kcf_all
              intro h9 tr9 tk9 F9 N9
              clear N8 F8
              dsimp only
              walk_at "STEPS"
              rename News _ _ _ _ => N10
              rename Fr _ _ _ _ => F10
              try dsimp only
              show TurnEnd h₀ L _ I oI s Q Flow.next _
              refine turn2_end ok off F10 N10 (fun p hp => hp) (by rw [hsplit]; exact adr_kind rfl rfl) (by rw [hsplit]; exact kvs_kind rfl rfl) (recs_next ok hsplit hqk knd hkq) ⟨_, by assumption⟩ ⟨_, by assumption⟩ ⟨_, by assumption⟩ rfl rfl ?_
              rw [las_next ok hsplit hqk knd, hkq]
              simp only [(by decide : ¬ Str.ofString "temp" = Str.ofString "perm"), if_false, List.append_nil]
            | cons r1 rest1 =>
              rw [hos2] at N5
              have hv : kindOf (ownRec (0 + (j : Int)) r0 rl rest K0) = Str.ofString "perm" := kind_perm hown hnv (by rw [hos2]; exact List.cons_ne_nil _ _)
              have hs2m : ∀ r ∈ r1 :: rest1, (r.a, r.obj) ∈ dyn := fun r hr => hosm r (List.mem_filter.mp (hos2 ▸ hr)).1
              have hs2w : ∀ r ∈ r1 :: rest1, PyData.strOk r.row.word = true := fun r hr => hosw r (List.mem_filter.mp (hos2 ▸ hr)).1
              k_unmd; k_fold
              walk_at "STEPS"
              constructor
              have hkq : kindOf q.r = Str.ofString "perm" := by rw [hqr]; exact hv
              rename News _ _ _ _ => N6
              rename Fr _ _ _ _ => F6
              refine kind_step B F6 X N6 T rfl rfl (by k_mem) (by k_mem) ?_
              intro t6 h6 tk6 F7 N7
              rw [hv]
              clear F6 N6
              dsimp only
              walk_at "STEPS"
              constructor
              rename News _ _ _ _ => N8
              rename Fr _ _ _ _ => F8
              refine' set_kind_turn (las' := las ++ [q.x]) (nl' := nl + 1) X ok off hsplit F8 N8 ?sub ?_
              case sub =>
                rw [← hdyn]
                simp only [lits2, lits, List.cons_append, List.nil_append, push_las]
                kcf_all
              intro h9 tr9 tk9 F9 N9
              clear N8 F8
              dsimp only
              walk_at "STEPS"
              rename News _ _ _ _ => N10
              rename Fr _ _ _ _ => F10
              try dsimp only
              show TurnEnd h₀ L _ I oI s Q Flow.next _
              refine turn2_end ok off F10 N10 (fun p hp => hp) (by rw [hsplit]; exact adr_kind rfl rfl) (by rw [hsplit]; exact kvs_kind rfl rfl) (recs_next ok hsplit hqk knd hkq) ⟨_, by assumption⟩ ⟨_, by assumption⟩ ⟨_, by assumption⟩ rfl rfl ?_
              rw [las_next ok hsplit hqk knd, hkq]
              simp only [if_true]
end
section
section
variable {w : World} {A : Around} {E : Value → Shared → Prop} {s : Shared} {h₀ : Heap} {L : Addr} {m : Str → Option Value} {news : List (Addr × Obj)} {Q : Value → Shared → Prop}
theorem sort_L {D : Addr} {vs : List Value} {ks : List Int} {n : Nat} (F : Fr h₀ L s.heap m) (N : News h₀ L s.heap ((D, listOf vs.toArray n) :: news)) (off : ∀ p ∈ news, p.1 ≠ D) (hI : IntsAre vs ks) (h64 : vs.length < 64)
    (h : ∀ vs' ks' n' h', IntsAre vs' ks' → ks'.Perm ks → ks'.Pairwise (· ≤ ·) → Fr h₀ L h' m → News h₀ L h' ((D, listOf vs'.toArray n') :: news) → Q .none { s with heap := h' }) :
    wpAny (model PP w) A (call (.builtin "list.sort") [.ref D]) Q E s := by
  have z := N (D, listOf vs.toArray n) (.head _)
  refine wpAny_call_entry PyProof.Rows.slot_list_sort ⟨_, z.1, rfl⟩ PyProof.Rows.entry_list_sort (list_sort_tree (n := n) (vs := vs) z.1 hI h64 fun out ns' hI' hp hP => ⟨.none, rfl, ?_⟩) (PyProof.Rows.args_list_sort _)
  have F1 : Fr h₀ L (s.heap.update D (Obj.mapSeq fun _ => (#[] : Array Value))) m := F.change (Heap.SameBut.update ..) z.2.1 z.2.2
  have N1 := ki_turn (pre := []) (fun _ => (#[] : Array Value)) (its' := #[]) N (fun _ hp => nomatch hp) off rfl rfl
  have N2 := News.grown N1 fun _ _ e => Heap.get?_push_of_some (seqObj "tuple" vs.toArray 0) e
  have N3 := News.grown N2 fun _ _ e => Heap.get?_push_of_some (seqObj "list" #[] 0) e
  have N4 := ki_turn (pre := []) (fun _ => out) (its' := out) N3 (fun _ hp => nomatch hp) off rfl rfl
  have F4 : Fr h₀ L ((((s.heap.update D (Obj.mapSeq fun _ => (#[] : Array Value))).push (seqObj "tuple" vs.toArray 0)).push (seqObj "list" #[] 0)).update D (Obj.mapSeq fun _ => out)) m :=
    ((F1.push (seqObj "tuple" vs.toArray 0)).push (seqObj "list" #[] 0)).change (Heap.SameBut.update ..) z.2.1 z.2.2
  have e : out = out.toList.toArray := by rw [Array.toArray_toList]
  rw [e] at N4
  exact h out.toList ns' _ _ hI' hp hP F4 N4

theorem sorted_D {d : Addr} {oD : Obj} {kvs : List (Int × Value)} (hh : A.handled = none) (F : Fr h₀ L s.heap m) (N : News h₀ L s.heap news) (hm : (d, oD) ∈ news) (hd : oD.IsDictOf (PySem.intKind PySem.Challenge.rw_rh0064_01.row.prog w) kvs) (lo : (d == sysModules) = false) (hn : kvs.length < 64)
    (h : ∀ D vs ks n h' tk, IntsAre vs ks → ks.Perm (kvs.map (·.1)) → ks.Pairwise (· ≤ ·) → Fr h₀ L h' m → News h₀ L h' ((D, listOf vs.toArray n) :: news) → (∀ p ∈ news, p.1 < D) → Q (.ref D) { s with heap := h', toks := tk }) :
    wpAny (model PySem.Challenge.rw_rh0064_01.row.prog w) A (call (.builtin "sorted") [.ref d]) Q E s := by
  obtain ⟨ep, hat⟩ := (kda_dict N hm hd).dictAt
  refine kdu_sorted (kdl_dict (knd := PySem.intKind _ _) (kvs := kvs) (ep := ep) lo) hh F N hat (by rw [sizeLine_eq]; omega) fun D h' tk vs F' N' hlt hl hv => ?_
  have hI : IntsAre vs (kvs.map (·.1)) := by
    clear h hat F N F' N' hlt hm hd
    induction kvs generalizing vs with
    | nil => cases vs with
      | nil => exact .nil
      | cons v r => simp at hl
    | cons kv r ih =>
      cases vs with
      | nil => simp at hl
      | cons v vs =>
        obtain ⟨k, x, e, hk⟩ := hv 0 v rfl
        simp at e
        subst e
        have hvk : ∃ t, v = .int k t := by
          cases v <;> simp [PySem.intKind, Value.isInt] at hk
          exact ⟨_, by rw [hk]⟩
        obtain ⟨t, rfl⟩ := hvk
        exact .cons k t (ih (by simp at hn; omega) vs (by simpa using hl) fun j u hu => hv (j + 1) u (by simpa using hu))
  refine sort_L F' N' (fun p hp => Nat.ne_of_lt (hlt p hp)) hI (by omega) fun vs' ks' n' h'' hI' hp hP F'' N'' => ?_
  exact h D vs' ks' n' h'' tk hI' hp hP F'' N'' hlt
end
end
section
/-- who comes first -/
def bef (g : Int → Int) (a b : Int) : Prop := g b < g a ∨ (g a = g b ∧ a < b)
theorem ord_ins {g : Int → Int} {a b : List Int} {k : Int} (h : (a ++ b).Pairwise (bef g)) (hb : ∀ y ∈ b, g y < g k) (ha : ∀ y ∈ a, y < k) (hl : ∀ z, a.getLast? = some z → ¬ g z < g k) : (a ++ k :: b).Pairwise (bef g) := by
  rw [List.pairwise_append] at h ⊢
  obtain ⟨h1, h2, h3⟩ := h
  refine ⟨h1, List.pairwise_cons.mpr ⟨fun y hy => .inl (hb y hy), h2⟩, ?_⟩
  intro y hy x hx
  rcases List.mem_cons.mp hx with rfl | hx
  · have hne : a ≠ [] := fun e => by rw [e] at hy; cases hy
    have hz := hl _ (List.getLast?_eq_some_getLast hne)
    have hy' := hy
    rw [← List.dropLast_concat_getLast hne] at hy' h1
    rcases List.mem_append.mp hy' with hm | hm
    · have hp := (List.pairwise_append.mp h1).2.2 y hm _ (List.mem_singleton.mpr rfl)
      have := ha y hy
      unfold bef at hp ⊢
      omega
    · rw [List.mem_singleton] at hm
      rw [← hm] at hz
      have := ha y hy
      unfold bef
      omega
  · exact h3 y hy x hx

theorem ord_unique {g : Int → Int} : ∀ {a b : List Int}, a.Pairwise (bef g) → b.Pairwise (bef g) → a.Perm b → a = b
  | [], b, _, _, hp => by rw [hp.nil_eq]
  | x :: a, [], _, _, hp => by have := hp.length_eq; simp at this
  | x :: a, y :: b, h1, h2, hp => by
    have e : x = y := by
      have hx : x ∈ y :: b := hp.subset (.head _)
      have hy : y ∈ x :: a := hp.symm.subset (.head _)
      rcases List.mem_cons.mp hx with hx | hx
      · exact hx
      rcases List.mem_cons.mp hy with hy | hy
      · exact hy.symm
      have q1 := (List.pairwise_cons.mp h2).1 x hx
      have q2 := (List.pairwise_cons.mp h1).1 y hy
      unfold bef at q1 q2
      omega
    subst e
    rw [ord_unique (List.pairwise_cons.mp h1).2 (List.pairwise_cons.mp h2).2 (hp.cons_inv)]

/-- the place of an item is the number of those before it -/
theorem ord_place {g : Int → Int} {f : Int → Bool} {k : Int} : ∀ {l : List Int}, l.Pairwise (bef g) → k ∈ l → (∀ y, f y = true ↔ bef g y k) → l[(l.filter f).length]? = some k
  | [], _, hm, _ => by cases hm
  | x :: l, h, hm, hf => by
    obtain ⟨h1, h2⟩ := List.pairwise_cons.mp h
    by_cases hx : x = k
    · subst hx
      have e : (x :: l).filter f = [] := by
        rw [List.filter_eq_nil_iff]
        intro y hy hfy
        have q := (hf y).mp hfy
        rcases List.mem_cons.mp hy with rfl | hy
        · unfold bef at q; omega
        · have := h1 y hy
          unfold bef at q this; omega
      rw [e]; rfl
    · have hm' : k ∈ l := by
        rcases List.mem_cons.mp hm with e | e
        · exact absurd e.symm hx
        · exact e
      rw [List.filter_cons, if_pos ((hf x).mpr (h1 k hm'))]
      simpa using ord_place h2 hm' hf

theorem ints_get {vs : List Value} {ns : List Int} (h : IntsAre vs ns) : ∀ {i : Nat} {v : Value}, vs[i]? = some v → ∃ k t, ns[i]? = some k ∧ v = .int k t := by
  induction h with
  | nil => intro i v e; simp at e
  | cons k u _ ih =>
    intro i v e
    cases i with
    | zero => exact ⟨k, u, rfl, by simpa using e.symm⟩
    | succ i => simpa using ih (by simpa using e)
theorem ints_get' {vs : List Value} {ns : List Int} (h : IntsAre vs ns) : ∀ {i : Nat} {k : Int}, ns[i]? = some k → ∃ t, vs[i]? = some (.int k t) := by
  induction h with
  | nil => intro i v e; simp at e
  | cons k u _ ih =>
    intro i v e
    cases i with
    | zero => exact ⟨u, by simpa using e⟩
    | succ i => simpa using ih (by simpa using e)
theorem ints_len {vs : List Value} {ns : List Int} (h : IntsAre vs ns) : vs.length = ns.length := by
  induction h with
  | nil => rfl
  | cons k u _ ih => simp [ih]
theorem ints_ins {vs : List Value} {ns : List Int} (h : IntsAre vs ns) (k : Int) (t : Tok) : ∀ c, IntsAre (vs.take c ++ .int k t :: vs.drop c) (ns.take c ++ k :: ns.drop c) := by
  induction h with
  | nil => intro c; simpa using IntsAre.cons k t .nil
  | cons n u hh ih =>
    intro c
    cases c with
    | zero => exact .cons k t (.cons n u hh)
    | succ c => exact .cons n u (ih c)
theorem kl_ins_nat {vs : List Value} {c : Nat} {y : Value} (hc : c ≤ vs.length) : kl_ins vs (c : Int) y = vs.take c ++ y :: vs.drop c := by
  unfold kl_ins
  rw [if_neg (by omega)]
  have : min (c : Int).toNat vs.length = c := by omega
  rw [this]

section
variable {w : World} {A : Around} {E : Value → Shared → Prop} {s : Shared} {h₀ : Heap} {L : Addr} {m : Str → Option Value} {news : List (Addr × Obj)} {Q : Value → Shared → Prop}
theorem item_at {l : Addr} {v : Value} {vs : List Value} {n c : Nat} {x : Int} {t : Tok} {value slice : PySem.Expr} (N : News h₀ L s.heap news) (hp : (l, listOf vs.toArray n) ∈ news) (hv : vs[c]? = some v) (hx : x = (c : Int)) (hz : vs.length ≤ 1000) (h : Q v s)
    (hs : subscripted slice false (.ref l) (.int x t) = operate [.ref l, .int x t] (getItem (.ref l) (.int x t)) := by with_unfolding_all rfl) (hg : ∀ q, letTemporaryGo value (.ref l) q = pure () := by intro _; with_unfolding_all rfl) :
    wpAny (model PP w) A (subscriptTail value slice (.ref l) (.int x t)) Q E s := by
  have hL : s.heap.IsList l vs.toArray := ⟨_, N.get hp, rfl, _, rfl⟩
  have hc : c < vs.length := (List.getElem?_eq_some_iff.mp hv).1
  have e : x.toNat = c := by omega
  exact subscriptTail_builtin hL.typeIs slot_list_getitem.lookup (wpAny_getItem_list hL (by omega) (by omega) (by rw [e, List.getElem?_toArray]; exact hv) h) hs hg
end
end
section
local macro_rules | `(tactic| walk_at "MY ENTER") => `(tactic| (refine' wpAny_call (code_keep ?k1 ?k2 ?k3 ?k4 ?k5 ?kA ?kF ?kK ?k6 ?k7 ?k8 ?k9 ?kB ?_ ?c2 ?c3 ?c4 ?c5); (case kA => exact rfl); (case kF => assumption); (case kK => assumption); (case k1 => k_asm); (case k2 => k_asm); (case k3 => k_asm); (case k4 => k_asm); (case k5 => k_asm); (case k6 => k_dflt k_is); (case k7 => k_dflt k_is); (case k8 => k_room); (case k9 => k_dflt (exact BindsTo.of_eq rfl)); (case c5 => decide); (case kB => exact locs rfl); (case c2 => exact rfl); (case c3 => exact rfl); (case c4 => exact rfl)))
structure OrdJ (g : Int → Int) (pm : Int → Bool) (o D d : Addr) (D0 : Obj) (dyn : List (Addr × Obj)) (ks : List Int) (i : Nat) (m : Str → Option Value) (news : List (Addr × Obj)) (vs : List Value) (out : List Int) (n : Nat) : Prop where
  led : news = (D, D0) :: (o, listOf vs.toArray n) :: dyn
  isInts : IntsAre vs out
  perm : out.Perm ((ks.take i).filter pm)
  ord : out.Pairwise (bef g)
  mv1 : m (Str.ofString "order") = some (.ref o)
  mv2 : m (Str.ofString "infos") = some (.ref d)

theorem fits_nat {x : Int} (h0 : 0 ≤ x) (h1 : x ≤ 100) : Builtin.List.listFitsIndex x = true := by
  unfold Builtin.List.listFitsIndex
  simp only [Bool.and_eq_true, decide_eq_true_eq]
  omega
theorem ord_next {g : Int → Int} {pm : Int → Bool} {o D d : Addr} {D0 : Obj} {dyn : List (Addr × Obj)} {ks : List Int} {i c n : Nat} {m m' : Str → Option Value} {news : List (Addr × Obj)} {vs : List Value} {out : List Int} {k : Int} {t : Tok}
    (ok : OrdJ g pm o D d D0 dyn ks i m news vs out n) (htk : ks.take (i + 1) = ks.take i ++ [k]) (hpm : pm k = true) (hlt : ∀ y ∈ out, y < k) (hc : c ≤ out.length) (hall : ∀ y ∈ out.drop c, g y < g k) (hl : ∀ z, (out.take c).getLast? = some z → ¬ g z < g k)
    (h1 : m' (Str.ofString "order") = some (.ref o)) (h2 : m' (Str.ofString "infos") = some (.ref d)) :
    OrdJ g pm o D d D0 dyn ks (i + 1) m' ((D, D0) :: (o, listOf (kl_ins vs (c : Int) (.int k t)).toArray (n + 1)) :: dyn) (kl_ins vs (c : Int) (.int k t)) (out.take c ++ k :: out.drop c) (n + 1) := by
  refine ⟨rfl, ?_, ?_, ?_, h1, h2⟩
  · rw [kl_ins_nat (by rw [ints_len ok.isInts]; exact hc)]
    exact ints_ins ok.isInts k t c
  · rw [htk, List.filter_append, List.filter_cons, if_pos hpm]
    refine List.Perm.trans List.perm_middle ?_
    rw [List.take_append_drop]
    exact (List.Perm.cons k ok.perm).trans (List.perm_append_singleton k _).symm
  · exact ord_ins (by rw [List.take_append_drop]; exact ok.ord) hall (fun y hy => hlt y (List.take_subset _ _ hy)) hl
theorem ord_skip {g : Int → Int} {pm : Int → Bool} {o D d : Addr} {D0 : Obj} {dyn : List (Addr × Obj)} {ks : List Int} {i n : Nat} {m m' : Str → Option Value} {news : List (Addr × Obj)} {vs : List Value} {out : List Int} {k : Int}
    (ok : OrdJ g pm o D d D0 dyn ks i m news vs out n) (htk : ks.take (i + 1) = ks.take i ++ [k]) (hpm : pm k = false)
    (h1 : m' (Str.ofString "order") = some (.ref o)) (h2 : m' (Str.ofString "infos") = some (.ref d)) : OrdJ g pm o D d D0 dyn ks (i + 1) m' ((D, D0) :: (o, listOf vs.toArray n) :: dyn) vs out n := by
  refine ⟨rfl, ok.isInts, ?_, ok.ord, h1, h2⟩
  rw [htk, List.filter_append, List.filter_cons, if_neg (by simp [hpm]), List.filter_nil, List.append_nil]
  exact ok.perm
local macro_rules | `(tactic| walk_at "exec While") => `(tactic| ((with_reducible show wpAny _ _ (exec (Stmt.While _ _ _ _) _) _ _ _); refine Stop.out ?_))
local macro_rules | `(tactic| walk_at "subscriptTail") => `(tactic| (k_here; (with_reducible show wpAny _ _ (subscriptTail _ _ (Value.ref _) (Value.int _ _)) _ _ _); k_dflt (refine kda_item (knd := PySem.intKind _ _) (by k_asm) (by k_mem) (by assumption) (intKind_is _ _ _ _) (by assumption) ?_)))
local macro_rules | `(tactic| k_ne) => `(tactic| (refine neN ?_; (try dsimp only); first | exact NE.out (by assumption) | exact (NE.out (by assumption)).symm | omega))
local macro_rules | `(tactic| walk_at "call builtin:len") => `(tactic| (k_here; (with_reducible show wpAny _ _ (call (Value.builtin "len") [Value.ref _]) _ _ _); k_dflt (refine len_L (by k_asm) (by k_mem) (by rw [List.size_toArray]; omega) ?_)))
local macro_rules | `(tactic| walk_at "subscriptTail") => `(tactic| (k_here; (with_reducible show wpAny _ _ (subscriptTail _ _ (Value.ref _) (Value.int (_ - 1) _)) _ _ _); k_dflt (refine item_at (by k_asm) (by k_mem) (by assumption) (by omega) (by omega) ?_)))
local macro_rules | `(tactic| walk_at "call builtin:list.insert") => `(tactic| (k_here; k_dflt (refine' kl_insert ?F ?N ?f rfl ?U ?z ?_; (case F => k_asm); (case N => k_asm); (case U => k_upd); (case f => exact fits_nat (by omega) (by omega)); (case z => (rw [PySem.sizeLine_eq]; simp only [List.toList_toArray]; omega))); (intro h' F' N'); (try dsimp only [List.nil_append, List.cons_append] at N')))
local macro_rules | `(tactic| walk_at "call builtin:sorted") => `(tactic| (k_here; refine Stop.out ?_))
local macro_rules | `(tactic| walk_at "exec For Name Call cons nil") => `(tactic| ((with_reducible show wpAny _ _ (exec (Stmt.For _ _ _ _ _) _) _ _ _); refine Stop.out ?_))
local macro_rules | `(tactic| k_mem) => `(tactic| assumption)

theorem order_call {w : World} {mean : ExcName → Option Value} {mg mb : Str → Option Value} {base h₀ : Heap} {A₀ : Around} {env : Env} {L : Addr} {m : Str → Option Value} {s : Shared} {Q : Value → Shared → Prop} {E : Value → Shared → Prop}
    {d : Addr} {oD : Obj} {infos : List Info} {dyn : List (Addr × Obj)} {g : Int → Int} {pm : Int → Bool}
    (B : Below A₀ base [] h₀) (F : Fr h₀ L s.heap m) (X : (hd.heap_39 w.params).In h₀)
    (N : News h₀ L s.heap dyn) (T : TT mean mg mb h₀) (hf : env.frame = some L) (hke : env.scope.kind = .function)
    (hm : (d, oD) ∈ dyn) (hD : oD.IsDictOf (PySem.intKind PySem.Challenge.rw_rh0064_01.row.prog w) (kvsOf infos)) (lo : (d == sysModules) = false) (hlen : infos.length ≤ 30)
    (hled : ∀ q ∈ infos, (q.x, instObj 38 q.dx) ∈ dyn ∧ (q.dx, dictOf (recEs w q.r q.tr) 9) ∈ dyn)
    (hg : ∀ q ∈ infos, g q.k = q.r.goal ∧ pm q.k = decide (q.r.kind = Str.ofString "perm"))
    (h : ∀ D vs ks n h' tk', IntsAre vs ks → ks.Perm ((infos.map (·.k)).filter pm) → ks.Pairwise (bef g) → Fr h₀ L h' m → News h₀ L h' ((D, listOf vs.toArray n) :: dyn) → (∀ p ∈ dyn, p.1 ≠ D) → Q (.ref D) { s with heap := h', toks := tk' }) :
    wpAny (model PySem.Challenge.rw_rh0064_01.row.prog w) (callerA.deeper env) (call (.ref 91) [.ref d] []) Q E s := by
  w_top off
  k_with_none
  revert X; k_fill; intro X
  have knd : (infos.map (·.k)).Nodup := by
    obtain ⟨_, _, _, _, _, _, _, _, hn⟩ := kda_dict N hm hD
    have e : (kvsOf infos).map (·.1) = infos.map (·.k) := by simp [kvsOf, Function.comp_def]
    rw [e] at hn; exact hn
  walk_at "MY ENTER"
  clear N F B
  intro g' L' h' FG' F' N' B' X' T' G'
  dsimp only
  replace F' : Fr g' L' h' (fun y => List.lookup y [(Str.ofString "infos", .ref d)]) := F'
  k_unmd; k_fold
  k_steps
  constructor
  rename Fr g' L' _ _ => F2
  rename_i tkA l' hA lto hB NB

  refine For_turns F2 ?_
  k_steps
  constructor
  rename Fr g' L' _ _ => F3
  rename News g' L' _ _ => N3
  refine sorted_D rfl F3 N3 (.tail _ hm) hD lo (by simp only [kvsOf, List.length_map]; omega) ?_
  clear N3 F3
  intro D vs0 ks0 n0 h3 tk3 hI0 hP0 hS0 F3 N3 hlt3
  have eN : (fun p : Int × Value => p.1) ∘ (fun q : Info => (q.k, Value.ref q.x)) = fun q => q.k := rfl
  have hP0' : ks0.Perm (infos.map (·.k)) := by
    have := hP0; unfold kvsOf at this; rw [List.map_map] at this; exact this
  have hnd : ks0.Nodup := hP0'.nodup_iff.mpr knd
  refine turns_list (l := D) (its := vs0.toArray) (ep := n0) rfl (.head _) F3 N3 (fun i m1 news1 => ∃ vs out n, OrdJ g pm _ D d (listOf vs0.toArray n0) dyn ks0 i m1 news1 vs out n) ⟨[], [], 0, ⟨rfl, .nil, .nil, .nil, by rfl, by rfl⟩⟩ ?hkeep ?turn ?done
  case hkeep =>
    rintro i m1 news1 ⟨vs, out, n, ok⟩
    rw [ok.led]; exact .head _
  case turn =>
    rintro i v m1 news1 I oI h4 tk4 hv ⟨vs, out, n, ok⟩ F4 N4 off4
    obtain ⟨k, t, hk, rfl⟩ := ints_get hI0 (by simpa using hv)
    have hkm : k ∈ infos.map (·.k) := hP0'.subset (List.mem_of_getElem? hk)
    obtain ⟨q0, hq0, hqk0⟩ := List.mem_map.mp hkm
    obtain ⟨pre, q, post, hsplit, hqk, hval⟩ := valueAt_kvs_some (l := infos) (k := k) ⟨q0, hq0, hqk0⟩
    have hq : q ∈ infos := by rw [hsplit]; simp
    obtain ⟨mq1, mq2⟩ := hled q hq
    obtain ⟨hg1, hg2⟩ := hg q hq
    have hol : out.length ≤ 30 := by
      have h1 := ok.perm.length_eq
      have h2 := List.length_filter_le pm (ks0.take i)
      have h3 := List.length_take_le' i ks0
      have h4 := hP0'.length_eq
      rw [List.length_map] at h4
      omega
    have hvl := ints_len ok.isInts
    have F5 := fr_see [(Str.ofString "order", .ref _), (Str.ofString "infos", .ref d)] F4 (by
      intro p hp
      simp only [List.mem_cons, List.not_mem_nil, or_false] at hp
      rcases hp with rfl | rfl
      · exact ok.mv1
      · exact ok.mv2)
    have mv := ok.led
    subst mv
    clear F4 F3 N3
    have ne1 : NE l' D := ⟨Nat.ne_of_lt (hlt3 _ (.head _))⟩
    have ne2 : NE l' I := ⟨off4 _ (.tail _ (.head _))⟩
    have ne3 : NE D I := ⟨off4 _ (.head _)⟩
    have hoff : OwnOff dyn [l', D, I] := by
      intro p hp b hb
      simp only [List.mem_cons, List.not_mem_nil, or_false] at hb
      rcases hb with rfl | rfl | rfl
      · exact Nat.ne_of_lt (lto p hp)
      · exact Nat.ne_of_lt (hlt3 p (.tail _ hp))
      · exact off4 p (.tail _ (.tail _ hp))
    have htk : ks0.take (i + 1) = ks0.take i ++ [k] := by
      rw [List.take_add_one, hk]; rfl
    have hlt : ∀ y ∈ out, y < k := by
      intro y hy
      have hy2 := (List.mem_filter.mp (ok.perm.subset hy)).1
      have hsp := (List.take_append_drop (i + 1) ks0).symm
      rw [htk, List.append_assoc, List.singleton_append] at hsp
      rw [hsp] at hS0 hnd
      have h1 := (List.pairwise_append.mp hS0).2.2 y hy2 k (.head _)
      have h2 := (List.nodup_append.mp hnd).2.2 y hy2 k (.head _)
      omega
    have hgk : g k = q.r.goal := by rw [← hqk]; exact hg1
    have hpk : pm k = decide (q.r.kind = Str.ofString "perm") := by rw [← hqk]; exact hg2
    have off5 : ∀ vs' n', ∀ p ∈ (D, W.listOf vs0.toArray n0) :: (l', listOf vs' n') :: dyn, p.1 ≠ I := by
      intro vs' n' p hp
      rcases List.mem_cons.mp hp with rfl | hp
      · exact off4 _ (.head _)
      · rcases List.mem_cons.mp hp with rfl | hp
        · exact (off4 (l', W.listOf vs.toArray n) (.tail _ (.head _)) : l' ≠ I)
        · exact off4 p (.tail _ (.tail _ hp))
    k_unmd; k_fold
    k_steps
    · constructor
      have hpk' : pm k = true := by rw [hpk]; exact decide_eq_true (eq_of_beq (by assumption))
      rename News g' L' _ _ => N6
      rename Fr g' L' _ _ => F6
      refine While_inv (fun c m2 news2 => c ≤ out.length ∧ news2 = (I, oI) :: (D, W.listOf vs0.toArray n0) :: (l', W.listOf vs.toArray n) :: dyn ∧ (∃ ta, m2 (Str.ofString "at") = some (.int (c : Int) ta)) ∧ m2 (Str.ofString "order") = some (.ref l') ∧ m2 (Str.ofString "infos") = some (.ref d) ∧ m2 (Str.ofString "info") = some (.ref q.x) ∧ m2 (Str.ofString "k") = some (.int k t) ∧
        (∀ y ∈ out.drop c, g y < q.r.goal)) (n₀ := out.length) F6 N6 ⟨Nat.le_refl _, rfl, ⟨_, by rw [← hvl]; rfl⟩, rfl, rfl, rfl, rfl, by simp⟩ ?wturn
      case wturn =>
        rintro c m2 news2 h5 tk5 F7 N7 ⟨hc, rfl, ⟨ta, mw1⟩, mw2, mw3, mw4, mw5, hall⟩
        have F8 := fr_see [(Str.ofString "at", .int (c : Int) ta), (Str.ofString "order", .ref l'), (Str.ofString "infos", .ref d), (Str.ofString "info", .ref q.x), (Str.ofString "k", .int k t)] F7 (by
          intro p hp
          simp only [List.mem_cons, List.not_mem_nil, or_false] at hp
          rcases hp with rfl | rfl | rfl | rfl | rfl
          · exact mw1
          · exact mw2
          · exact mw3
          · exact mw4
          · exact mw5)
        clear F7 N4 F5 F6 N6
        cases c with
        | zero =>
          k_unmd; k_fold
          k_steps
          rename News g' L' _ _ => N9
          rename Fr g' L' _ _ => F9
          refine TurnEnd.intro F9 N9 (off5 _ _) ⟨_, _, _, ord_next (c := 0) ok htk hpk' hlt hc (by rw [hgk]; exact hall) (fun z hz => by simp at hz) rfl rfl⟩
        | succ c =>
          have hcl : c < out.length := by omega
          obtain ⟨y, hy⟩ : ∃ y, out[c]? = some y := ⟨out[c], List.getElem?_eq_getElem hcl⟩
          obtain ⟨ty, hvy⟩ := ints_get' ok.isInts hy
          have hym : y ∈ infos.map (·.k) := by
            have h1 := ok.perm.subset (List.mem_of_getElem? hy)
            exact hP0'.subset (List.take_subset _ _ (List.mem_filter.mp h1).1)
          obtain ⟨q1, hq1, hqk1⟩ := List.mem_map.mp hym
          obtain ⟨pre2, q2, post2, hsplit2, hqk2, hval2⟩ := valueAt_kvs_some (l := infos) (k := y) ⟨q1, hq1, hqk1⟩
          have hq2 : q2 ∈ infos := by rw [hsplit2]; simp
          obtain ⟨mq3, mq4⟩ := hled q2 hq2
          have hg3 := (hg q2 hq2).1
          have hgy : g y = q2.r.goal := by rw [← hqk2]; exact hg3
          k_unmd; k_fold
          k_steps
          all_goals (rename News g' L' _ _ => N9; rename Fr g' L' _ _ => F9)
          · have e1 : ∀ tt, Value.int (((c + 1 : Nat) : Int) - 1) tt = Value.int (c : Int) tt := fun tt => by congr 1; omega
            refine WhileStep.intro (n' := c) F9 N9 (by omega) ⟨by omega, rfl, ⟨_, congrArg some (e1 _)⟩, rfl, rfl, rfl, rfl, ?_⟩
            intro x hx
            rw [List.drop_eq_getElem_cons hcl] at hx
            rcases List.mem_cons.mp hx with hx | hx
            · have : y = out[c] := by rw [List.getElem?_eq_getElem hcl] at hy; exact (Option.some.inj hy).symm
              rw [hx, ← this]; omega
            · exact hall x hx
          · refine TurnEnd.intro F9 N9 (off5 _ _) ⟨_, _, _, ord_next (c := c + 1) ok htk hpk' hlt hc (by rw [hgk]; exact hall) (fun z hz => ?_) rfl rfl⟩
            have e : (out.take (c + 1)).getLast? = some y := by
              rw [List.take_add_one, hy]; simp
            rw [e] at hz
            cases hz
            omega
    · rename News g' L' _ _ => N9
      rename Fr g' L' _ _ => F9
      have hpk' : pm k = false := by rw [hpk]; exact decide_eq_false (fun e => by simp_all)
      exact TurnEnd.intro F9 N9 (off5 _ _) ⟨_, _, _, ord_skip ok htk hpk' rfl rfl⟩
  case done =>
    rintro m1 news1 h4 tk4 ⟨vs, out, n, ok⟩ F4 N4
    have F5 := fr_see [(Str.ofString "order", .ref l')] F4 (by
      intro p hp
      rw [List.mem_singleton.mp hp]
      exact ok.mv1)
    have hfull : ks0.take vs0.toArray.size = ks0 := List.take_of_length_le (by rw [List.size_toArray, ints_len hI0]; exact Nat.le_refl _)
    have mv := ok.led
    subst mv
    clear F4 F3 N3
    dsimp only
    k_steps
    rename News h₀ L _ _ => kN
    rename Fr h₀ L _ _ => kF
    intro kp
    refine h l' vs out n _ _ ok.isInts ?_ ok.ord kF (fun p hp => kN p (.tail _ hp)) (fun p hp => Nat.ne_of_lt (lto p hp))
    have := ok.perm
    rw [hfull] at this
    exact this.trans (hP0'.filter pm)
end
section
section
variable {w : World} {mean : ExcName → Option Value} {mg mb : Str → Option Value} {base h₀ : Heap} {A₀ : Around} {env : Env} {L : Addr} {m : Str → Option Value} {s : Shared} {E : Value → Shared → Prop} {news : List (Addr × Obj)}
theorem goes_step {x dx y dy : Addr} {r q : Rec} {tr tq : Toks} {Q : Value → Shared → Prop}
    (B : Below A₀ base [] h₀) (F : Fr h₀ L s.heap m) (X : (hd.heap_39 w.params).In h₀) (N : News h₀ L s.heap news) (T : TT mean mg mb h₀) (hf : env.frame = some L) (hke : env.scope.kind = .function)
    (m1 : (x, instObj 38 dx) ∈ news) (m2 : (dx, dictOf (recEs w r tr) 9) ∈ news) (m3 : (y, instObj 38 dy) ∈ news) (m4 : (dy, dictOf (recEs w q tq) 9) ∈ news)
    (h : ∀ h' tk', Fr h₀ L h' m → News h₀ L h' news → Q (.bool (goesBefore r q)) { s with heap := h', toks := tk' }) :
    wpAny (model PySem.Challenge.rw_rh0064_01.row.prog w) (callerA.deeper env) (call (.ref 112) [.ref x, .ref y] []) Q E s := by
  have small : ∀ p ∈ [(x, instObj 38 dx), (dx, dictOf (recEs w r tr) 9), (y, instObj 38 dy), (dy, dictOf (recEs w q tq) 9)], p ∈ news := by
    intro p hp
    simp only [List.mem_cons, List.not_mem_nil, or_false] at hp
    rcases hp with rfl | rfl | rfl | rfl
    · exact m1
    · exact m2
    · exact m3
    · exact m4
  refine goes_call B F X (fun p hp => N p (small p hp)) T hf hke fun h' tk' F' N' kp => h h' tk' F' fun p hp => ?_
  rcases merge N small kp hp with hm | hm
  · exact N' p hm
  · exact hm
end
def lastBody : List Stmt := bodyOf (lawStmt 11)
structure LastJ (L ll pl : Addr) (dyn : List (Addr × Obj)) (m : Str → Option Value) (news : List (Addr × Obj)) (oF : Obj) : Prop where
  led : news = (L + 1 + 1 + 1 + 1, oF) :: dyn
  cF : ∃ v, oF.data = .cell v
  mv1 : m (Str.ofString "lasting") = some (.ref ll)
  mv2 : m (Str.ofString "placed") = some (.ref pl)
structure LastOk (w : World) (L ll pl : Addr) (dyn : List (Addr × Obj)) (las : List Info) (nl : Nat) (vs : List Value) (ks : List Int) (np : Nat) (g : Int → Int) : Prop where
  off : ∀ p ∈ dyn, p.1 ≠ L + 1 + 1 + 1 + 1
  ml : (ll, listOf ((las.map (·.x)).map Value.ref).toArray nl) ∈ dyn
  mp : (pl, listOf vs.toArray np) ∈ dyn
  isInts : IntsAre vs ks
  led : ∀ q ∈ las, (q.x, instObj 38 q.dx) ∈ dyn ∧ (q.dx, dictOf (recEs w q.r q.tr) 9) ∈ dyn
  perm : ks.Perm (las.map (·.k))
  ord : ks.Pairwise (bef g)
  key : ∀ q ∈ las, q.r.var = q.k ∧ g q.k = q.r.goal
  len : las.length ≤ 8
theorem range_filter_len {α : Type} (l : List α) (f : α → Bool) : ((List.range l.length).filter (fun i => match l[i]? with | some r => f r | none => false)).length = (l.filter f).length := by
  have key : ∀ k, k ≤ l.length → ((List.range k).filter (fun i => match l[i]? with | some r => f r | none => false)).length = ((l.take k).filter f).length := by
    intro k
    induction k with
    | zero => intro _; rfl
    | succ k ih =>
      intro hk
      have hlt : k < l.length := hk
      have e : l[k]? = some l[k] := List.getElem?_eq_getElem hlt
      rw [List.range_succ, List.filter_append, List.length_append, ih (Nat.le_of_lt hlt), List.take_add_one, List.filter_append, List.length_append]
      congr 1
      rw [e]
      cases hb : f l[k] <;> simp [List.filter_cons, e, hb]
  have := key l.length (Nat.le_refl _)
  rw [List.take_length] at this
  exact this
theorem placed_at {las : List Info} {ks : List Int} {g : Int → Int} (hp : ks.Perm (las.map (·.k))) (ho : ks.Pairwise (bef g)) (hk : ∀ q ∈ las, q.r.var = q.k ∧ g q.k = q.r.goal) {q : Info} (hq : q ∈ las) : ks[(las.filter fun r => goesBefore r.r q.r).length]? = some q.k := by
  have e := ord_place (f := fun y => decide (g q.k < g y) || (decide (g y = g q.k) && decide (y < q.k))) ho (hp.symm.subset (List.mem_map.mpr ⟨q, hq, rfl⟩)) (fun y => by unfold bef; simp)
  rw [(hp.filter _).length_eq, List.filter_map, List.length_map] at e
  rw [← e]
  congr 2
  refine List.filter_congr fun r hr => ?_
  obtain ⟨a1, a2⟩ := hk r hr
  obtain ⟨b1, b2⟩ := hk q hq
  unfold goesBefore
  simp only [Function.comp_def]
  rw [a1, b1, a2, b2]
local macro_rules | `(tactic| k_ne) => `(tactic| (refine neN ?_; (try dsimp only); first | exact NE.out (by assumption) | exact (NE.out (by assumption)).symm | omega))
local macro_rules | `(tactic| k_mem) => `(tactic| assumption)
local macro_rules | `(tactic| walk_at "eval ListComp") => `(tactic| (k_here; refine Stop.out ?_))
local macro_rules | `(tactic| walk_at "call builtin:len") => `(tactic| (k_here; (with_reducible show wpAny _ _ (call (Value.builtin "len") [Value.ref _]) _ _ _); k_dflt (refine len_L (by k_asm) (by k_mem) (by rw [List.size_toArray]; omega) ?_)))
local macro_rules | `(tactic| walk_at "call ref") => `(tactic| (k_here; (with_reducible show wpAny _ _ (call (Value.ref 112) _) _ _ _); refine Stop.out ?_))
local macro_rules | `(tactic| walk_at "subscriptTail") => `(tactic| (k_here; (with_reducible show wpAny _ _ (subscriptTail _ _ (Value.ref _) (Value.int _ _)) _ _ _); k_dflt (refine item_at (by k_asm) (by k_mem) (by assumption) rfl (by omega) ?_)))
theorem turn3 {w : World} {mean : ExcName → Option Value} {mg mb : Str → Option Value} {base h₀ : Heap} {L fa ll pl : Addr} {cd : Value} {m : Str → Option Value} {s : Shared} {Q : Flow → Shared → Prop} {E : Value → Shared → Prop} {news : List (Addr × Obj)} {I : Addr} {oI oF : Obj}
    {dyn : List (Addr × Obj)} {las : List Info} {nl np : Nat} {vs : List Value} {ks : List Int} {g : Int → Int} {q : Info}
    (B : Below callerA base [] h₀) (X : (hd.heap_39 w.params).In h₀) (T : TT mean mg mb h₀) (K : LastOk w L ll pl dyn las nl vs ks np g) (hq : q ∈ las) (hJ : LastJ L ll pl dyn m news oF) (F : Fr h₀ L s.heap m) (N : News h₀ L s.heap ((I, oI) :: news)) (off : ∀ p ∈ news, p.1 ≠ I) :
    wpAny (model PySem.Challenge.rw_rh0064_01.row.prog w) (callerA.deeper (lawEnv L fa cd)) (storeName (lawEnv L fa cd) (Str.ofString "info") (.ref q.x))
      (fun _ s₃ => wpAny (model PySem.Challenge.rw_rh0064_01.row.prog w) (callerA.deeper (lawEnv L fa cd)) (execs lastBody (lawEnv L fa cd)) (TurnEnd h₀ L (fun m n => ∃ oF, LastJ L ll pl dyn m n oF) I oI s Q) E s₃) E s := by
  w_top off
  k_with_none
  revert X; k_fill; intro X
  obtain ⟨vF, hcF⟩ := hJ.cF
  obtain ⟨hkv, hkg⟩ := K.key q hq
  obtain ⟨mq1, mq2⟩ := K.led q hq
  have F1 := fr_see [(Str.ofString "lasting", .ref ll), (Str.ofString "placed", .ref pl)] F (by
    intro p hp
    simp only [List.mem_cons, List.not_mem_nil, or_false] at hp
    rcases hp with rfl | rfl
    · exact hJ.mv1
    · exact hJ.mv2)
  clear F
  have mv := hJ.led
  subst mv
  have hml := K.ml
  have hmp := K.mp
  have hlen := K.len
  have ne1 : NE (L + 1 + 1 + 1 + 1) I := ⟨off _ (.head _)⟩
  have hoff : OwnOff dyn [L + 1 + 1 + 1 + 1, I] := by
    intro p hp b hb
    simp only [List.mem_cons, List.not_mem_nil, or_false] at hb
    rcases hb with rfl | rfl
    · exact K.off p hp
    · exact off p (.tail _ hp)
  have hs : scopeOf lawDef = Scope.mk _ _ _ _ _ := rfl
  unfold lawEnv
  rw [hs]
  show wpAny _ _ _ (fun _ s₃ => wpAny _ _ (execs (_ :: _) _) _ _ s₃) _ _
  k_unmd; k_fold
  k_steps
  constructor
  rename News _ _ _ _ => N2
  rename Fr _ _ _ _ => F2
  refine LCt.ListComp_T F2 (by with_unfolding_all rfl) (by decide) (by rfl) (by decide) (by rfl) ?_
  k_steps
  refine LCt.CompSrcT.ledger rfl F2 N2 (by k_mem) (by rw [sizeLine_eq, List.size_toArray, List.length_map, List.length_map]; omega) ?_
  intro g'
  refine compT (fun i => match las[i]? with | some r => goesBefore r.r q.r | none => false) (fun i y => ∃ r, las[i]? = some r ∧ y = .ref r.x) (.inr ⟨_, by k_mem, rfl, _, rfl⟩) ?test ?elts ?fin
  case test =>
    intro i v I' oI' C' oC' D' m2 ys h tk E' hi hP hC hx F3 N3 off3 ne3
    obtain ⟨r, hr, hv⟩ : ∃ r, las[i]? = some r ∧ v = .ref r.x := by
      rw [List.getElem?_toArray, List.map_map, List.getElem?_map, Option.map_eq_some_iff] at hP
      obtain ⟨r, hr, e⟩ := hP
      exact ⟨r, hr, e.symm⟩
    subst hv
    obtain ⟨mr1, mr2⟩ := K.led r (List.mem_of_getElem? hr)
    dsimp only
    rw [hr]
    dsimp only
    clear N2 F2
    k_unmd; k_fold
    k_steps
    constructor
    refine goes_step B F3 X N3 T rfl rfl (by k_mem) (by k_mem) (by k_mem) (by k_mem) ?_
    intro h6 tk6 F6 N6
    clear F3 N3
    dsimp only
    k_steps
    exact ⟨rfl, _, _, rfl, F6, N6⟩
  case elts =>
    intro i v I' oI' C' oC' D' m2 ys h tk E' hi hP hp hC hx F3 N3 off3 ne3
    obtain ⟨r, hr, hv⟩ : ∃ r, las[i]? = some r ∧ v = .ref r.x := by
      rw [List.getElem?_toArray, List.map_map, List.getElem?_map, Option.map_eq_some_iff] at hP
      obtain ⟨r, hr, e⟩ := hP
      exact ⟨r, hr, e.symm⟩
    subst hv
    clear N2 F2
    k_unmd; k_fold
    k_steps
    exact ⟨⟨r, hr, rfl⟩, _, _, rfl, F3, N3⟩
  case fin =>
    intro ys hys
    have hys' : ys.length = (las.filter fun r => goesBefore r.r q.r).length := by
      have e1 := hys.length
      rw [List.size_toArray, List.length_map, List.length_map] at e1
      rw [← e1]; exact (congrArg List.length (List.filter_congr fun i _ => by cases las[i]? <;> rfl)).trans (range_filter_len las (fun r => goesBefore r.r q.r))
    clear hys N2 F2
    intro D h tk F3 N3 off3
    dsimp only
    have hyl : ys.length ≤ 1000 := by
      have := List.length_filter_le (fun r : Info => goesBefore r.r q.r) las
      omega
    have hat : ks[ys.length]? = some q.k := by rw [hys']; exact placed_at K.perm K.ord K.key hq
    obtain ⟨tq, hvat⟩ := ints_get' K.isInts hat
    have hvl : vs.length ≤ 1000 := by
      have := K.perm.length_eq
      rw [ints_len K.isInts, this, List.length_map]; omega
    k_unmd; k_fold
    k_steps
    · rename ¬ q.k = q.r.var => a
      exact absurd hkv.symm a
    · have off5 : ∀ oF', ∀ p ∈ (L + 1 + 1 + 1 + 1, oF') :: dyn, p.1 ≠ I := by
        intro oF' p hp
        rcases List.mem_cons.mp hp with rfl | hp
        · exact off (_, oF) (.head _)
        · exact off p (.tail _ hp)
      exact TurnEnd.intro (h' := h) F3 (fun p hp => N3 p (.tail _ hp)) (off5 _) ⟨_, rfl, ⟨_, by assumption⟩, rfl, rfl⟩
end
section
def iv : Value → Int
  | .int k _ => k
  | _ => 0
def FKi (v : Value) (k : Int) : Prop := ∃ t, v = .int k t
def FVi (infos : List Info) (v y : Value) : Prop := ∃ q ∈ infos, ∃ t, v = .int q.k t ∧ y = .ref q.x
def inD (infos : List Info) : Value → Bool
  | .int k _ => infos.any fun q => decide (q.k = k)
  | _ => false
theorem rebuilt1 {infos : List Info} {l : List Value} {kvs : List (Int × Value)} (S : StoredAll FKi (FVi infos) l kvs) : (l.map iv).Nodup → ∃ infos', kvs = kvsOf infos' ∧ (∀ q ∈ infos', q ∈ infos) ∧ infos'.map (·.k) = l.map iv := by
  induction S with
  | nil => intro _; exact ⟨[], rfl, fun q h => (by cases h), rfl⟩
  | @snoc l kvs v k y S hk hy ih =>
    intro hn
    rw [List.map_append, List.nodup_append] at hn
    obtain ⟨infos', rfl, hsub, hkeys⟩ := ih hn.1
    obtain ⟨t, rfl⟩ := hk
    obtain ⟨q, hq, t', e1, rfl⟩ := hy
    have e2 : q.k = k := by injection e1 with a _; exact a.symm
    refine ⟨infos' ++ [q], ?_, ?_, ?_⟩
    · have hnot : ∀ p ∈ infos', p.k ≠ k := fun p hp e => by
        have h1 : k ∈ l.map iv := by rw [← hkeys, ← e]; exact List.mem_map.mpr ⟨p, hp, rfl⟩
        exact hn.2.2 _ h1 k (by simp [iv]) rfl
      unfold stored
      rw [if_neg (by
        intro h
        obtain ⟨x, hx, hd⟩ := List.any_eq_true.mp h
        obtain ⟨p, hp, rfl⟩ := List.mem_map.mp hx
        exact hnot p hp (of_decide_eq_true hd))]
      simp [kvsOf, e2]
    · intro p hp
      rcases List.mem_append.mp hp with hp | hp
      · exact hsub p hp
      · rw [List.mem_singleton.mp hp]; exact hq
    · rw [List.map_append, List.map_append, hkeys]; simp [iv, e2]
theorem rebuilt {infos : List Info} {vs : List Value} {kvs : List (Int × Value)} (hn : (infos.map (·.k)).Nodup) (hran : ∀ q ∈ infos, 0 ≤ q.k ∧ q.k < 8) (hl : vs.length = 8) (hv : ∀ (j : Nat) (v : Value), vs[j]? = some v → ∃ t, v = Value.int (7 + (j : Int) * -1) t)
    (S : StoredAll FKi (FVi infos) (vs.filter (inD infos)) kvs) : ∃ infos', kvs = kvsOf infos' ∧ (∀ q ∈ infos', q ∈ infos) ∧ (infos'.map (·.k)).Perm (infos.map (·.k)) := by
  have e1 : vs.map iv = [7, 6, 5, 4, 3, 2, 1, 0] := by
    apply List.ext_getElem?
    intro j
    rw [List.getElem?_map]
    by_cases hj : j < vs.length
    · obtain ⟨t, ht⟩ := hv j _ (List.getElem?_eq_getElem hj)
      rw [List.getElem?_eq_getElem hj, ht]
      rw [hl] at hj
      show some (7 + (j : Int) * -1) = _
      match j, hj with
      | 0, _ => rfl
      | 1, _ => rfl
      | 2, _ => rfl
      | 3, _ => rfl
      | 4, _ => rfl
      | 5, _ => rfl
      | 6, _ => rfl
      | 7, _ => rfl
    · rw [List.getElem?_eq_none (by omega), List.getElem?_eq_none (by simp; omega)]; rfl
  have e2 : (vs.filter (inD infos)).map iv = [7, 6, 5, 4, 3, 2, 1, 0].filter fun k => infos.any fun q => decide (q.k = k) := by
    rw [← e1, List.filter_map]
    congr 1
    refine List.filter_congr fun v hm => ?_
    obtain ⟨j, hj, e⟩ := List.mem_iff_getElem.mp hm
    obtain ⟨t, ht⟩ := hv j v (by rw [← e]; exact List.getElem?_eq_getElem hj)
    rw [ht]; rfl
  have nd8 : ([7, 6, 5, 4, 3, 2, 1, 0] : List Int).Nodup := by decide
  obtain ⟨infos', h1, h2, h3⟩ := rebuilt1 S (by rw [e2]; exact nd8.sublist List.filter_sublist)
  refine ⟨infos', h1, h2, ?_⟩
  rw [h3, e2]
  refine (List.perm_ext_iff_of_nodup (nd8.sublist List.filter_sublist) hn).mpr fun k => ?_
  rw [List.mem_filter, List.any_eq_true, List.mem_map]
  constructor
  · rintro ⟨_, q, hq, e⟩; exact ⟨q, hq, of_decide_eq_true e⟩
  · rintro ⟨q, hq, rfl⟩
    refine ⟨?_, q, hq, decide_eq_true rfl⟩
    have := hran q hq
    have hc : q.k = 0 ∨ q.k = 1 ∨ q.k = 2 ∨ q.k = 3 ∨ q.k = 4 ∨ q.k = 5 ∨ q.k = 6 ∨ q.k = 7 := by omega
    rcases hc with e | e | e | e | e | e | e | e <;> rw [e] <;> decide
end
section
def restAt (i : Nat) : List Stmt := (bodyOf lawDef).drop i
local macro_rules | `(tactic| k_ne) => `(tactic| (refine neN ?_; (try dsimp only); first | exact NE.out (by assumption) | exact (NE.out (by assumption)).symm | omega))
local macro_rules | `(tactic| k_mem) => `(tactic| assumption)
local macro_rules | `(tactic| walk_at "eval DictComp") => `(tactic| (k_here; refine Stop.out ?_))
local macro_rules | `(tactic| walk_at "call ref") => `(tactic| (k_here; (with_reducible show wpAny _ _ (call (Value.ref 91) _) _ _ _); refine Stop.out ?_))
local macro_rules | `(tactic| walk_at "compareOp Eq ref ref") => `(tactic| (k_here; refine Stop.out ?_))
theorem any_isSome (infos : List Info) (k : Int) : (valueAt (kvsOf infos) k).isSome = infos.any fun q => decide (q.k = k) := by
  cases h : infos.any fun q => decide (q.k = k) with
  | true =>
    obtain ⟨q, hq, e⟩ := List.any_eq_true.mp h
    obtain ⟨_, q', _, _, _, hv⟩ := valueAt_kvs_some (l := infos) (k := k) ⟨q, hq, of_decide_eq_true e⟩
    rw [hv]; rfl
  | false =>
    rw [valueAt_kvs_none fun q hq e => by
      have := List.any_eq_false.mp h q hq
      simp [e] at this]; rfl
theorem iter_kept {h h3 : Heap} {x : Obj} (hk : ∀ b o, b ∉ [h.objs.size] → (h.push x).get? b = some o → h3.get? b = some o) : ∀ b o, h.get? b = some o → h3.get? b = some o :=
  fun b o e => hk b o (fun hm => absurd (Heap.lt_size e) (by rw [List.mem_singleton.mp hm]; exact Nat.lt_irrefl _)) (Heap.get?_push_of_some _ e)
theorem none_ne {h : Heap} {x : Obj} {D a : Addr} {o : Obj} (e : (h.push x).get? D = none) (ha : h.get? a = some o) : a ≠ D := by
  rintro rfl
  rw [Heap.get?_push_of_some _ ha] at e
  cases e
theorem news_kept {h₀ h h3 : Heap} {L : Addr} {news : List (Addr × Obj)} (N : News h₀ L h news) (hk : ∀ b o, h.get? b = some o → h3.get? b = some o) : News h₀ L h3 news := fun p hp => ⟨hk _ _ (N p hp).1, (N p hp).2⟩
theorem inD_some {infos : List Info} {k : Int} {t : Tok} (h : inD infos (.int k t) = true) : ∃ q ∈ infos, q.k = k ∧ valueAt (kvsOf infos) k = some (.ref q.x) := by
  obtain ⟨q, hq, e⟩ := List.any_eq_true.mp h
  obtain ⟨pre, q', post, e2, hk, hv⟩ := valueAt_kvs_some (l := infos) (k := k) ⟨q, hq, of_decide_eq_true e⟩
  exact ⟨q', by rw [e2]; simp, hk, hv⟩
/-- the last line of the law -/
theorem tail12 {w : World} {mean : ExcName → Option Value} {mg mb : Str → Option Value} {base h₀ : Heap} {L fa ia pl : Addr} {cd : Value} {m : Str → Option Value} {s : Shared} {Q : Flow → Shared → Prop} {E : Value → Shared → Prop} {oC oD : Obj}
    {dyn : List (Addr × Obj)} {infos : List Info} {np : Nat} {vs : List Value} {ks : List Int} {g : Int → Int} {pm : Int → Bool}
    (B : Below callerA base [] h₀) (X : (hd.heap_39 w.params).In h₀) (T : TT mean mg mb h₀) (F : Fr h₀ L s.heap m) (N : News h₀ L s.heap ((L + 1 + 1, oC) :: dyn)) (hC : oC.data = .cell (some (.ref ia))) (hm : (ia, oD) ∈ dyn)
    (hD : oD.IsDictOf (PySem.intKind PySem.Challenge.rw_rh0064_01.row.prog w) (kvsOf infos)) (lo : (ia == sysModules) = false) (hlen : infos.length ≤ 8) (hran : ∀ q ∈ infos, 0 ≤ q.k ∧ q.k < 8)
    (hled : ∀ q ∈ infos, (q.x, instObj 38 q.dx) ∈ dyn ∧ (q.dx, dictOf (recEs w q.r q.tr) 9) ∈ dyn)
    (hg : ∀ q ∈ infos, g q.k = q.r.goal ∧ pm q.k = decide (q.r.kind = Str.ofString "perm"))
    (mp : (pl, listOf vs.toArray np) ∈ dyn) (hI : IntsAre vs ks) (hperm : ks.Perm ((infos.map (·.k)).filter pm)) (hord : ks.Pairwise (bef g)) (mv : m (Str.ofString "placed") = some (.ref pl))
    (h : ∀ h' m' tk', Fr h₀ L h' m' → Q (.ret (.bool true)) { s with heap := h', toks := tk' }) :
    wpAny (model PySem.Challenge.rw_rh0064_01.row.prog w) (callerA.deeper (lawEnv L fa cd)) (execs (restAt 12) (lawEnv L fa cd)) Q E s := by
  w_top off
  k_with_none
  revert X; k_fill; intro X
  have F1 := fr_see [(Str.ofString "placed", .ref pl)] F (by
    intro p hp
    rw [List.mem_singleton.mp hp]
    exact mv)
  have hs : scopeOf lawDef = Scope.mk _ _ _ _ _ := rfl
  unfold lawEnv
  rw [hs]
  show wpAny _ _ (execs (_ :: _) _) _ _ _
  (try k_unmd); (try k_fold)
  k_steps
  constructor
  refine wpAny_DictComp_free (PySem.intKind _ _) (inD infos) FKi (FVi infos) (by with_unfolding_all rfl) (by decide) (by rfl) (by decide) (by rfl) ?_
  k_steps
  rename Fr _ _ _ _ => F2
  rename News _ _ _ _ => N2
  have hnd : (infos.map (·.k)).Nodup := by
    obtain ⟨_, _, _, _, _, _, _, _, hn⟩ := kda_dict (s := ⟨_, s.gens, s.drawn, s.toks, s.os⟩) N2 (.tail _ hm) hD
    have e : (kvsOf infos).map (·.1) = infos.map (·.k) := by simp [kvsOf, Function.comp_def]
    rw [e] at hn; exact hn
  rename IsRange _ _ _ _ _ _ _ _ => hRg
  rename ∀ (b : Addr) (o : Obj), _ → _ => hKp
  refine wpAny_pyIter_range hRg rfl ?_
  refine ⟨_, _, _, 8, _, _, rfl, Walks.range rfl _ 7 (-1) 8, by decide, Heap.get?_push_size _ rfl, ?fpb, ⟨?tests, ?key, ?val⟩, ?fin⟩
  case fpb =>
    intro b hb
    rw [List.mem_singleton.mp hb]
    dsimp only
    rw [Heap.size_push]
    exact Nat.lt_succ_self _
  case tests =>
    rintro C i v s3 m3 E' ⟨t, rfl⟩ hC' hv hk
    refine wpAny_tests_one ?_
    have kp := iter_kept hk
    have N3 : News h₀ L s3.heap ((L + 1 + 1, oC) :: dyn) := news_kept N2 kp
    have hcell : s3.heap.IsCell (L + 1 + 1) (some (.ref ia)) := ⟨oC, (N3 _ (.head _)).1, hC⟩
    refine wpAny_isTrue_Compare1 (wpAny_Name (wpAny_loadName_local rfl rfl hC' hv (wpAny_Name (wpAny_loadName_cell rfl rfl rfl hcell ?_))))
    refine kda_in (knd := PySem.intKind _ _) N3 (.tail _ hm) hD lo (intKind_is _ _ _ _) (infos.any fun q => decide (q.k = 7 + (i : Int) * -1)) (any_isSome _ _) ?_
    refine wpAny_truthy_bool ⟨rfl, _, _, rfl, fun _ _ e => e⟩
  case key =>
    rintro C i v s3 m3 E' ⟨t, rfl⟩ hp hC' hv hk
    exact wpAny_Name (wpAny_loadName_local rfl rfl hC' hv ⟨⟨_, intKind_is _ _ _ _, ⟨t, rfl⟩⟩, _, _, rfl, fun _ _ e => e⟩)
  case val =>
    rintro C i v s3 m3 E' ⟨t, rfl⟩ hp hC' hv hk
    have kp := iter_kept hk
    have N3 : News h₀ L s3.heap ((L + 1 + 1, oC) :: dyn) := news_kept N2 kp
    have hcell : s3.heap.IsCell (L + 1 + 1) (some (.ref ia)) := ⟨oC, (N3 _ (.head _)).1, hC⟩
    obtain ⟨q, hq, hqk, hval⟩ := inD_some hp
    have hdd := kda_dict N3 (.tail _ hm) hD
    refine wpAny_Subscript_Name_late (wpAny_Name (wpAny_loadName_cell rfl rfl rfl hcell (wpAny_Name (wpAny_loadName_local rfl rfl hC' hv ?_))))
    exact ⟨_, _, slot_dict_getitem.lookup, hdd.typeIs, wpAny_getItem_of (intKind_is _ _ _ _) hdd.mapOf hval ⟨⟨q, hq, t, by rw [hqk], rfl⟩, _, _, rfl, fun _ _ e => e⟩⟩
  case fin =>
    intro D h3 tk kvs vs' hDn hDict hvl hvs hS hk
    have kp := iter_kept hk
    obtain ⟨infos', rfl, hsub, hperm'⟩ := rebuilt hnd hran hvl (fun j v e => hvs j v e) hS
    obtain ⟨oD', ho', hD'⟩ := Heap.dictOf_iff.mp hDict
    have N3 : News h₀ L h3 ((L + 1 + 1, oC) :: dyn) := news_kept N2 kp
    have F3 := F2.kept kp
    have hlo : (D == sysModules) = false := by
      obtain ⟨mm, ⟨o, _, _, ho, _⟩, _⟩ := (T.seer (by decide +kernel)).mods
      have := none_ne hDn (F2.keep _ _ ho)
      simpa using this.symm
    have offD : ∀ p ∈ (L + 1 + 1, oC) :: dyn, p.1 ≠ D := fun p hp => none_ne hDn (N2 p hp).1
    have N4 : News h₀ L h3 ((D, oD') :: (L + 1 + 1, oC) :: dyn) := by
      intro p hp
      rcases List.mem_cons.mp hp with rfl | hp
      · obtain ⟨o, _, _, ho, _⟩ := F2.ns
        refine ⟨ho', (none_ne hDn ho).symm, ?_⟩
        cases e : h₀.get? D with
        | none => rfl
        | some o => exact absurd rfl (none_ne hDn (F2.keep _ _ e))
      · exact N3 p hp
    dsimp only
    k_steps
    constructor
    refine order_call B F3 X N4 T rfl rfl (.head _) hD' hlo (by have := hperm'.length_eq; simp only [List.length_map] at this; omega) (fun q hq => ⟨.tail _ (.tail _ (hled q (hsub q hq)).1), .tail _ (.tail _ (hled q (hsub q hq)).2)⟩) (fun q hq => hg q (hsub q hq)) ?_
    clear F3 N3 F2 N2 N4
    intro D2 vs2 ks2 n2 h4 tk4 hI2 hP2 hO2 F4 N4 off4
    have hks : ks2 = ks := ord_unique hO2 hord (hP2.trans ((hperm'.filter pm).trans hperm.symm))
    dsimp only
    k_steps
    constructor
    refine eq_intsK (News.isList N4 (.head _)) hI2 (News.isList N4 (.tail _ (.tail _ (.tail _ mp)))) hI (by ke_room) ?_
    rw [decide_eq_true hks]
    exact h _ _ _ F4
end
section
local macro_rules | `(tactic| k_ne) => `(tactic| (refine neN ?_; (try dsimp only); first | exact NE.out (by assumption) | exact (NE.out (by assumption)).symm | omega))
local macro_rules | `(tactic| k_mem) => `(tactic| assumption)
local macro_rules | `(tactic| walk_at "exec For Name Name cons nil") => `(tactic| ((with_reducible show wpAny _ _ (exec (Stmt.For _ _ _ _ _) _) _ _ _); refine Stop.out ?_))
/-- the third loop and the last line -/
theorem tail11 {w : World} {mean : ExcName → Option Value} {mg mb : Str → Option Value} {base h₀ : Heap} {L fa ia ll pl : Addr} {cd : Value} {m : Str → Option Value} {s : Shared} {Q : Flow → Shared → Prop} {oC oD oF : Obj}
    {dyn : List (Addr × Obj)} {infos las : List Info} {nl np : Nat} {vs : List Value} {ks : List Int} {g : Int → Int} {pm : Int → Bool}
    (B : Below callerA base [] h₀) (X : (hd.heap_39 w.params).In h₀) (T : TT mean mg mb h₀) (F : Fr h₀ L s.heap m) (N : News h₀ L s.heap ((L + 1 + 1 + 1 + 1, oF) :: dyn))
    (K : LastOk w L ll pl dyn las nl vs ks np g) (hJ : LastJ L ll pl dyn m ((L + 1 + 1 + 1 + 1, oF) :: dyn) oF)
    (mC : (L + 1 + 1, oC) ∈ dyn) (hC : oC.data = .cell (some (.ref ia))) (hm : (ia, oD) ∈ dyn)
    (hD : oD.IsDictOf (PySem.intKind PySem.Challenge.rw_rh0064_01.row.prog w) (kvsOf infos)) (lo : (ia == sysModules) = false) (hlen : infos.length ≤ 8) (hran : ∀ q ∈ infos, 0 ≤ q.k ∧ q.k < 8)
    (hled : ∀ q ∈ infos, (q.x, instObj 38 q.dx) ∈ dyn ∧ (q.dx, dictOf (recEs w q.r q.tr) 9) ∈ dyn)
    (hg : ∀ q ∈ infos, g q.k = q.r.goal ∧ pm q.k = decide (q.r.kind = Str.ofString "perm"))
    (hperm : ks.Perm ((infos.map (·.k)).filter pm))
    (h : ∀ h' m' tk', Fr h₀ L h' m' → Q (.ret (.bool true)) { s with heap := h', toks := tk' }) :
    wpAny (model PySem.Challenge.rw_rh0064_01.row.prog w) (callerA.deeper (lawEnv L fa cd)) (execs (restAt 11) (lawEnv L fa cd)) Q (fun _ _ => False) s := by
  w_top off
  k_with_none
  revert X; k_fill; intro X
  have F1 := fr_see [(Str.ofString "lasting", .ref ll), (Str.ofString "placed", .ref pl)] F (by
    intro p hp
    simp only [List.mem_cons, List.not_mem_nil, or_false] at hp
    rcases hp with rfl | rfl
    · exact hJ.mv1
    · exact hJ.mv2)
  have hs : scopeOf lawDef = Scope.mk _ _ _ _ _ := rfl
  unfold lawEnv
  rw [hs]
  show wpAny _ _ (execs (_ :: _) _) _ _ _
  (try k_unmd); (try k_fold)
  k_steps
  constructor
  rename Fr _ _ _ _ => F2
  refine For_turns F2 ?_
  k_steps
  refine turns_list (l := ll) rfl (.tail _ K.ml) F2 N (fun i m1 news1 => ∃ oF, LastJ L ll pl dyn m1 news1 oF) ⟨oF, rfl, hJ.cF, rfl, rfl⟩ ?hkeep ?turn ?done
  case hkeep =>
    rintro i m1 news1 ⟨oF', ok⟩
    rw [ok.led]; exact .tail _ K.ml
  case turn =>
    rintro i v m1 news1 I oI h4 tk4 hv ⟨oF', ok⟩ F4 N4 off4
    obtain ⟨q, hq, rfl⟩ : ∃ q ∈ las, v = .ref q.x := by
      have := List.mem_of_getElem? (show ((las.map (·.x)).map Value.ref)[i]? = some v by simpa using hv)
      rw [List.map_map] at this
      obtain ⟨q, hq, e⟩ := List.mem_map.mp this
      exact ⟨q, hq, e.symm⟩
    exact turn3 B X T K hq ok F4 N4 off4
  case done =>
    rintro m1 news1 h4 tk4 ⟨oF', ok⟩ F4 N4
    have hl := ok.led
    subst hl
    have N5 : News h₀ L h4 ((L + 1 + 1, oC) :: dyn) := by
      intro p hp
      rcases List.mem_cons.mp hp with rfl | hp
      · exact N4 _ (.tail _ mC)
      · exact N4 _ (.tail _ hp)
    exact tail12 (L := L) (fa := fa) (cd := cd) (E := fun _ _ => False) (Q := Q) B X T F4 N5 hC hm hD lo hlen hran hled hg K.mp K.isInts hperm K.ord ok.mv2 fun h' m' tk' F' => h h' m' tk' F'
end
section
def findK (infos : List Info) (k : Int) : Option Info := infos.find? fun q => decide (q.k = k)
def gOf (infos : List Info) (k : Int) : Int := match findK infos k with
  | some q => q.r.goal
  | none => 0
def pmOf (infos : List Info) (k : Int) : Bool := match findK infos k with
  | some q => decide (q.r.kind = Str.ofString "perm")
  | none => false
def lasAt (infos : List Info) (k : Nat) : Option Info := (findK infos (k : Int)).bind fun q => if kindOf q.r = Str.ofString "perm" then some q else none
def lasOf (infos : List Info) : List Info := (List.range 8).filterMap (lasAt infos)
theorem findK_some {infos : List Info} {k : Int} {q : Info} (h : findK infos k = some q) : q ∈ infos ∧ q.k = k :=
  ⟨List.mem_of_find?_eq_some h, by have := List.find?_some h; exact of_decide_eq_true this⟩
theorem findK_mem {infos : List Info} (hn : (infos.map (·.k)).Nodup) {q : Info} (hq : q ∈ infos) : findK infos q.k = some q := by
  induction infos with
  | nil => cases hq
  | cons p l ih =>
    rw [List.map_cons, List.nodup_cons] at hn
    unfold findK
    rw [List.find?_cons]
    rcases List.mem_cons.mp hq with rfl | hm
    · simp
    · have hne : p.k ≠ q.k := fun e => hn.1 (by rw [e]; exact List.mem_map.mpr ⟨q, hm, rfl⟩)
      rw [decide_eq_false hne]
      exact ih hn.2 hm
theorem key_of {infos : List Info} (hn : (infos.map (·.k)).Nodup) : ∀ q ∈ infos, gOf infos q.k = q.r.goal ∧ pmOf infos q.k = decide (q.r.kind = Str.ofString "perm") := fun q hq => by
  unfold gOf pmOf
  rw [findK_mem hn hq]
  exact ⟨rfl, rfl⟩
theorem lasOf_x (infos : List Info) : (List.range 8).filterMap (permAt infos) = (lasOf infos).map (·.x) := by
  unfold lasOf
  rw [List.map_filterMap]
  congr 1
  funext k
  unfold permAt lasAt findK
  cases infos.find? fun q => decide (q.k = (k : Int)) with
  | none => rfl
  | some q =>
    show (if _ then _ else _) = Option.map _ (if _ then _ else _)
    by_cases h : kindOf q.r = Str.ofString "perm"
    · rw [if_pos h, if_pos h]; rfl
    · rw [if_neg h, if_neg h]; rfl
theorem lasAt_some {infos : List Info} {k : Nat} {q : Info} (h : lasAt infos k = some q) : q ∈ infos ∧ q.k = (k : Int) ∧ kindOf q.r = Str.ofString "perm" := by
  unfold lasAt at h
  obtain ⟨p, hp, h⟩ := Option.bind_eq_some_iff.mp h
  by_cases hk : kindOf p.r = Str.ofString "perm"
  · rw [if_pos hk] at h
    cases h
    exact ⟨(findK_some hp).1, (findK_some hp).2, hk⟩
  · rw [if_neg hk] at h; cases h
theorem lasOf_sub {infos : List Info} : ∀ q ∈ lasOf infos, q ∈ infos := fun q hq => by
  obtain ⟨k, _, h⟩ := List.mem_filterMap.mp hq
  exact (lasAt_some h).1
theorem lasOf_len (infos : List Info) : (lasOf infos).length ≤ 8 := List.length_filterMap_le _ _
theorem keys_of (F : Nat → Option Info) (hF : ∀ i q, F i = some q → q.k = (i : Int)) (l : List Nat) : (l.filterMap F).map (·.k) = (l.filter fun i => (F i).isSome).map fun (i : Nat) => (i : Int) := by
  induction l with
  | nil => rfl
  | cons i l ih =>
    rw [List.filterMap_cons, List.filter_cons]
    cases e : F i with
    | none => simpa using ih
    | some q => simp [ih, hF i q e]
theorem nodup_cast {l : List Nat} (h : l.Nodup) : (l.map fun (i : Nat) => (i : Int)).Nodup := by
  unfold List.Nodup at h ⊢
  rw [List.pairwise_map]
  exact h.imp fun hne e => hne (Int.ofNat.inj e)
theorem lasOf_keys {infos : List Info} (hn : (infos.map (·.k)).Nodup) (hran : ∀ q ∈ infos, 0 ≤ q.k ∧ q.k < 8) (hkind : ∀ q ∈ infos, q.r.kind = kindOf q.r) : ((infos.map (·.k)).filter (pmOf infos)).Perm ((lasOf infos).map (·.k)) := by
  have e := keys_of (lasAt infos) (fun i q h => (lasAt_some h).2.1) (List.range 8)
  refine (List.perm_ext_iff_of_nodup (hn.sublist List.filter_sublist) ?_).mpr fun k => ?_
  · unfold lasOf
    rw [e]
    exact nodup_cast (List.nodup_range.sublist List.filter_sublist)
  · rw [List.mem_filter, List.mem_map, List.mem_map]
    constructor
    · rintro ⟨⟨q, hq, rfl⟩, hp⟩
      rw [(key_of hn q hq).2] at hp
      have hr := hran q hq
      refine ⟨q, List.mem_filterMap.mpr ⟨q.k.toNat, List.mem_range.mpr (by omega), ?_⟩, rfl⟩
      unfold lasAt
      have hc : ((q.k.toNat : Nat) : Int) = q.k := by omega
      rw [hc, findK_mem hn hq]
      show (if _ then _ else _) = _
      rw [if_pos (by rw [← hkind q hq]; exact of_decide_eq_true hp)]
    · rintro ⟨q, hq, rfl⟩
      have hm := lasOf_sub q hq
      obtain ⟨i, _, h⟩ := List.mem_filterMap.mp hq
      refine ⟨⟨q, hm, rfl⟩, ?_⟩
      rw [(key_of hn q hm).2, hkind q hm]
      exact decide_eq_true (lasAt_some h).2.2
theorem in_count {infos : List Info} (hn : (infos.map (·.k)).Nodup) (hran : ∀ q ∈ infos, 0 ≤ q.k ∧ q.k < 8) : ((List.range 8).filter fun (i : Nat) => infos.any fun q => decide (q.k = 0 + (i : Int))).length = infos.length := by
  have hp : (((List.range 8).filter fun (i : Nat) => infos.any fun q => decide (q.k = 0 + (i : Int))).map fun (i : Nat) => (i : Int)).Perm (infos.map (·.k)) := by
    refine (List.perm_ext_iff_of_nodup (nodup_cast (List.nodup_range.sublist List.filter_sublist)) hn).mpr fun k => ?_
    rw [List.mem_map, List.mem_map]
    constructor
    · rintro ⟨i, hi, rfl⟩
      obtain ⟨q, hq, e⟩ := List.any_eq_true.mp (List.mem_filter.mp hi).2
      have e2 := of_decide_eq_true e
      exact ⟨q, hq, by omega⟩
    · rintro ⟨q, hq, rfl⟩
      have hr := hran q hq
      exact ⟨q.k.toNat, List.mem_filter.mpr ⟨List.mem_range.mpr (by omega), List.any_eq_true.mpr ⟨q, hq, decide_eq_true (by omega)⟩⟩, by omega⟩
  have := hp.length_eq
  rwa [List.length_map, List.length_map] at this
theorem infos_len {infos : List Info} (hn : (infos.map (·.k)).Nodup) (hran : ∀ q ∈ infos, 0 ≤ q.k ∧ q.k < 8) : infos.length ≤ 8 := by
  rw [← in_count hn hran]
  have := List.length_filter_le (fun i => infos.any fun q => decide (q.k = 0 + ((i : Nat) : Int))) (List.range 8)
  rwa [List.length_range] at this
end
section
local macro_rules | `(tactic| k_ne) => `(tactic| (refine neN ?_; (try dsimp only); first | exact NE.out (by assumption) | exact (NE.out (by assumption)).symm | omega))
local macro_rules | `(tactic| k_mem) => `(tactic| assumption)
local macro_rules | `(tactic| walk_at "call ref") => `(tactic| (k_here; (with_reducible show wpAny _ _ (call (Value.ref 91) _) _ _ _); refine Stop.out ?_))
local macro_rules | `(tactic| walk_at "eval ListComp") => `(tactic| (k_here; refine Stop.out ?_))
local macro_rules | `(tactic| walk_at "execs cons") => `(tactic| (k_here; (with_reducible show wpAny _ _ (execs (Stmt.For _ (PySem.Expr.Name _ _) _ _ _ :: _) _) _ _ _); refine Stop.out ?_))
local macro_rules | `(tactic| walk_at "call builtin:len") => `(tactic| (k_here; (with_reducible show wpAny _ _ (call (Value.builtin "len") [Value.ref _]) _ _ _); k_dflt (refine len_L (by k_asm) (by k_mem) (by rw [List.size_toArray]; (try rw [List.length_map]); omega) ?_)))
local macro_rules | `(tactic| walk_at "call builtin:len") => `(tactic| (k_here; (with_reducible show wpAny _ _ (call (Value.builtin "len") [Value.ref _]) _ _ _); k_dflt (refine kda_len (knd := PySem.intKind _ _) (by k_asm) (by k_mem) (by assumption) (by assumption) (by assumption) ?_)))
local macro_rules | `(tactic| walk_at "CompSrcT") => `(tactic| (k_here; refine Stop.out ?_))
local macro_rules | `(tactic| walk_at "compareOp In int ref") => `(tactic| (k_here; k_dflt (refine kda_in (knd := PySem.intKind _ _) (by k_asm) (by k_mem) (by assumption) (by assumption) (intKind_is _ _ _ _) _ (by assumption) ?_)))
/-- from slot_order to the end -/
theorem tail9 {w : World} {mean : ExcName → Option Value} {mg mb : Str → Option Value} {base h₀ : Heap} {L fa ll : Addr} {cd : Value} {m : Str → Option Value} {s : Shared} {Q : Flow → Shared → Prop} {ad : Ad} {news : List (Addr × Obj)}
    (B : Below callerA base [] h₀) (X : (hd.heap_39 w.params).In h₀) (T : TT mean mg mb h₀) (F : Fr h₀ L s.heap m) (N : News h₀ L s.heap news) (hJ : CheckJ w L ad ll 8 m news)
    (h_ : ∀ h' m' tk', Fr h₀ L h' m' → Q (.ret (.bool true)) { s with heap := h', toks := tk' }) :
    wpAny (model PySem.Challenge.rw_rh0064_01.row.prog w) (callerA.deeper (lawEnv L fa cd)) (execs (restAt 9) (lawEnv L fa cd)) Q (fun _ _ => False) s := by
  w_top off
  k_with_none
  revert X; k_fill; intro X
  obtain ⟨z, las, nl, rfl, ok⟩ := hJ
  have hdict := ok.dict
  have hlo := ok.lo
  have hcC := ok.cC
  have hran : ∀ q ∈ z.infos, 0 ≤ q.k ∧ q.k < 8 := fun q hq => by
    obtain ⟨r, hr, e⟩ := ok.only q hq
    have := ok.rows.small r hr
    omega
  have hkind : ∀ q ∈ z.infos, q.r.kind = kindOf q.r := fun q hq => by
    obtain ⟨_, _, _, _, hk⟩ := ok.recs q hq
    exact hk (hran q hq).2
  have knd : (z.infos.map (·.k)).Nodup := by
    obtain ⟨_, _, _, _, _, _, _, _, hn⟩ := kda_dict N (.tail _ (.tail _ (.head _))) hdict
    have e : (kvsOf z.infos).map (·.1) = z.infos.map (·.k) := by simp [kvsOf, Function.comp_def]
    rw [e] at hn; exact hn
  have F1 := fr_see [(Str.ofString "lasting", .ref ll)] F (by
    intro p hp
    rw [List.mem_singleton.mp hp]
    exact ok.mv1)
  have hled : ∀ q ∈ z.infos, (q.x, instObj 38 q.dx) ∈ led2 w L ad ll z las nl ∧ (q.dx, dictOf (recEs w q.r q.tr) 9) ∈ led2 w L ad ll z las nl := fun q hq => by
    obtain ⟨a, b, e⟩ := List.append_of_mem hq
    constructor
    · refine List.mem_append_right _ (List.mem_append_left _ ?_)
      rw [e, infoLed_append]; exact List.mem_append_right _ (.head _)
    · refine List.mem_append_right _ (List.mem_append_left _ ?_)
      rw [e, infoLed_append]; exact List.mem_append_right _ (.tail _ (.head _))
  have hmC : (L + 1 + 1, z.oC) ∈ led2 w L ad ll z las nl := .tail _ (.tail _ (.tail _ (.tail _ (.tail _ (.tail _ (.tail _ (.tail _ (.head _))))))))
  have hmF : (L + 1 + 1 + 1 + 1, z.oF) ∈ led2 w L ad ll z las nl := .tail _ (.tail _ (.tail _ (.tail _ (.tail _ (.tail _ (.head _))))))
  have hmD : (ad.ia, z.oD) ∈ led2 w L ad ll z las nl := .tail _ (.tail _ (.head _))
  have hmL : (ll, listOf (las.map Value.ref).toArray nl) ∈ led2 w L ad ll z las nl := .head _
  obtain ⟨⟨_, _, _, _, _, ne5, _, _, _, _⟩, _, _, ⟨_, nh2, _, _, _, _⟩, hoff⟩ := led2_ne (I := s.heap.objs.size) ok.nodup (fun p hp => Nat.ne_of_lt (Heap.lt_size (N p hp).1))
  have hq4 : ∀ q ∈ z.infos, q.x ≠ L + 1 + 1 + 1 + 1 ∧ q.dx ≠ L + 1 + 1 + 1 + 1 := fun q hq => by
    obtain ⟨a, b, e⟩ := List.append_of_mem hq
    constructor
    · exact hoff (q.x, instObj 38 q.dx) (List.mem_append_left _ (by rw [e, infoLed_append]; exact List.mem_append_right _ (.head _))) _ (by simp)
    · exact hoff (q.dx, dictOf (recEs w q.r q.tr) 9) (List.mem_append_left _ (by rw [e, infoLed_append]; exact List.mem_append_right _ (.tail _ (.head _)))) _ (by simp)
  clear hoff
  have hvar : ∀ q ∈ z.infos, q.r.var = q.k := fun q hq => by
    obtain ⟨_, _, _, hk, _⟩ := ok.recs q hq
    exact hk
  have hlas := ok.las
  rw [lasOf_x] at hlas
  have hl8 := lasOf_len z.infos
  have hnd := ok.nodup
  obtain ⟨vF, hcF⟩ := ok.cF
  generalize led2 w L ad ll z las nl = big at *
  replace N : News h₀ L s.heap ((L + 1 + 1, z.oC) :: big) := by
    intro p hp
    rcases List.mem_cons.mp hp with rfl | hp
    · exact N _ hmC
    · exact N _ hp
  have hs : scopeOf lawDef = Scope.mk _ _ _ _ _ := rfl
  unfold lawEnv
  rw [hs]
  show wpAny _ _ (execs (_ :: _) _) _ _ _
  (try k_unmd); (try k_fold)
  k_steps
  constructor
  refine order_call (g := gOf z.infos) (pm := pmOf z.infos) B F1 X N T rfl rfl (.tail _ hmD) hdict hlo (by have := infos_len knd hran; omega) (fun q hq => ⟨.tail _ (hled q hq).1, .tail _ (hled q hq).2⟩) (key_of knd) ?_
  clear F F1 N
  intro pl vs ks np h2 tk2 hI hperm hord F2 N2 off2
  have hfit : (kvsOf z.infos).length ≤ 16777216 := by
    have := infos_len knd hran
    unfold kvsOf
    rw [List.length_map]; omega
  k_steps
  constructor
  rename News _ _ _ _ => N3
  rename Fr _ _ _ _ => F3
  refine LCt.ListComp_T F3 (by with_unfolding_all rfl) (by decide) (by rfl) (by decide) (by rfl) ?_
  k_steps
  constructor
  rename News _ _ _ _ => N4
  rename Fr _ _ _ _ => F4
  rename IsRange _ _ _ _ _ _ _ _ => hR
  refine LCt.CompSrcT.range (n := 8) rfl F4 N4 hR rfl rfl (by decide) ?_
  intro g2
  refine compT (fun i => z.infos.any fun q => decide (q.k = 0 + (i : Int))) (fun i y => ∃ t, y = .int (0 + (i : Int)) t) trivial ?test ?elts ?fin
  case test =>
    rintro i v I' oI' C' oC' D' m2 ys h tk E' hi ⟨t, rfl⟩ hC hx F3 N3 off3 ne3
    have hsome := any_isSome z.infos (0 + (i : Int))
    clear N4 F4
    k_unmd; k_fold
    k_steps
    exact ⟨rfl, _, _, rfl, F3, N3⟩
  case elts =>
    rintro i v I' oI' C' oC' D' m2 ys h tk E' hi ⟨t, rfl⟩ hp hC hx F3 N3 off3 ne3
    clear N4 F4
    k_unmd; k_fold
    k_steps
    exact ⟨⟨t, rfl⟩, _, _, rfl, F3, N3⟩
  case fin =>
    intro ys hys
    have hyl : ys.length = z.infos.length := by rw [← hys.length]; exact in_count knd hran
    clear hys N4 F4
    have hi8 := infos_len knd hran
    have hvl : vs.length = las.length := by rw [ints_len hI, hperm.length_eq, (lasOf_keys knd hran hkind).length_eq, hlas, List.length_map, List.length_map]
    have hvl8 : las.length ≤ 8 := by rw [hlas, List.length_map]; exact hl8
    intro D h tk F3 N3 off3
    dsimp only
    k_unmd; k_fold
    k_steps
    · rename ((List.length _ : Nat) : Int) ≠ _ => hne
      rw [List.size_toArray, hyl] at hne
      exact absurd (by unfold kvsOf; rw [List.length_map]) hne
    · rename ((Array.size _ : Nat) : Int) ≠ _ => hne
      rw [List.size_toArray, List.size_toArray, List.length_map, hvl] at hne
      exact absurd rfl hne
    · constructor
      have mem : ∀ p ∈ (pl, listOf vs.toArray np) :: (L + 1 + 1, z.oC) :: big, p.1 ≠ L + 1 + 1 + 1 + 1 → p ∈ ((pl, listOf vs.toArray np) :: (L + 1 + 1, z.oC) :: big).filter fun p => decide (p.1 ≠ L + 1 + 1 + 1 + 1) :=
        fun p hp hne => List.mem_filter.mpr ⟨hp, decide_eq_true hne⟩
      have mled : ∀ q ∈ z.infos, (q.x, instObj 38 q.dx) ∈ ((pl, listOf vs.toArray np) :: (L + 1 + 1, z.oC) :: big).filter (fun p => decide (p.1 ≠ L + 1 + 1 + 1 + 1)) ∧ (q.dx, dictOf (recEs w q.r q.tr) 9) ∈ ((pl, listOf vs.toArray np) :: (L + 1 + 1, z.oC) :: big).filter (fun p => decide (p.1 ≠ L + 1 + 1 + 1 + 1)) :=
        fun q hq => ⟨mem _ (.tail _ (.tail _ (hled q hq).1)) (hq4 q hq).1, mem _ (.tail _ (.tail _ (hled q hq).2)) (hq4 q hq).2⟩
      have mpl := mem (pl, listOf vs.toArray np) (.head _) (fun e => off2 _ (.tail _ hmF) e.symm)
      have mlc := mem (L + 1 + 1, z.oC) (.tail _ (.head _)) (Nat.ne_of_lt (Nat.lt_succ_of_lt (Nat.lt_succ_self (L + 1 + 1))))
      have mdc := mem (ad.ia, z.oD) (.tail _ (.tail _ hmD)) nh2.out.symm
      have mll := mem (ll, listOf (las.map Value.ref).toArray nl) (.tail _ (.tail _ hmL)) ne5.out
      have moff : ∀ p ∈ ((pl, listOf vs.toArray np) :: (L + 1 + 1, z.oC) :: big).filter (fun p => decide (p.1 ≠ L + 1 + 1 + 1 + 1)), p.1 ≠ L + 1 + 1 + 1 + 1 := fun p hp => of_decide_eq_true (List.mem_filter.mp hp).2
      have msub : ∀ p ∈ ((pl, listOf vs.toArray np) :: (L + 1 + 1, z.oC) :: big).filter (fun p => decide (p.1 ≠ L + 1 + 1 + 1 + 1)), p ∈ (pl, listOf vs.toArray np) :: (L + 1 + 1, z.oC) :: big := fun p hp => (List.mem_filter.mp hp).1
      generalize ((pl, listOf vs.toArray np) :: (L + 1 + 1, z.oC) :: big).filter (fun p => decide (p.1 ≠ L + 1 + 1 + 1 + 1)) = dyn at mem mled mpl mlc mdc mll moff msub
      rw [hlas] at mll
      have N5 : News h₀ L h ((L + 1 + 1 + 1 + 1, z.oF) :: dyn) := by
        intro p hp
        rcases List.mem_cons.mp hp with rfl | hp
        · exact N3 _ (.tail _ (.tail _ (.tail _ hmF)))
        · exact N3 _ (.tail _ (msub _ hp))
      refine tail11 (L := L) (fa := fa) (cd := cd) (Q := Q) (nl := nl) (np := np) (las := lasOf z.infos) B X T F3 N5 ⟨moff, mll, mpl, hI, fun q hq => mled q (lasOf_sub q hq), hperm.trans (lasOf_keys knd hran hkind), hord, fun q hq => ⟨hvar q (lasOf_sub q hq), (key_of knd q (lasOf_sub q hq)).1⟩, hl8⟩ ⟨rfl, ⟨_, hcF⟩, rfl, rfl⟩
        mlc hcC mdc hdict hlo hi8 hran mled (key_of knd) hperm fun h' m' tk' F' => h_ h' m' tk' F'
end
section
local macro_rules | `(tactic| k_ne) => `(tactic| (refine neN ?_; (try dsimp only); first | exact NE.out (by assumption) | exact (NE.out (by assumption)).symm | omega))
local macro_rules | `(tactic| k_mem) => `(tactic| assumption)
local macro_rules | `(tactic| walk_at "exec For Name Call cons nil") => `(tactic| ((with_reducible show wpAny _ _ (exec (Stmt.For _ _ _ _ _) _) _ _ _); refine Stop.out ?_))
theorem led_ne4 {w : World} {L : Addr} {a : Ad} {z : St} (nd : ((led w L a z).map (·.1)).Nodup) : NE (L + 1 + 1) a.sv ∧ NE (L + 1 + 1) a.sd := by
  unfold led at nd
  rw [List.map_append, List.nodup_append] at nd
  obtain ⟨n1, _, _⟩ := nd
  simp only [List.map_cons, List.map_nil, List.nodup_cons, List.mem_cons, List.not_mem_nil, or_false, not_or, List.nodup_nil, and_true] at n1
  obtain ⟨_, _, ⟨c1, c2, c3, c4, c5, c6⟩, ⟨d1, d2, d3, d4, d5⟩, _⟩ := n1
  exact ⟨⟨fun e => c5 e.symm⟩, ⟨fun e => d4 e.symm⟩⟩
/-- from the survey's own table to the end -/
theorem tail6 {w : World} {mean : ExcName → Option Value} {mg mb : Str → Option Value} {base h₀ : Heap} {L fa : Addr} {cd : Value} {m : Str → Option Value} {s : Shared} {Q : Flow → Shared → Prop} {ad : Ad} {n : Nat} {news : List (Addr × Obj)}
    (B : Below callerA base [] h₀) (X : (hd.heap_39 w.params).In h₀) (T : TT mean mg mb h₀) (hn : n ≤ 23) (F : Fr h₀ L s.heap m) (N : News h₀ L s.heap news) (hJ : MainJ w L ad n m news)
    (h_ : ∀ h' m' tk', Fr h₀ L h' m' → Q (.ret (.bool true)) { s with heap := h', toks := tk' }) :
    wpAny (model PySem.Challenge.rw_rh0064_01.row.prog w) (callerA.deeper (lawEnv L fa cd)) (execs (restAt 6) (lawEnv L fa cd)) Q (fun _ _ => False) s := by
  w_top off
  k_with_none
  revert X; k_fill; intro X
  obtain ⟨z, rfl, ok⟩ := hJ
  have F1 := fr_see [(Str.ofString "survey", .ref ad.sv), (Str.ofString "meetings", .ref ad.ml)] F (by
    intro p hp
    simp only [List.mem_cons, List.not_mem_nil, or_false] at hp
    rcases hp with rfl | rfl
    · exact ok.mv2
    · exact ok.mv3)
  clear F
  obtain ⟨vC, hcC⟩ := ok.cC
  obtain ⟨⟨ne1, ne2, ne3, ne4, ne5, ne6, ne7, ne8, _⟩, ⟨nf1, nf2, nf3, nf4, nf5, nf6, nf7, _⟩, ⟨ng1, ng2, ng3, _⟩, ⟨nh1, nh2, _, nh4, nh5, nh6⟩, hoff⟩ := led_ne (I := s.heap.objs.size) ok.nodup (fun p hp => Nat.ne_of_lt (Heap.lt_size (N p hp).1))
  have hnd := ok.nodup
  obtain ⟨ni1, ni2⟩ := led_ne4 ok.nodup
  obtain ⟨dyn, hdyn⟩ : ∃ d, d = infoLed w z.infos ++ rowLed z.rows := ⟨_, rfl⟩
  unfold led at N
  rw [← hdyn] at N hoff
  simp only [lits, List.cons_append, List.nil_append] at N
  have hs : scopeOf lawDef = Scope.mk _ _ _ _ _ := rfl
  unfold lawEnv
  rw [hs]
  show wpAny _ _ (execs (_ :: _) _) _ _ _
  (try k_unmd); (try k_fold)
  k_steps
  constructor
  rename_i hA0 oC' dC ll hB hlt hC FA NA
  rename Fr _ _ _ _ => F2
  refine For_turns F2 ?_
  k_steps
  rename Fr _ _ _ _ => F3
  rename News _ _ _ _ => N3
  rename IsRange _ _ _ _ _ _ _ _ => hR
  refine turns_range (n := 8) rfl hR rfl rfl F3 N3 (fun i m1 news1 => CheckJ w L ad ll i m1 news1) ?h0 ?turn ?done
  case h0 =>
    refine ⟨{ z with oC := oC' }, [], 0, by rw [hdyn]; rfl, ?_⟩
    exact { dict := ok.dict, lo := ok.lo, all := ok.all, only := ok.only, rows := ok.rows, cF := ok.cF, cO := ok.cO, cC := dC, cN := ok.cN, mv1 := rfl, mv2 := rfl, las := rfl
            len := Nat.le_trans (Nat.le_of_eq ok.len) hn
            ilen := Nat.le_trans ok.ilen hn
            recs := fun q hq => by
              obtain ⟨h1, h2⟩ := ok.recs q hq
              refine ⟨q.r, h1, rfl, h2, fun hlt0 => ?_⟩
              obtain ⟨r, hr, e⟩ := ok.only q hq
              have := ok.rows.small r hr
              omega
            nodup := by
              refine List.nodup_cons.mpr ⟨fun hm => ?_, hnd⟩
              obtain ⟨p, hp, e⟩ := List.mem_map.mp hm
              rw [hdyn] at hlt
              have h1 := kst_ltOf (l := led w L ad z) hlt
              obtain ⟨p2, hp2, e2⟩ := List.mem_map.mp (show ll ∈ (led w L ad z).map (·.1) from hm)
              exact absurd e2 (Nat.ne_of_lt (h1 p2 hp2)) }
  case turn =>
    intro i t m1 news1 I oI h tk hi hJ F4 N4 off4
    exact turn2 B X T hi hJ F4 N4 off4
  case done =>
    intro m1 news1 h tk hJ F4 N4
    exact tail9 (L := L) (fa := fa) (cd := cd) (Q := Q) B X T F4 N4 hJ fun h' m' tk' F' => h_ h' m' tk' F'
end
section
local macro_rules | `(tactic| walk_at "call ref") => `(tactic| (k_here; (with_reducible show wpAny _ _ (call (Value.ref 105) _) _ _ _); k_dflt (refine' coin_step ?k1 ?k2 ?k3 ?k4 ?k5 ?k6 ?k7 ?k8 ?k9 ?k10 ?k11 ?k12 ?_; (case k1 => k_asm); (case k2 => k_asm); (case k3 => k_asm); (case k4 => k_asm); (case k5 => k_asm); (case k6 => exact rfl); (case k7 => exact rfl); (case k8 => k_updF); (case k9 => assumption); (case k10 => decide); (case k11 => decide); (case k12 => assumption)); intro r1 t1 vs1 ns1 n1 h1 tk1 hr1 hr2 hI1 hlen1 F1 N1; (try dsimp only at N1 F1); (try dsimp only); (try k_sweep)))
local macro_rules | `(tactic| k_ne) => `(tactic| (refine neN ?_; (try dsimp only); first | exact NE.out (by assumption) | exact (NE.out (by assumption)).symm | omega))
local macro_rules | `(tactic| walk_at "exec For Name Call cons nil") => `(tactic| ((with_reducible show wpAny _ _ (exec (Stmt.For _ _ _ _ _) _) _ _ _); refine Stop.out ?_))
/-- from the main loop to the end -/
theorem tail5 {w : World} {mean : ExcName → Option Value} {mg mb : Str → Option Value} {base h₀ : Heap} {L fa : Addr} {cd : Value} {m : Str → Option Value} {s : Shared} {Q : Flow → Shared → Prop} {ad : Ad} {news : List (Addr × Obj)}
    (B : Below callerA base [] h₀) (X : (hd.heap_39 w.params).In h₀) (T : TT mean mg mb h₀) (F : Fr h₀ L s.heap m) (N : News h₀ L s.heap news) (hJ : MainJ w L ad 0 m news)
    (h_ : ∀ h' m' tk', Fr h₀ L h' m' → Q (.ret (.bool true)) { s with heap := h', toks := tk' }) :
    wpAny (model PySem.Challenge.rw_rh0064_01.row.prog w) (callerA.deeper (lawEnv L fa cd)) (execs (restAt 5) (lawEnv L fa cd)) Q (fun _ _ => False) s := by
  w_top off
  k_with_none
  revert X; k_fill; intro X
  obtain ⟨z, rfl, ok⟩ := hJ
  have hnd := ok.nodup
  obtain ⟨⟨ne1, ne2, ne3, ne4, ne5, ne6, ne7, ne8, _⟩, ⟨nf1, nf2, nf3, nf4, nf5, nf6, nf7, _⟩, ⟨ng1, ng2, ng3, _⟩, ⟨nh1, nh2, _, nh4, nh5, nh6⟩, hoff⟩ := led_ne (I := s.heap.objs.size) ok.nodup (fun p hp => Nat.ne_of_lt (Heap.lt_size (N p hp).1))
  have hints := ok.cints
  have hnlen := ok.nlen
  have F1 := fr_see [(Str.ofString "coins", .ref ad.c), (Str.ofString "survey", .ref ad.sv), (Str.ofString "meetings", .ref ad.ml), (Str.ofString "goal", .int z.goal z.tg), (Str.ofString "chunk", .int z.chunk z.tc)] F (by
    intro p hp
    simp only [List.mem_cons, List.not_mem_nil, or_false] at hp
    rcases hp with rfl | rfl | rfl | rfl | rfl
    · exact ok.mv1
    · exact ok.mv2
    · exact ok.mv3
    · exact ok.mv4
    · exact ok.mv5)
  clear F
  obtain ⟨dyn, hdyn⟩ : ∃ d, d = infoLed w z.infos ++ rowLed z.rows := ⟨_, rfl⟩
  unfold led at N
  rw [← hdyn] at N hoff
  simp only [lits, List.cons_append, List.nil_append] at N
  have hs : scopeOf lawDef = Scope.mk _ _ _ _ _ := rfl
  unfold lawEnv
  rw [hs]
  show wpAny _ _ (execs (_ :: _) _) _ _ _
  (try k_unmd); (try k_fold)
  k_steps
  constructor
  rename Fr _ _ _ _ => F2
  refine For_turns F2 ?_
  k_steps
  rename_i r1 t1 vs1 ns1 n1 h1 tk1 hr1 hr2 hI1 hlen1 FA NA hB tkB ta ub vb hR F3 N3 hK
  refine turns_range (n := (10 + r1 - 0).toNat) rfl hR (small_one (by omega) (by omega) (by omega) (by omega)) (rangeSize_nat _ _) F3 N3 (fun i m1 news1 => MainJ w L ad i m1 news1) ?h0 ?turn ?done
  case h0 =>
    refine ⟨{ z with vs := vs1, ns := ns1, n := n1 }, by rw [hdyn]; rfl, ?_⟩
    exact { dict := ok.dict, lo := ok.lo, recs := ok.recs, all := ok.all, only := ok.only, nodup := hnd, len := ok.len, ilen := ok.ilen, rows := ok.rows, cints := hI1, nlen := hlen1, cF := ok.cF, cO := ok.cO, cC := ok.cC, cN := ok.cN, mv1 := rfl, mv2 := rfl, mv3 := rfl, mv4 := rfl, mv5 := rfl }
  case turn =>
    intro i t m1 news1 I oI h tk hi hJ F4 N4 off4
    exact turn1 B X T (by omega) hJ F4 N4 off4
  case done =>
    intro m1 news1 h tk hJ F4 N4
    exact tail6 (L := L) (fa := fa) (cd := cd) (Q := Q) B X T (by omega) F4 N4 hJ fun h' m' tk' F' => h_ h' m' tk' F'
end
section
local macro_rules | `(tactic| walk_at "call ref") => `(tactic| (k_here; (with_reducible show wpAny _ _ (call (Value.ref 98) _) _ _ _); k_dflt (refine' coins_step ?k1 ?k2 ?k3 ?k4 ?k5 ?k6 ?k7 ?k8 ?k9 ?k10 ?_; (case k1 => k_asm); (case k2 => k_asm); (case k3 => k_asm); (case k4 => first | k_asm | exact News.nil); (case k5 => k_asm); (case k6 => exact rfl); (case k7 => exact rfl); (case k8 => assumption); (case k9 => assumption); (case k10 => omega)); intro c1 vs1 ns1 n1 h1 tk1 hI1 hlen1 F1 N1 off1))
local macro_rules | `(tactic| walk_at "call ref") => `(tactic| (k_here; (with_reducible show wpAny _ _ (call (Value.ref 105) _) _ _ _); k_dflt (refine' coin_step ?k1 ?k2 ?k3 ?k4 ?k5 ?k6 ?k7 ?k8 ?k9 ?k10 ?k11 ?k12 ?_; (case k1 => k_asm); (case k2 => k_asm); (case k3 => k_asm); (case k4 => k_asm); (case k5 => k_asm); (case k6 => exact rfl); (case k7 => exact rfl); (case k8 => k_updF); (case k9 => assumption); (case k10 => decide); (case k11 => decide); (case k12 => assumption)); intro r1 t1 vs1 ns1 n1 h1 tk1 hr1 hr2 hI1 hlen1 F1 N1; (try dsimp only at N1)))

local macro_rules | `(tactic| walk_at "execs cons") => `(tactic| (k_here; (with_reducible show wpAny _ _ (execs (Stmt.For _ (PySem.Expr.Call _ _ _ _) _ _ _ :: _) _) _ _ _); refine Stop.out ?_))
theorem start_ok {w : World} {L ml ia sv sd c : Addr} {ts tg tc : Tok} {n : Nat} {vs : List Value} {ns : List Int} {oD oF oO oC oN : Obj} {m : Str → Option Value}
    (l1 : ia < ml ∧ sv < ml ∧ sd < ml ∧ c < ml ∧ L + 1 + 1 + 1 + 1 < ml ∧ L + 1 + 1 + 1 < ml ∧ L + 1 + 1 < ml ∧ L + 1 < ml)
    (l2 : sv < ia ∧ sd < ia ∧ c < ia ∧ L + 1 + 1 + 1 + 1 < ia ∧ L + 1 + 1 + 1 < ia ∧ L + 1 + 1 < ia ∧ L + 1 < ia)
    (l3 : sd < sv) (l4 : c < sd ∧ L + 1 + 1 + 1 + 1 < sd ∧ L + 1 + 1 + 1 < sd ∧ L + 1 + 1 < sd ∧ L + 1 < sd)
    (l5 : ∀ p ∈ [(L + 1 + 1 + 1 + 1, oF), (L + 1 + 1 + 1, oO), (L + 1 + 1, oC), (L + 1, oN)], p.1 ≠ c)
    (hD : oD.IsDictOf (PySem.intKind PySem.Challenge.rw_rh0064_01.row.prog w) []) (lo : (ia == sysModules) = false) (hI : IntsAre vs ns) (hlen : ns.length ≤ 2000)
    (cF : ∃ v, oF.data = .cell v) (cO : ∃ v, oO.data = .cell v) (cC : ∃ v, oC.data = .cell v) (cN : ∃ v, oN.data = .cell v)
    (mv1 : m (Str.ofString "coins") = some (.ref c)) (mv2 : m (Str.ofString "survey") = some (.ref sv)) (mv3 : m (Str.ofString "meetings") = some (.ref ml)) (mv4 : m (Str.ofString "goal") = some (.int (-1) tg)) (mv5 : m (Str.ofString "chunk") = some (.int 0 tc)) :
    MainJ w L ⟨ml, ia, sv, sd, c, ts⟩ 0 m [(ml, listOf #[] 0), (ia, oD), (sv, instObj 73 sd), (sd, dictOf [ent w (Str.ofString "infos") ts (.ref ia)] 1), (c, listOf vs.toArray n), (L + 1 + 1 + 1 + 1, oF), (L + 1 + 1 + 1, oO), (L + 1 + 1, oC), (L + 1, oN)] := by
  refine ⟨⟨[], [], -1, 0, tg, tc, vs, ns, n, oN, oD, oF, oO, oC⟩, rfl, ?_⟩
  refine { dict := hD, lo := lo, recs := ?_, all := ?_, only := ?_, nodup := ?_, len := rfl, ilen := Nat.le_refl _, rows := ⟨?_, ?_, .nil⟩, cints := hI, nlen := hlen, cF := cF, cO := cO, cC := cC, cN := cN, mv1 := mv1, mv2 := mv2, mv3 := mv3, mv4 := mv4, mv5 := mv5 }
  · intro q hq; cases hq
  · intro q hq; cases hq
  · intro q hq; cases hq
  · simp only [List.forall_mem_cons] at l5
    obtain ⟨c1, c2, c3, c4, _⟩ := l5
    show [ml, ia, sv, sd, c, L + 1 + 1 + 1 + 1, L + 1 + 1 + 1, L + 1 + 1, L + 1].Nodup
    simp only [List.nodup_cons, List.mem_cons, List.not_mem_nil, or_false, not_or, List.nodup_nil, and_true]
    obtain ⟨a1, a2, a3, a4, a5, a6, a7, a8⟩ := l1
    obtain ⟨b1, b2, b3, b4, b5, b6, b7⟩ := l2
    obtain ⟨d1, d2, d3, d4, d5⟩ := l4
    have g : ∀ {x y : Nat}, x < y → ¬ y = x := fun h => Nat.ne_of_gt h
    have s1 : ∀ x : Nat, x < x + 1 := Nat.lt_succ_self
    exact ⟨⟨g a1, g a2, g a3, g a4, g a5, g a6, g a7, g a8⟩, ⟨g b1, g b2, g b3, g b4, g b5, g b6, g b7⟩, ⟨g l3, g (Nat.lt_trans d1 l3), g (Nat.lt_trans d2 l3), g (Nat.lt_trans d3 l3), g (Nat.lt_trans d4 l3), g (Nat.lt_trans d5 l3)⟩, ⟨g d1, g d2, g d3, g d4, g d5⟩,
      ⟨fun e => c1 e.symm, fun e => c2 e.symm, fun e => c3 e.symm, fun e => c4 e.symm⟩, ⟨g (s1 _), g (Nat.lt_trans (s1 _) (s1 _)), g (Nat.lt_trans (s1 _) (Nat.lt_trans (s1 _) (s1 _)))⟩, ⟨g (s1 _), g (Nat.lt_trans (s1 _) (s1 _))⟩, g (s1 _), fun h => h⟩
  · intro q hq; cases hq
  · intro q hq; cases hq
theorem main23 : PySem.Challenge.rw_rh0064_01.Holds := hd (by
  w_top off
  k_with_none
  w_strict (k_go0; (all_goals try k_fold); k_steps; constructor; rename Fr _ _ _ _ => F5; rename News _ _ _ _ => N5; rename IntsAre _ _ => hI5; (refine wpAny_mono (tail5 (by assumption) (by assumption) (by assumption) F5 N5 (start_ok (by assumption) (by assumption) (by assumption) (by assumption) (by assumption) (by assumption) (by assumption) hI5 (by assumption) ⟨_, by assumption⟩ ⟨_, by assumption⟩ ⟨_, by assumption⟩ ⟨_, by assumption⟩ rfl rfl rfl rfl rfl) ?hend) (fun _ _ x => x) (fun _ _ x => x.elim)); intro h5 m5 tk5 F6; k_steps))
end
end Mine
theorem PySem.Challenge.cw_rh0064_01_holds : PySem.Challenge.rw_rh0064_01.Holds := by
  exact Mine.main23
