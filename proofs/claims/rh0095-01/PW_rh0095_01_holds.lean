import PyProof.Rows.All
import Wide.All
import OpenK.AllK
import Wide.FinOn
import PySem.Challenge.RW_rh0095_01
open PySem PySem.W PySem.Calls PyProof.Rows
set_option Elab.async false
set_option maxRecDepth 100000
namespace Mine
set_option maxHeartbeats 8000000 in
open_top hd for PySem.Challenge.rw_rh0095_01
theorem top_off : True := by (w_top off; trivial)

/-- everything but the places of ms stands as it stood -/
def Keep (ms : List Addr) (h h' : Heap) : Prop := ∀ b o, h.get? b = some o → b ∉ ms → h'.get? b = some o
theorem Keep.refl (ms : List Addr) (h : Heap) : Keep ms h h := fun _ _ e _ => e
theorem Keep.trans {ms : List Addr} {h h' h'' : Heap} (x : Keep ms h h') (y : Keep ms h' h'') : Keep ms h h'' := fun b o e n => y b o (x b o e n) n
theorem Keep.mono {ms ms' : List Addr} {h h' : Heap} (x : Keep ms h h') (s : ∀ a ∈ ms, a ∈ ms') : Keep ms' h h' := fun b o e n => x b o e fun q => n (s b q)

abbrev PR : Program := PySem.Challenge.pw_rh0095_01
abbrev tupOf (vs : List Value) : Obj := { cls := .type "tuple", data := .seq vs.toArray }

/-- a call, whatever stands around it: ms are the objects that it may change -/
def Does (w : World) (f : Addr) (cost : Nat) (vs : List Value) (ms : List (Addr × Obj)) (Pre : Heap → Prop) (Post : Heap → Heap → Value → Prop) : Prop :=
  ∀ (p : Program) (loose : List Str) (mean : ExcName → Option Value) (mg mb : Str → Option Value) (A : Around) (env : Env) (outer : List Env) (A₀ : Around) (base h₀ : Heap) (L : Addr) (m : Str → Option Value) (s : Shared)
    (Q E : Value → Shared → Prop),
    Below A₀ base outer h₀ → Fr h₀ L s.heap m → (Mine.hd.heap_39 w.params).In h₀ → News h₀ L s.heap ms → Top p loose mean mg mb h₀ →
    A.frames = some (env :: outer) → env.frame = some L → env.scope.kind = .function → A.depth + cost < recursionLimit → A.units + 8 * cost < cLine → A.handled = none →
    Pre s.heap →
    (∀ r h' tk', Keep (ms.map (·.1)) s.heap h' → Post s.heap h' r → Q r { s with heap := h', toks := tk' }) →
    wpAny (model PR w) A (call (.ref f) vs) Q E s

theorem tick1 {prog : Program} {w : World} {A : Around} {E : Value → Shared → Prop} {s : Shared} {env : Env} {Q : Flow → Shared → Prop} (h : Q .next s) : wpAny (model prog w) A (execs [] env) Q E s := by
  first | (walk1; exact h) | exact wpAny_execs_nil h
section
variable {prog : Program} {w : World} {A A₀ : Around} {E : Value → Shared → Prop} {s : Shared} {K : Frag} {L : Addr} {h₀ base : Heap} {m mg mb : Str → Option Value} {news : List (Addr × Obj)} {p : Program} {loose : List Str} {mean : ExcName → Option Value}
theorem enterD {env : Env} {outer : List Env} {R : Result → Shared → Prop} {name qual : Str} {params : Arguments} {body : List Stmt} {scope : Scope} {dV kV doc pm cdv ct oc : Value} {an od : Option Addr} {osl : Array (Option Value)} {f : Addr} {args : Args} {binds : List (Str × Value)}
    (B : Below A₀ base outer h₀) (F : Fr h₀ L s.heap m) (X₀ : K.In h₀) (N : News h₀ L s.heap news) (T : Top p loose mean mg mb h₀) (hA : A.frames = some (env :: outer)) (hf : env.frame = some L) (hke : env.scope.kind = .function)
    (ho : K.lookup f = some ⟨oc, od, .func (fnOf name qual params body scope dV kV doc pm an cdv ct), osl⟩) (hcd : codeIn K cdv qual = true) (hroom : A.depth < recursionLimit)
    (hbind : BindsTo s (fnOf name qual params body scope dV kV doc pm an cdv ct) args binds) (hloc : ∀ y ∈ binds, scope.names.lookup y.1 = some .local)
    (h : ∀ g L' h₁, Fr g L' h₁ (fun y => binds.reverse.lookup y) → News g L' h₁ news → Below A base (env :: outer) g → K.In g → Top p loose mean mg mb g →
      (∀ b o, s.heap.get? b = some o → b ∉ news.map (·.1) → g.get? b = some o) → g.objs.size = s.heap.objs.size →
      wpAny (model prog w) (A.deeper (envOf qual scope L' f cdv)) (execs body (envOf qual scope L' f cdv))
        (fun fl s' => R (.ok (.ret (match fl with | .ret v => v | _ => .none))) s')
        (fun e s' => wpAny (model prog w) (A.deeper (envOf qual scope L' f cdv)) (leaving (envOf qual scope L' f cdv) e) (fun _ s'' => R (.error e) s'') (fun e' s'' => R (.error e') s'') s')
        { s with heap := h₁, toks := s.toks + binds.length })
    (hco : scope.isCoroutine = false) (hgen : scope.isGenerator = false) (hk : scope.kind = .function)
    (hcell : ∀ x ∈ scope.names, x.2 ≠ .cell) : codeAny (model prog w) A (.call (.ref f) args) R s := by
  obtain ⟨_, BG, st, _⟩ := groundX (R := R) B F N hA hf hke
  refine codeAny_call_def (fd := fnOf name qual params body scope dV kV doc pm an cdv ct) (body := body) (binds := binds) hroom ((X₀.keeps F.keep) _ _ ho) rfl (T.nolimit.keeps F.keep) (codeRec_of (X₀.keeps F.keep) hcd) rfl hbind hcell hloc (fun h₁ hns hk₁ => ?_) hco hgen hk
  exact h _ s.heap.objs.size h₁ ⟨hns, fun b o e => hk₁ b o (of_hideAll _ e), Nat.le_of_eq (hideAll_size _ _)⟩
    (fun p hp => ⟨hk₁ _ _ (N p hp).1, Nat.ne_of_lt (Heap.lt_size (N p hp).1), hideAll_none _ (List.mem_map_of_mem hp)⟩) BG (X₀.keeps st) (T.keeps st) (fun b o e n => hideAll_get _ e n) (hideAll_size _ _)
end

theorem sub_news {h₀ h : Heap} {L : Addr} {news news' : List (Addr × Obj)} (N : News h₀ L h news) (s : ∀ p ∈ news', p ∈ news) : News h₀ L h news' := fun p hp => N p (s p hp)
/-- what the caller knows behind a call -/
theorem fr_keep {h₀ h h' : Heap} {L : Addr} {m : Str → Option Value} {ms : List (Addr × Obj)} (F : Fr h₀ L h m) (N : News h₀ L h ms) (k : Keep (ms.map (·.1)) h h') : Fr h₀ L h' m := by
  obtain ⟨oL, es, ep, hL, r⟩ := F.ns
  refine ⟨⟨oL, es, ep, k _ _ hL fun q => ?_, r⟩, fun b o e => k b o (F.keep b o e) fun q => ?_, F.above⟩
  · obtain ⟨p, hp, e⟩ := List.mem_map.mp q; exact (N p hp).2.1 e
  · obtain ⟨p, hp, e'⟩ := List.mem_map.mp q; have := (N p hp).2.2; rw [e', e] at this; cases this
theorem news_keep {h₀ h h' : Heap} {L : Addr} {ms rest : List (Addr × Obj)} (N : News h₀ L h rest) (k : Keep (ms.map (·.1)) h h') (d : ∀ p ∈ rest, p.1 ∉ ms.map (·.1)) : News h₀ L h' rest :=
  fun p hp => ⟨k _ _ (N p hp).1 (d p hp), (N p hp).2⟩
/-- the objects of ms' stand at h', at the places of ms -/
def Has (h : Heap) (ms : List (Addr × Obj)) : Prop := ∀ p ∈ ms, h.get? p.1 = some p.2
theorem news_has {h₀ h h' : Heap} {L : Addr} {ms ms' : List (Addr × Obj)} (N : News h₀ L h ms) (x : Has h' ms') (e : ms'.map (·.1) = ms.map (·.1)) : News h₀ L h' ms' := fun p hp => by
  have hm : p.1 ∈ ms.map (·.1) := e ▸ List.mem_map_of_mem hp
  obtain ⟨q, hq, e'⟩ := List.mem_map.mp hm
  have := (N q hq).2
  rw [e'] at this
  exact ⟨x p hp, this⟩

theorem item_L {prog : Program} {w : World} {A : Around} {E : Value → Shared → Prop} {s : Shared} {value slice : PySem.Expr} {l : Addr} {vs : List Value} {k : Int} {u : Tok} {v : Value} {Q : Value → Shared → Prop}
    (hl : s.heap.IsList l vs.toArray) (h0 : 0 ≤ k) (hhi : k < 2 ^ 63) (hx : vs[k.toNat]? = some v) (h : Q v s)
    (hs : subscripted slice false (.ref l) (.int k u) = operate [.ref l, .int k u] (getItem (.ref l) (.int k u)) := by with_unfolding_all rfl) :
    wpAny (model prog w) A (subscriptTail value slice (.ref l) (.int k u)) Q E s :=
  tail_any hl.typeIs slot_list_getitem.lookup (wpAny_getItem_list hl h0 hhi (by simpa using hx) h) hs
theorem Does.post {w : World} {f : Addr} {cost : Nat} {vs : List Value} {ms : List (Addr × Obj)} {Pre : Heap → Prop} {P P' : Heap → Heap → Value → Prop} (D : Does w f cost vs ms Pre P) (h : ∀ a b r, P a b r → P' a b r) : Does w f cost vs ms Pre P' :=
  fun p loose mean mg mb A env outer A₀ base h₀ L m s Q E B F X N T hA hf hk hd hu hh hpre hret => D p loose mean mg mb A env outer A₀ base h₀ L m s Q E B F X N T hA hf hk hd hu hh hpre fun r h' tk' k q => hret r h' tk' k (h _ _ _ q)
theorem Does.cost {w : World} {f : Addr} {cost cost' : Nat} {vs : List Value} {ms : List (Addr × Obj)} {Pre : Heap → Prop} {P : Heap → Heap → Value → Prop} (D : Does w f cost vs ms Pre P) (h : cost ≤ cost') : Does w f cost' vs ms Pre P :=
  fun p loose mean mg mb A env outer A₀ base h₀ L m s Q E B F X N T hA hf hk hd hu hh hpre hret => D p loose mean mg mb A env outer A₀ base h₀ L m s Q E B F X N T hA hf hk (by omega) (by omega) hh hpre hret

theorem ite_true_K {b : Prop} [Decidable b] {p q : Prop} (h : decide b = true) (hp : p) : if b then p else q := by rw [if_pos (of_decide_eq_true h)]; exact hp
theorem ite_false_K {b : Prop} [Decidable b] {p q : Prop} (h : decide b = false) (hq : q) : if b then p else q := by rw [if_neg (of_decide_eq_false h)]; exact hq
/-- a goal that the walk leaves alone -/
def Hold (p : Prop) : Prop := p
theorem hold {p : Prop} (h : Hold p) : p := h

local macro_rules | `(tactic| walk_at "exec While") => `(tactic| refine hold ?_)
local macro_rules | `(tactic| walk_at "m fill") => `(tactic| ((have hfill9 : PySem.Challenge.rw_rh0095_01 = PySem.Challenge.rw_rh0095_01 ∧ Mine.hd.heap_39 = Mine.hd.heap_39 := by (k_fill; exact ⟨rfl, rfl⟩)); clear hfill9))
local macro_rules | `(tactic| walk_at "m frames") => `(tactic| first | exact rfl | assumption | exact Around.frames_deeper (Below.stack (by assumption)))
local macro_rules | `(tactic| walk_at "m room") => `(tactic| ((try dsimp only); (try simp only [depth_mark, depth_under_make, depth_under_kw, depth_in1, depth_deeper, depth_caller]); omega))
local macro_rules | `(tactic| walk_at "m units") => `(tactic| ((try dsimp only); (try simp only [units_in1, units_deeper, units_under_make, Around.mark_units, units_caller]); omega))
local macro_rules | `(tactic| walk_at "m enter") => `(tactic| k_dflt (refine' enterD ?k1 ?k2 ?k3 ?k4 ?k5 ?kA ?kF ?kK ?k6 ?k7 ?k8 ?k9 ?kB ?_ ?c2 ?c3 ?c4 ?c5; (case kA => walk_at "m frames"); (case kF => first | assumption | exact rfl); (case kK => first | assumption | exact rfl); (case k1 => k_asm); (case k2 => k_asm); (case k3 => k_asm); (case k4 => k_asm); (case k5 => k_asm); (case k6 => k_is); (case k7 => k_is); (case k8 => walk_at "m room"); (case k9 => exact BindsTo.of_eq rfl); (case c5 => decide); (case kB => exact locs rfl); (case c2 => exact rfl); (case c3 => exact rfl); (case c4 => exact rfl); k_whole))
local macro_rules | `(tactic| k_mem) => `(tactic| assumption)
local macro_rules | `(tactic| walk_at "ite") => `(tactic| (k_closed; k_dflt (first | refine ite_true_K (by decide +kernel) ?_ | refine ite_false_K (by decide +kernel) ?_)))
local macro_rules | `(tactic| walk_at "eval Name") => `(tactic| (k_here; k_dflt (refine' ld ?k1 ?k2 ?_; (case k1 => with_reducible assumption); (case k2 => exact rfl); k_whole)))
local macro_rules | `(tactic| walk_at "m item") => `(tactic| (k_here; (with_reducible show wpAny _ _ (subscriptTail _ _ (Value.ref _) (Value.int _ _)) _ _ _); (with_unfolding_all refine' item_L ?k1 ?k2 ?k3 ?k4 ?_ ?k6; (case k1 => first | exact Fr.lst (by assumption) (by assumption) | exact News.isList (by assumption) (by k_mem)); (case k2 => omega); (case k3 => omega); (case k4 => assumption); (case k6 => with_unfolding_all rfl); k_whole)))
local macro_rules | `(tactic| walk_at "subscriptTail") => `(tactic| walk_at "m item")
local macro_rules | `(tactic| walk_at "subscriptTail Name") => `(tactic| walk_at "m item")
local macro_rules | `(tactic| walk_at "subscriptTail Name Name ref int") => `(tactic| walk_at "m item")
local macro_rules | `(tactic| walk_at "subscriptTail Name BinOp ref int") => `(tactic| walk_at "m item")
local macro_rules | `(tactic| walk_at "subscriptTail Name Constant ref int") => `(tactic| walk_at "m item")


/-- an object that is a tuple -/
def isTup (o : Obj) : Prop := o.cls = .type "tuple" ∧ ∃ v n, o.data = .seq v n
theorem isTup_of (vs : List Value) : isTup (tupOf vs) := ⟨rfl, _, _, rfl⟩
/-- the tuples of before stand -/
def KeepT (h h' : Heap) : Prop := ∀ b o, h.get? b = some o → isTup o → h'.get? b = some o
theorem KeepT.trans {h h' h'' : Heap} (x : KeepT h h') (y : KeepT h' h'') : KeepT h h'' := fun b o e c => y b o (x b o e c) c
theorem KeepT.refl (h : Heap) : KeepT h h := fun _ _ e _ => e
theorem KeepT.of_keep {h h' : Heap} (k : ∀ b o, h.get? b = some o → h'.get? b = some o) : KeepT h h' := fun b o e _ => k b o e
def NoTup (ms : List (Addr × Obj)) : Prop := ∀ p ∈ ms, ¬ isTup p.2
theorem keepT_of {ms : List (Addr × Obj)} {h h' : Heap} (k : Keep (ms.map (·.1)) h h') (x : Has h ms) (n : NoTup ms) : KeepT h h' := fun b o e c => k b o e fun q => by
  obtain ⟨p, hp, rfl⟩ := List.mem_map.mp q
  have := x p hp
  rw [e] at this
  exact n p hp (Option.some.inj this ▸ c)

theorem tick2 {prog : Program} {w : World} {A : Around} {E : Value → Shared → Prop} {s : Shared} {env : Env} {Q : Flow → Shared → Prop} (h : Q .next s) : wpAny (model prog w) A (execs [] env) Q E s := by
  first | (walk1; exact h) | exact wpAny_execs_nil h
section
variable {w : World} {A : Around} {E : Value → Shared → Prop} {s : Shared} {h₀ : Heap} {L d : Addr} {m : Str → Option Value} {news : List (Addr × Obj)}

theorem str_get_meth {kvs : List (Str × Value)} {pl : Sem Bool} {Q : Value × List Value → Shared → Prop} (hd : s.heap.DictOf (strKind PR w) d kvs) (h : Q (.builtin "dict.get", [.ref d]) s) :
    wpAny (model PR w) A (getMethod (.ref d) "get" pl) Q E s := getMethod_builtin hd.typeIs PySem.F.plainAttrs_dict PySem.F.slot_dict_get PySem.F.type_dict_get hd.mapOf.noDict h
theorem str_get_hit {kvs : List (Str × Value)} {x : Str} {t : Tok} {v dflt : Value} {Q : Value → Shared → Prop} (lo : (d == sysModules) = false) (hd : s.heap.DictOf (strKind PR w) d kvs) (e : valueAt kvs x = some v)
    (h : Q v { s with toks := s.toks + 1 }) : wpAny (model PR w) A (call (.builtin "dict.get") [.ref d, .str x t, dflt]) Q E s :=
  call_meetsIn PySem.F.slot_dict_get hd.typeIs PySem.F.entry_dict_get (PySem.F.args_dict_get_3 _ _ _) (meets_dict_get_default (strKind PR w) d (strKind_is PR w x t) lo dflt) ⟨_, hd.mapOf, by rw [e]; exact h⟩
theorem str_get_miss {kvs : List (Str × Value)} {x : Str} {t : Tok} {dflt : Value} {Q : Value → Shared → Prop} (lo : (d == sysModules) = false) (hd : s.heap.DictOf (strKind PR w) d kvs) (e : valueAt kvs x = none)
    (h : Q dflt { s with toks := s.toks + 1 }) : wpAny (model PR w) A (call (.builtin "dict.get") [.ref d, .str x t, dflt]) Q E s :=
  call_meetsIn PySem.F.slot_dict_get hd.typeIs PySem.F.entry_dict_get (PySem.F.args_dict_get_3 _ _ _) (meets_dict_get_default (strKind PR w) d (strKind_is PR w x t) lo dflt) ⟨_, hd.mapOf, by rw [e]; exact h⟩
theorem str_set {kvs : List (Str × Value)} {x : Str} {t : Tok} {v : Value} {o : Obj} {g : Obj → List (Addr × Obj)} {Q : Unit → Shared → Prop} (F : Fr h₀ L s.heap m) (N : News h₀ L s.heap news) (U : UpdF d o news g) (hd : o.IsDictOf (strKind PR w) kvs)
    (h : ∀ h' o', Fr h₀ L h' m → News h₀ L h' (g o') → o'.IsDictOf (strKind PR w) (stored kvs x v) → Q () { s with heap := h', toks := s.toks + 1 }) (hsz : kvs.length ≤ sizeLine) :
    wpAny (model PR w) A (setItem (.ref d) (.str x t) v) Q E s := by
  obtain ⟨pre, post, rfl, hg, a, b⟩ := U.split
  have hm := N (d, o) (List.mem_append_right _ (.head _))
  refine wpAny_setItem_pairs (hsz := hsz) (strKind_is PR w x t) (Heap.dictOf_iff.mpr ⟨o, hm.1, hd⟩) fun h' hmm hs => ?_
  obtain ⟨o', ho', hd'⟩ := Heap.dictOf_iff.mp hmm
  exact h h' o' (F.change hs hm.2.1 hm.2.2) (hg o' ▸ N.setIn a b hs ho') hd'

/-- an object that is a dict keyed by pairs of ints, as tuples -/
abbrev PKind (w : World) : HeapKind PR w (List Int) := tupleKind (intKind PR w)
def IsDictH (w : World) (h : Heap) (o : Obj) (xs : List (List Int × Addr × Value)) : Prop :=
  ∃ es ep, o.ExactDict ∧ o.data = .dict es ep ∧ es.toList = xs.map (entryOfKey (PKind w)) ∧ (∀ x ∈ xs, (PKind w).is h x.1 x.2.1) ∧ (xs.map (·.1)).Nodup
theorem dictOfH_iff {h : Heap} {xs : List (List Int × Addr × Value)} : h.DictOfH (PKind w) d xs ↔ ∃ o, h.get? d = some o ∧ IsDictH w h o xs :=
  ⟨fun ⟨o, es, ep, ho, r⟩ => ⟨o, ho, es, ep, r⟩, fun ⟨o, ho, es, ep, r⟩ => ⟨o, es, ep, ho, r⟩⟩
theorem IsDictH.tup {h h' : Heap} {o : Obj} {xs : List (List Int × Addr × Value)} (x : IsDictH w h o xs) (k : KeepT h h') : IsDictH w h' o xs := by
  obtain ⟨es, ep, a, b, c, e, f⟩ := x
  refine ⟨es, ep, a, b, c, fun y hy => ?_, f⟩
  obtain ⟨ok, items, n, h1, h2, h3⟩ := e y hy
  exact ⟨ok, items, n, k _ _ h1 ⟨h2, _, _, h3.1⟩, h2, h3⟩
theorem pair_key {h : Heap} {q : Addr} {a n : Int} {t1 t2 : Tok} (e : h.get? q = some (tupOf [.int a t1, .int n t2])) : (PKind w).is h [a, n] q :=
  ⟨_, _, 0, e, rfl, rfl, .cons (intKind_is PR w a t1) (.cons (intKind_is PR w n t2) .nil)⟩
theorem pair_get_meth {xs : List (List Int × Addr × Value)} {pl : Sem Bool} {Q : Value × List Value → Shared → Prop} (hd : s.heap.DictOfH (PKind w) d xs) (h : Q (.builtin "dict.get", [.ref d]) s) :
    wpAny (model PR w) A (getMethod (.ref d) "get" pl) Q E s :=
  getMethod_builtin hd.typeIs PySem.F.plainAttrs_dict PySem.F.slot_dict_get PySem.F.type_dict_get (dictOfH_noDict hd) h
theorem pair_get {xs : List (List Int × Addr × Value)} {a n : Int} {q : Addr} {v dflt : Value} {Q : Value → Shared → Prop} (lo : (d == sysModules) = false) (hu : A.units + 1 < cLine) (hd : s.heap.DictOfH (PKind w) d xs) (hk : (PKind w).is s.heap [a, n] q)
    (e : ((atKey xs [a, n]).map (·.2)).getD dflt = v) (h : Q v { s with toks := s.toks + 3 }) : wpAny (model PR w) A (call (.builtin "dict.get") [.ref d, .ref q, dflt]) Q E s :=
  call_meetsIn PySem.F.slot_dict_get hd.typeIs PySem.F.entry_dict_get (PySem.F.args_dict_get_3 _ _ _) (meetsH_dict_get_default (PKind w) d q lo dflt) ⟨tupleKind_room_in1 hu, _, _, hk, hd, by rw [e]; exact h⟩
theorem pair_set {xs : List (List Int × Addr × Value)} {a n : Int} {q : Addr} {v : Value} {o : Obj} {g : Obj → List (Addr × Obj)} {Q : Unit → Shared → Prop} (hu : A.units + 1 < cLine) (F : Fr h₀ L s.heap m) (N : News h₀ L s.heap news) (U : UpdF d o news g)
    (hd : IsDictH w s.heap o xs) (hk : (PKind w).is s.heap [a, n] q)
    (h : ∀ h' o', Fr h₀ L h' m → News h₀ L h' (g o') → IsDictH w h' o' (storedH xs [a, n] q v) → Heap.SameBut d s.heap h' → Q () { s with heap := h', toks := s.toks + 3 }) (hsz : xs.length ≤ sizeLine) :
    wpAny (model PR w) A (setItem (.ref d) (.ref q) v) Q E s := by
  obtain ⟨pre, post, rfl, hg, a, b⟩ := U.split
  have hm := N (d, o) (List.mem_append_right _ (.head _))
  refine wpAny_setItem_heap (hsz := hsz) (knd := PKind w) (tupleKind_room_in1 hu) hk (dictOfH_iff.mpr ⟨o, hm.1, hd⟩) fun h' hmm hs => ?_
  obtain ⟨o', ho', hd'⟩ := dictOfH_iff.mp hmm
  exact h h' o' (F.change hs hm.2.1 hm.2.2) (hg o' ▸ N.setIn a b hs ho') hd' hs
end

/-- a call by its contract, out of a frame at hand -/
theorem use_does {w : World} {f : Addr} {cost : Nat} {vs : List Value} {ms news : List (Addr × Obj)} {Pre : Heap → Prop} {Post : Heap → Heap → Value → Prop} (D : Does w f cost vs ms Pre Post)
    {p : Program} {loose : List Str} {mean : ExcName → Option Value} {mg mb : Str → Option Value} {A : Around} {env : Env} {outer : List Env} {A₀ : Around} {base h₀ : Heap} {L : Addr} {m : Str → Option Value} {s : Shared} {Q E : Value → Shared → Prop}
    (B : Below A₀ base outer h₀) (F : Fr h₀ L s.heap m) (X : (Mine.hd.heap_39 w.params).In h₀) (N : News h₀ L s.heap news) (T : Top p loose mean mg mb h₀) (hA : A.frames = some (env :: outer)) (hf : env.frame = some L) (hk : env.scope.kind = .function)
    (hd : A.depth + cost < recursionLimit) (hu : A.units + 8 * cost < cLine) (hh : A.handled = none) (hs : ∀ p ∈ ms, p ∈ news) (hpre : Pre s.heap)
    (k : ∀ r h' tk', Keep (ms.map (·.1)) s.heap h' → Post s.heap h' r → Fr h₀ L h' m → Q r { s with heap := h', toks := tk' }) :
    wpAny (model PR w) A (call (.ref f) vs) Q E s :=
  D p loose mean mg mb A env outer A₀ base h₀ L m s Q E B F X (sub_news N hs) T hA hf hk hd hu hh hpre fun r h' tk' hK hP => k r h' tk' hK hP (fr_keep F (sub_news N hs) hK)

open Classical in
/-- all the tuples that a heap holds beyond its base -/
noncomputable def tupsAt (g h : Heap) : List (Addr × Obj) := (List.range h.objs.size).filterMap fun a => match h.get? a with
  | some o => if isTup o ∧ g.get? a = none then some (a, o) else none
  | none => none
theorem mem_tups {g h : Heap} {p : Addr × Obj} : p ∈ tupsAt g h ↔ h.get? p.1 = some p.2 ∧ isTup p.2 ∧ g.get? p.1 = none := by
  obtain ⟨a, o⟩ := p
  unfold tupsAt
  rw [List.mem_filterMap]
  constructor
  · rintro ⟨x, _, e⟩
    split at e
    · rename_i o' ho
      split at e
      · rename_i c
        cases e
        exact ⟨ho, c.1, c.2⟩
      · cases e
    · cases e
  · rintro ⟨h1, h2, h4⟩
    dsimp only at h1 h2 h4
    refine ⟨a, List.mem_range.mpr (Heap.lt_size h1), ?_⟩
    rw [h1]
    dsimp only
    rw [if_pos ⟨h2, h4⟩]
/-- im holds them: what stood in tuples at h stands yet -/
def ImK (g : Heap) (L : Addr) (h : Heap) (im : List (Addr × Obj)) : Prop := ∀ h' m, Fr g L h' m → Has h' im → KeepT h h'
theorem tups_imK {g h : Heap} {L : Addr} {m : Str → Option Value} (F : Fr g L h m) : ImK g L h (tupsAt g h) := fun h' m' F' x b o e c => by
  cases z : g.get? b with
  | none => exact x (b, o) (mem_tups.mpr ⟨e, c, z⟩)
  | some o' => exact (F'.keep b o' z).trans (by rw [← F.keep b o' z]; exact e)
theorem frame_noTup {g h : Heap} {L : Addr} {m : Str → Option Value} (F : Fr g L h m) {o : Obj} (e : h.get? L = some o) : ¬ isTup o := by
  obtain ⟨oL, es, ep, hL, hd, _⟩ := F.ns
  rw [e] at hL
  cases hL
  rintro ⟨_, v, n, q⟩
  rw [hd] at q
  cases q
/-- the ledger behind a call: what it made and is named, what else is at hand, what it changed, and all tuples -/
theorem after_call {g h h' : Heap} {L : Addr} {m : Str → Option Value} {own ms ms' ex news : List (Addr × Obj)} (F : Fr g L h m) (F' : Fr g L h' m) (N : News g L h news) (hK : Keep (ms.map (·.1)) h h')
    (hs : ∀ p ∈ ms, p ∈ news) (ho : ∀ p ∈ own, p ∈ news) (x : Has h' ms') (e : ms'.map (·.1) = ms.map (·.1)) (d : ∀ p ∈ own, p.1 ∉ ms.map (·.1)) (hex : ∀ p ∈ ex, h'.get? p.1 = some p.2 ∧ h.get? p.1 = none) :
    ∃ im, News g L h' (ex ++ (own ++ (ms' ++ im))) ∧ ImK g L h' im ∧ ∀ p ∈ im, isTup p.2 := by
  refine ⟨tupsAt g h', fun p hp => ?_, tups_imK F', fun p hp => (mem_tups.mp hp).2.1⟩
  rcases List.mem_append.mp hp with hp | hp
  · obtain ⟨a, b⟩ := hex p hp
    refine ⟨a, fun q => ?_, ?_⟩
    · obtain ⟨oL, _, _, hL, _⟩ := F.ns
      rw [← q, b] at hL; cases hL
    · cases z : g.get? p.1 with
      | none => rfl
      | some o => have := F.keep _ _ z; rw [b] at this; cases this
  rcases List.mem_append.mp hp with hp | hp
  · exact news_keep (sub_news N ho) hK d p hp
  rcases List.mem_append.mp hp with hp | hp
  · exact news_has (sub_news N hs) x e p hp
  · obtain ⟨a, b, c⟩ := mem_tups.mp hp
    exact ⟨a, fun q => frame_noTup F' (q ▸ a) b, c⟩
theorem tups_off {g h : Heap} {L d : Addr} {o : Obj} {im news : List (Addr × Obj)} (N : News g L h news) (hi : ∀ p ∈ im, p ∈ news) (ht : ∀ p ∈ im, isTup p.2) (hd : (d, o) ∈ news) (no : ¬ isTup o) : ∀ p ∈ im, @Ne Nat p.1 d := fun p hp q => by
  have a := (N p (hi p hp)).1
  have e : (some o : Option Obj) = some p.2 := (N _ hd).1.symm.trans (by rw [← a]; exact congrArg _ q.symm)
  cases e
  exact no (ht p hp)

theorem tick3 {prog : Program} {w : World} {A : Around} {E : Value → Shared → Prop} {s : Shared} {env : Env} {Q : Flow → Shared → Prop} (h : Q .next s) : wpAny (model prog w) A (execs [] env) Q E s := by
  first | (walk1; exact h) | exact wpAny_execs_nil h
section
variable {prog : Program} {w : World} {A : Around} {E : Value → Shared → Prop} {s : Shared} {L : Addr} {h₀ : Heap} {m : Str → Option Value} {news news' : List (Addr × Obj)}
theorem pop_K {D : Addr} {its : List Value} {n : Nat} {y : Value} {Q : Value → Shared → Prop} (F : Fr h₀ L s.heap m) (N : News h₀ L s.heap news) (U : Upd D (listOf (its ++ [y]).toArray n) (listOf its.toArray (n + 1)) news news')
    (hsz : its.length < 16000) (h : ∀ h', Fr h₀ L h' m → News h₀ L h' news' → Q y { s with heap := h' }) : wpAny (model prog w) A (call (.builtin "list.pop") [.ref D]) Q E s := by
  obtain ⟨pre, post, rfl, rfl, a, b⟩ := U.split
  have z := N (D, listOf (its ++ [y]).toArray n) (List.mem_append.mpr (.inr (.head _)))
  have e : ((its ++ [y]).toArray).pop = its.toArray := by simp
  refine Copied.pop_at (y := y) z.1 (by simp) (fun h' hs ho' => h h' (F.change hs z.2.1 z.2.2) (news_set N a b hs (e ▸ ho'))) ?_
  rw [sizeLine_eq]; simp; omega
theorem ne_nil {l b : Addr} {Q : Value → Shared → Prop} (hl : s.heap.IsList l [].toArray) (hb : s.heap.IsList b [].toArray) (hu : A.units < cLine) (h : Q (.bool false) s) :
    wpAny (model prog w) A (compareOp .NotEq (.ref l) (.ref b)) Q E s :=
  PySem.SeqAt.RcNeAt.lists (e := fun _ => true) hl hb rfl hu (fun j h1 _ => absurd h1 (Nat.not_lt_zero _)) prog w E Q h
theorem ne_some {l b : Addr} {its : List Value} {Q : Value → Shared → Prop} (hl : s.heap.IsList l its.toArray) (hb : s.heap.IsList b [].toArray) (hu : A.units < cLine) (hn : 0 < its.length) (h : Q (.bool true) s) :
    wpAny (model prog w) A (compareOp .NotEq (.ref l) (.ref b)) Q E s :=
  PySem.SeqAt.RcNeAt.lists_lengths hl hb (by simp; intro e; rw [e] at hn; exact Nat.lt_irrefl _ hn) hu prog w E Q h
theorem eq_nil {l b : Addr} {Q : Value → Shared → Prop} (hl : s.heap.IsList l [].toArray) (hb : s.heap.IsList b [].toArray) (hu : A.units < cLine) (h : Q (.bool true) s) :
    wpAny (model prog w) A (compareOp .Eq (.ref l) (.ref b)) Q E s :=
  PySem.SeqAt.RcAt.lists (e := fun _ => true) hl hb rfl hu (fun j h1 _ => absurd h1 (Nat.not_lt_zero _)) prog w E Q h
theorem eq_some {l b : Addr} {its : List Value} {Q : Value → Shared → Prop} (hl : s.heap.IsList l its.toArray) (hb : s.heap.IsList b [].toArray) (hu : A.units < cLine) (hn : 0 < its.length) (h : Q (.bool false) s) :
    wpAny (model prog w) A (compareOp .Eq (.ref l) (.ref b)) Q E s :=
  PySem.SeqAt.RcAt.lists_lengths hl hb (by simp; intro e; rw [e] at hn; exact Nat.lt_irrefl _ hn) hu prog w E Q h
theorem tuple_K {l : Addr} {its : List Value} {Q : Value → Shared → Prop} (F : Fr h₀ L s.heap m) (N : News h₀ L s.heap news) (hl : s.heap.IsList l its.toArray) (hz : its.length ≤ 16000)
    (h : ∀ D h', Fr h₀ L h' m → News h₀ L h' ((D, ({ cls := .type "tuple", data := .seq its.toArray } : Obj)) :: news) → (∀ p ∈ news, p.1 < D) → Q (.ref D) { s with heap := h' }) : wpAny (model prog w) A (call (.type "tuple") [.ref l]) Q E s :=
  kde_tupleOf F N hl (by simp; omega) (by simp) h
end

local macro_rules | `(tactic| walk_at "m list") => `(tactic| first | exact News.isList (by assumption) (by k_mem) | exact Fr.lst (by assumption) (by assumption))
local macro_rules | `(tactic| walk_at "call builtin:len") => `(tactic| (k_here; (with_reducible show wpAny _ _ (call (Value.builtin "len") [Value.ref _]) _ _ _); k_dflt (refine' call_len_list ?k1 ?k2 ?_; (case k1 => walk_at "m list"); (case k2 => (simp only [List.size_toArray]; omega)); k_whole)))
local macro_rules | `(tactic| walk_at "compareOp NotEq ref ref") => `(tactic| (k_here; (with_reducible show wpAny _ _ (compareOp CmpOp.NotEq (Value.ref _) (Value.ref _)) _ _ _); k_dflt (first | (refine' ne_nil ?k1 ?k2 ?k3 ?_; (case k1 => walk_at "m list"); (case k2 => walk_at "m list")) | (refine' ne_some ?k1 ?k2 ?k3 ?k4 ?_; (case k1 => walk_at "m list"); (case k2 => walk_at "m list"); (case k4 => first | omega | (simp only [List.length_append, List.length_cons]; omega)))); (case k3 => walk_at "m units"); k_whole))
local macro_rules | `(tactic| walk_at "compareOp Eq ref ref") => `(tactic| (k_here; (with_reducible show wpAny _ _ (compareOp CmpOp.Eq (Value.ref _) (Value.ref _)) _ _ _); k_dflt (first | (refine' eq_nil ?k1 ?k2 ?k3 ?_; (case k1 => walk_at "m list"); (case k2 => walk_at "m list")) | (refine' eq_some ?k1 ?k2 ?k3 ?k4 ?_; (case k1 => walk_at "m list"); (case k2 => walk_at "m list"); (case k4 => first | omega | (simp only [List.length_append, List.length_cons]; omega)))); (case k3 => walk_at "m units"); k_whole))
local macro_rules | `(tactic| walk_at "call builtin:list.pop") => `(tactic| (k_here; (with_reducible show wpAny _ _ (call (Value.builtin _) [Value.ref _]) _ _ _); k_dflt (refine' pop_K ?k1 ?k2 ?k3 ?k4 ?_; (case k1 => k_asm); (case k2 => k_asm); (case k3 => k_upd); (case k4 => omega); k_whole); intro h' F' N'; (try k_sweep)))
local macro_rules | `(tactic| walk_at "call type:tuple") => `(tactic| (k_here; (with_reducible show wpAny _ _ (call (Value.type _) [Value.ref _]) _ _ _); k_dflt (refine' tuple_K ?k1 ?k2 ?k3 ?k4 ?_; (case k1 => k_asm); (case k2 => k_asm); (case k3 => walk_at "m list"); (case k4 => omega); k_whole); intro D' h' F' N' l1; (try k_lt l1); (try k_sweep)))


/-- the iterator over the list (tuple) l, at place i -/
def IterL (o : Obj) (l : Addr) (i : Nat) : Prop := o.cls = .type "list_iterator" ∧ o.data = .fields #[.ref l, .int i 0]
def IterT (o : Obj) (l : Addr) (i : Nat) : Prop := o.cls = .type "tuple_iterator" ∧ o.data = .fields #[.ref l, .int i 0]
theorem tick4 {prog : Program} {w : World} {A : Around} {E : Value → Shared → Prop} {s : Shared} {env : Env} {Q : Flow → Shared → Prop} (h : Q .next s) : wpAny (model prog w) A (execs [] env) Q E s := by
  first | (walk1; exact h) | exact wpAny_execs_nil h
section
variable {prog : Program} {w : World} {A : Around} {E : Value → Shared → Prop} {s : Shared} {L : Addr} {h₀ : Heap} {m : Str → Option Value} {news news' : List (Addr × Obj)}
theorem iter_list {l : Addr} {items : Array Value} {Q : Value → Shared → Prop} (F : Fr h₀ L s.heap m) (N : News h₀ L s.heap news) (hl : s.heap.IsList l items)
    (h : ∀ (it : Nat) o h', IterL o l 0 → Fr h₀ L h' m → News h₀ L h' ((it, o) :: news) → (∀ p ∈ news, p.1 < it) → Q (.ref it) { s with heap := h' }) : wpAny (model prog w) A (pyIter (.ref l)) Q E s :=
  wpAny_pyIter_list hl (h _ _ _ ⟨rfl, rfl⟩ (F.push _) (N.push F _) fun p hp => Heap.lt_size (N p hp).1)
theorem iter_tup {l : Addr} {items : Array Value} {Q : Value → Shared → Prop} (F : Fr h₀ L s.heap m) (N : News h₀ L s.heap news) (hl : s.heap.IsTuple l items)
    (h : ∀ (it : Nat) o h', IterT o l 0 → Fr h₀ L h' m → News h₀ L h' ((it, o) :: news) → (∀ p ∈ news, p.1 < it) → Q (.ref it) { s with heap := h' }) : wpAny (model prog w) A (pyIter (.ref l)) Q E s :=
  wpAny_pyIter_tuple hl (h _ _ _ ⟨rfl, rfl⟩ (F.push _) (N.push F _) fun p hp => Heap.lt_size (N p hp).1)
theorem next_list {l it : Addr} {o : Obj} {i : Nat} {items : Array Value} {x : Value} {Q : Option Value → Shared → Prop} (F : Fr h₀ L s.heap m) (N : News h₀ L s.heap ((it, o) :: news)) (ho : IterL o l i) (hl : s.heap.IsList l items) (hx : items[i]? = some x) (hn : ∀ p ∈ news, p.1 ≠ it)
    (h : ∀ o' h', IterL o' l (i + 1) → Fr h₀ L h' m → News h₀ L h' ((it, o') :: news) → Q (some x) { s with heap := h' }) : wpAny (model prog w) A (pyNext (.ref it)) Q E s := by
  have z := N _ (.head _)
  refine wpAny_pyNext_list_item ⟨o, z.1, ho.1, ho.2⟩ hl hx fun h' hi hs => ?_
  obtain ⟨o', a, b, c⟩ := hi
  exact h o' h' ⟨b, c⟩ (F.change hs z.2.1 z.2.2) (news_set (pre := []) N (fun _ q => nomatch q) hn hs a)
theorem next_tup {l it : Addr} {o : Obj} {i : Nat} {items : Array Value} {x : Value} {Q : Option Value → Shared → Prop} (F : Fr h₀ L s.heap m) (N : News h₀ L s.heap ((it, o) :: news)) (ho : IterT o l i) (hl : s.heap.IsTuple l items) (hx : items[i]? = some x) (hn : ∀ p ∈ news, p.1 ≠ it)
    (h : ∀ o' h', IterT o' l (i + 1) → Fr h₀ L h' m → News h₀ L h' ((it, o') :: news) → Q (some x) { s with heap := h' }) : wpAny (model prog w) A (pyNext (.ref it)) Q E s := by
  have z := N _ (.head _)
  refine wpAny_pyNext_tuple_item ⟨o, z.1, ho.1, ho.2⟩ hl hx fun h' hi hs => ?_
  obtain ⟨o', a, b, c⟩ := hi
  exact h o' h' ⟨b, c⟩ (F.change hs z.2.1 z.2.2) (news_set (pre := []) N (fun _ q => nomatch q) hn hs a)
theorem fr_ext {h h' : Heap} {d : Addr} (F : Fr h₀ L h m) (hs : Heap.ExtBut d h h') (hL : d ≠ L) (hn : h₀.get? d = none) : Fr h₀ L h' m := by
  obtain ⟨oL, a1, a2, hoL, a3⟩ := F.ns
  refine ⟨⟨oL, a1, a2, hs L oL hL.symm hoL, a3⟩, fun b x e => hs b x ?_ (F.keep b x e), F.above⟩
  rintro rfl
  rw [hn] at e
  cases e
theorem end_list {l it : Addr} {o : Obj} {i : Nat} {items : Array Value} {Q : Option Value → Shared → Prop} (F : Fr h₀ L s.heap m) (N : News h₀ L s.heap ((it, o) :: news)) (ho : IterL o l i) (hl : s.heap.IsList l items) (hx : items[i]? = none) (hn : ∀ p ∈ news, p.1 ≠ it) (hh : A.handled = none)
    (h : ∀ h', Fr h₀ L h' m → News h₀ L h' news → Q none { s with heap := h' }) : wpAny (model prog w) A (pyNext (.ref it)) Q E s := by
  have z := N _ (.head _)
  refine wpAny_pyNext_list_end hh ⟨o, z.1, ho.1, ho.2⟩ hl hx fun h' hs => ?_
  exact h h' (fr_ext F hs z.2.1 z.2.2) fun p hp => ⟨hs _ _ (hn p hp) (N p (.tail _ hp)).1, (N p (.tail _ hp)).2⟩
theorem end_tup {l it : Addr} {o : Obj} {i : Nat} {items : Array Value} {Q : Option Value → Shared → Prop} (F : Fr h₀ L s.heap m) (N : News h₀ L s.heap ((it, o) :: news)) (ho : IterT o l i) (hl : s.heap.IsTuple l items) (hx : items[i]? = none) (hn : ∀ p ∈ news, p.1 ≠ it) (hh : A.handled = none)
    (h : ∀ h', Fr h₀ L h' m → News h₀ L h' news → Q none { s with heap := h' }) : wpAny (model prog w) A (pyNext (.ref it)) Q E s := by
  have z := N _ (.head _)
  refine wpAny_pyNext_tuple_end hh ⟨o, z.1, ho.1, ho.2⟩ hl hx fun h' hs => ?_
  exact h h' (fr_ext F hs z.2.1 z.2.2) fun p hp => ⟨hs _ _ (hn p hp) (N p (.tail _ hp)).1, (N p (.tail _ hp)).2⟩
end
/-- a for whose turns raise nothing -/
def FStep (I : Nat → Shared → Prop) (Q : Flow → Shared → Prop) (n : Nat) (f : Flow) (s : Shared) : Prop := match f with
  | .next | .cont => ∃ m, m < n ∧ I m s
  | .brk => Q .next s
  | .ret v => Q (.ret v) s
theorem for_I {prog : Program} {w : World} {A : Around} {Q : Flow → Shared → Prop} {Er : PySem.Value → Shared → Prop} {s : Shared} {env : Env} {x : Str} {px : Pos} {it : Value} {body : List Stmt} (I : Nat → Shared → Prop)
    (turn : ∀ n s, I n s → wpAny (model prog w) A (pyNext it) (fun r s₁ => match r with
      | none => Q .next s₁
      | some v => wpAny (model prog w) A (storeName env x v) (fun _ s₂ => wpAny (model prog w) A (execs body env) (FStep I Q n) (fun _ _ => False) s₂) (fun _ _ => False) s₁) (fun _ _ => False) s)
    (n : Nat) (h : I n s) : codeAny (model prog w) A (.forLoop (.Name x px) it body [] env) (fun r s' => match r with | .ok f => Q f s' | .error e => Er e s') s := by
  refine codeAny_forLoop I (fun n s hI => wpAny_mono (turn n s hI) (fun r s₁ h₁ => ?_) fun _ _ e => e.elim) n h
  cases r with
  | none => exact wpAny_execs_nil h₁
  | some v =>
    refine wpAny_assign_Name (wpAny_mono h₁ (fun _ s₂ h₂ => wpAny_mono h₂ (fun f s₃ h₃ => ?_) fun _ _ e => e.elim) fun _ _ e => e.elim)
    cases f <;> exact h₃

/-- an own class is called: what stood before stands -/
theorem call_clsD {prog : Program} {w : World} {A : Around} {E : Value → Shared → Prop} {s : Shared} {K : Frag} {L C : Addr} {h₀ : Heap} {m : Str → Option Value} {news : List (Addr × Obj)} {Q : Value → Shared → Prop} {pos : List Value} {kw : List (Str × Value)} {fI : Addr}
    (F : Fr h₀ L s.heap m) (X₀ : K.In h₀) (N : News h₀ L s.heap news) (hm : makesIn K C = true) (hi : findIn K (.ref C) "__init__" = some (some (.ref fI))) (hf : isFn K (.ref fI) = true)
    (h : ∀ x dx h', Fr h₀ L h' m → News h₀ L h' ((x, instObj C dx) :: (dx, dictOf [] 0) :: news) → (∀ p ∈ news, p.1 < dx) → dx < x → (∀ b o, s.heap.get? b = some o → h'.get? b = some o) → s.heap.get? x = none → s.heap.get? dx = none →
      codeAny (model prog w) (A.under (.builtin "type.__call__" ⟨.ref C :: pos, kw⟩)) (.call (.ref fI) ⟨.ref x :: pos, kw⟩) (InitBack x fun r s' => match r with | .ok (.ret v) => Q v s' | .ok _ => False | .error e => E e s') { s with heap := h' }) :
    wpAny (model prog w) A (call (.ref C) pos kw) Q E s := wpAny_call (by
  obtain ⟨hh, g, d, t, os⟩ := s
  have X := X₀.keeps F.keep
  refine make_core (makes_of X hm) (looks_findIn X hi) (fun self => bind_fn X self (beq_iff_eq.mp hf)) (.inl rfl) (h _ hh.objs.size _ ((F.push _).push _) ?_ (fun p hp => Heap.lt_size (N p hp).1) (Nat.lt_succ_self _) (fun b o e => Heap.get?_push_of_some _ (Heap.get?_push_of_some _ e)) ?_ ?_)
  · have := (N.push F emptyDict).push (F.push _) (instObj C hh.objs.size)
    rwa [Heap.size_push] at this
  · cases q : hh.get? (hh.objs.size + 1) with
    | none => rfl
    | some o => exact absurd (Heap.lt_size q) (Nat.not_lt_of_le (Nat.le_succ _))
  · cases q : hh.get? hh.objs.size with
    | none => rfl
    | some o => exact absurd (Heap.lt_size q) (Nat.lt_irrefl _))

inductive Sg where
  | atm | num | lp | fp | lb | lc | rp | rb | rc | cma | bar | dot
  deriving DecidableEq
namespace Sg
def str : Sg → Str
  | atm => Str.ofString "a"
  | num => Str.ofString "7"
  | lp => Str.ofString "("
  | fp => Str.ofString "f("
  | lb => Str.ofString "["
  | lc => Str.ofString "{"
  | rp => Str.ofString ")"
  | rb => Str.ofString "]"
  | rc => Str.ofString "}"
  | cma => Str.ofString ","
  | bar => Str.ofString "|"
  | dot => Str.ofString "."
def closer : Sg → Bool
  | rp | rb | rc | dot => true
  | _ => false
def sep : Sg → Bool
  | cma | bar => true
  | _ => false
end Sg
/-- the list of signs as the heap bears it -/
def SgVals (vs : List Value) (sg : List Sg) : Prop := vs.length = sg.length ∧ ∀ (i : Nat) (x : Sg), sg[i]? = some x → ∃ t, vs[i]? = some (.str x.str t)
theorem SgVals.get {vs : List Value} {sg : List Sg} (h : SgVals vs sg) {i : Nat} {x : Sg} (e : sg[i]? = some x) : ∃ t, vs[((i : Nat) : Int).toNat]? = some (.str x.str t) := h.2 i x e

def StopAt (h : Heap) (v : Value) (kind : Str) (at_ : Int) : Prop := ∃ t k1 k2, v = .ref t ∧ h.get? t = some (tupOf [.str kind k1, .int at_ k2])
def PairAt (h0 h : Heap) (r v : Value) (n : Int) : Prop := ∃ a k, r = .ref a ∧ h.get? a = some (tupOf [v, .int n k]) ∧ h0.get? a = none
theorem new_of {g h : Heap} {a : Addr} (e : g.get? a = none) (x : ∀ b o, h.get? b = some o → b ∉ ([] : List Addr) → g.get? b = some o) : h.get? a = none := by
  cases q : h.get? a with
  | none => rfl
  | some o => rw [x _ _ q (by simp)] at e; cases e
def stopKind (x : Sg) (o : Str) : Str := if x.closer then Str.ofString "unbalanced" else if x.sep then Str.ofString "unexpected_token" else o

theorem stop_post {g h h' : Heap} {L a t : Addr} {v : Value} {k k1 k2 : Tok} {kd : Str} {n : Int} {rest : List (Addr × Obj)} (N : News g L h' ((a, tupOf [v, .int (-1) k]) :: (t, tupOf [.str kd k1, .int n k2]) :: rest))
    (hv : v = .ref t) (hg : ∀ b o, h.get? b = some o → b ∉ ([] : List Addr) → g.get? b = some o) : ∃ v, PairAt h h' (.ref a) v (-1) ∧ StopAt h' v kd n :=
  ⟨v, ⟨a, k, rfl, News.get N (.head _), new_of (News.fresh N (.head _)) hg⟩, t, k1, k2, hv, News.get N (.tail _ (.head _))⟩
theorem stop1 {x : Sg} {os : Str} (h : ([Str.ofString ")", Str.ofString "]", Str.ofString "}", Str.ofString "."].any fun y => y == x.str) = true) : stopKind x os = Str.ofString "unbalanced" := by
  cases x <;> first | rfl | exact absurd (h.symm.trans (show _ = false by decide +kernel)) (by decide) | exact absurd (h1.symm.trans (show _ = true by decide +kernel)) (by decide)
theorem stop2 {x : Sg} {os : Str} (h1 : ([Str.ofString ")", Str.ofString "]", Str.ofString "}", Str.ofString "."].any fun y => y == x.str) = false) (h : ([Str.ofString ",", Str.ofString "|"].any fun y => y == x.str) = true) : stopKind x os = Str.ofString "unexpected_token" := by
  cases x <;> first | rfl | exact absurd (h.symm.trans (show _ = false by decide +kernel)) (by decide) | exact absurd (h1.symm.trans (show _ = true by decide +kernel)) (by decide)
theorem stop3 {x : Sg} {os : Str} (h1 : ([Str.ofString ")", Str.ofString "]", Str.ofString "}", Str.ofString "."].any fun y => y == x.str) = false) (h : ([Str.ofString ",", Str.ofString "|"].any fun y => y == x.str) = false) : stopKind x os = os := by
  cases x <;> first | rfl | exact absurd (h1.symm.trans (show _ = true by decide +kernel)) (by decide) | exact absurd (h.symm.trans (show _ = true by decide +kernel)) (by decide)

set_option maxHeartbeats 4000000 in
theorem does_stop (w : World) (l : Addr) (vs : List Value) (sg : List Sg) (i : Nat) (x : Sg) (tk2 tk3 : Tok) (os : Str) (hi : i < 1000) (hv : SgVals vs sg) (hx : sg[i]? = some x) :
    Does w 549 1 [.ref l, .int i tk2, .str os tk3] [] (fun h => h.IsList l vs.toArray) (fun h h' r => ∃ v, PairAt h h' r v (-1) ∧ StopAt h' v (stopKind x os) (3 * i)) := by
  walk_at "m fill"
  intro p loose mean mg mb A env outer A₀ base h₀ L m s Q E B F X N T hA hf hk hd hu hh hpre hret
  obtain ⟨ah, dp, fr, gd, un⟩ := A
  obtain rfl : fr = some (env :: outer) := hA
  obtain rfl : ah = none := hh
  replace hd : dp + _ < recursionLimit := hd
  replace hu : un + _ < cLine := hu
  obtain ⟨tx, hx'⟩ := hv.get hx
  refine wpAny_call ?_
  k_dflt (refine' enterD (binds := [(Str.ofString "signs", .ref l), (Str.ofString "spot", .int i tk2), (Str.ofString "otherwise", .str os tk3)]) ?k1 ?k2 ?k3 ?k4 ?k5 ?kA ?kF ?kK ?k6 ?k7 ?k8 ?k9 ?kB ?_ ?c2 ?c3 ?c4 ?c5; (case kA => walk_at "m frames"); (case kF => first | assumption | exact rfl); (case kK => first | assumption | exact rfl); (case k1 => k_asm); (case k2 => k_asm); (case k3 => k_asm); (case k4 => k_asm); (case k5 => k_asm); (case k6 => k_is); (case k7 => k_is); (case k8 => walk_at "m room"); (case k9 => first | exact BindsTo.of_eq rfl | exact binds_K (by k_in) rfl (by k_is) rfl rfl rfl); (case c5 => decide); (case kB => exact locs rfl); (case c2 => exact rfl); (case c3 => exact rfl); (case c4 => exact rfl); k_whole)
  intro g L' h₁ F' N' B' X' T' hg hgs
  k_fold
  have hl : g.IsList l vs.toArray := by obtain ⟨o, ho, r⟩ := hpre; exact ⟨o, hg _ _ ho (by simp), r⟩
  k_steps
  all_goals (rename News g L' _ _ => N9; show Q _ _; refine hret _ _ _ (fun b o e n => Fr.keep (by assumption) b o (hg b o e n)) ?_)
  · rw [stop1 (by assumption)]; exact stop_post N9 rfl hg
  · rw [stop2 (by assumption) (by assumption)]; exact stop_post N9 rfl hg
  · rw [stop3 (by assumption) (by assumption)]; exact stop_post N9 rfl hg

/-- where the symbol table lies -/
structure BA where
  b : Nat
  bd : Nat
  tx : Nat
  an : Nat
  fs : Nat
  fn : Nat
  k1 : Tok
  k2 : Tok
  k3 : Tok
  k4 : Tok
/-- what it bears -/
structure BC where
  its : List Value
  n1 : Nat
  oan : Obj
  fvs : List Value
  n2 : Nat
  ofn : Obj
  texts : List Str
  fns : List (Int × Int)
  akv : List (Str × Value)
  fkv : List (List Int × Addr × Value)
namespace BC
abbrev L (P : Params) (β : BA) (c : BC) : List (Addr × Obj) :=
  [(β.b, instObj 154 β.bd),
   (β.bd, dictOf [⟨PyData.keyHash P (Str.ofString "texts"), .str (Str.ofString "texts") β.k1, .ref β.tx⟩, ⟨PyData.keyHash P (Str.ofString "atom_numbers"), .str (Str.ofString "atom_numbers") β.k2, .ref β.an⟩,
     ⟨PyData.keyHash P (Str.ofString "functors"), .str (Str.ofString "functors") β.k3, .ref β.fs⟩, ⟨PyData.keyHash P (Str.ofString "functor_numbers"), .str (Str.ofString "functor_numbers") β.k4, .ref β.fn⟩] 4),
   (β.tx, listOf c.its.toArray c.n1), (β.an, c.oan), (β.fs, listOf c.fvs.toArray c.n2), (β.fn, c.ofn)]
structure Ok (w : World) (h : Heap) (β : BA) (c : BC) : Prop where
  ord : β.bd < β.b ∧ β.b < β.tx ∧ β.tx < β.an ∧ β.an < β.fs ∧ β.fs < β.fn
  lo : (β.an == sysModules) = false ∧ (β.fn == sysModules) = false
  its : c.its.length = c.texts.length
  anD : c.oan.IsDictOf (strKind PR w) c.akv
  anK : c.akv.map (·.1) = c.texts
  anV : ∀ (i : Nat) (p : Str × Value), c.akv[i]? = some p → ∃ t, p.2 = .int i t
  fvs : c.fvs.length = c.fns.length
  fnD : IsDictH w h c.ofn c.fkv
  fnK : c.fkv.map (·.1) = c.fns.map fun p => [p.1, p.2]
  fnV : ∀ (i : Nat) (p : List Int × Addr × Value), c.fkv[i]? = some p → ∃ t, p.2.2 = .int i t
  ndt : c.texts.Nodup
  ndf : c.fns.Nodup
/-- the same table, grown by n entries at most -/
structure Grow (c c' : BC) (n : Nat) : Prop where
  texts : c.texts <+: c'.texts
  fns : c.fns <+: c'.fns
  size : c'.texts.length + c'.fns.length ≤ c.texts.length + c.fns.length + n
theorem Grow.refl (c : BC) : Grow c c 0 := ⟨List.prefix_refl _, List.prefix_refl _, Nat.le_refl _⟩
theorem Grow.trans {c c' c'' : BC} {m n : Nat} (x : Grow c c' m) (y : Grow c' c'' n) : Grow c c'' (m + n) :=
  ⟨x.texts.trans y.texts, x.fns.trans y.fns, by have := x.size; have := y.size; omega⟩
theorem Grow.le {c c' : BC} {m n : Nat} (x : Grow c c' m) (h : m ≤ n) : Grow c c' n := ⟨x.texts, x.fns, by have := x.size; omega⟩
def size (c : BC) : Nat := c.texts.length + c.fns.length
theorem Grow.sz {c c' : BC} {n : Nat} (x : Grow c c' n) : c'.size ≤ c.size + n := x.size
theorem addrs (P : Params) (β : BA) (c c' : BC) : (c'.L P β).map (·.1) = (c.L P β).map (·.1) := rfl
end BC

theorem BC.Ok.keepT {w : World} {h h' : Heap} {β : BA} {c : BC} (o : c.Ok w h β) (k : KeepT h h') : c.Ok w h' β := ⟨o.ord, o.lo, o.its, o.anD, o.anK, o.anV, o.fvs, o.fnD.tup k, o.fnK, o.fnV, o.ndt, o.ndf⟩
theorem BC.Ok.noTup {w : World} {h : Heap} {β : BA} {c : BC} (o : c.Ok w h β) (P : Params) : NoTup (c.L P β) := by
  obtain ⟨es, ep, ha, _⟩ := o.anD
  obtain ⟨es', ep', hb, _⟩ := o.fnD
  intro p hp
  simp only [BC.L, List.mem_cons, List.mem_nil_iff, or_false] at hp
  rcases hp with rfl | rfl | rfl | rfl | rfl | rfl
  · rintro ⟨e, _⟩; cases e
  · rintro ⟨e, _⟩; simp at e
  · rintro ⟨e, _⟩; simp at e
  · rintro ⟨e, _⟩; rw [ha.1] at e; simp at e
  · rintro ⟨e, _⟩; simp at e
  · rintro ⟨e, _⟩; rw [hb.1] at e; simp at e

theorem tick5 {prog : Program} {w : World} {A : Around} {E : Value → Shared → Prop} {s : Shared} {env : Env} {Q : Flow → Shared → Prop} (h : Q .next s) : wpAny (model prog w) A (execs [] env) Q E s := by
  first | (walk1; exact h) | exact wpAny_execs_nil h
section
theorem valueAt_of {kvs : List (Str × Value)} {x : Str} : (valueAt kvs x = none ∧ x ∉ kvs.map (·.1)) ∨ ∃ (i : Nat) (v : Value), valueAt kvs x = some v ∧ kvs[i]? = some (x, v) := by
  unfold valueAt
  cases h : kvs.find? fun kv => kv.1 = x with
  | none =>
    refine .inl ⟨rfl, fun q => ?_⟩
    obtain ⟨p, hp, e⟩ := List.mem_map.mp q
    have := List.find?_eq_none.mp h p hp
    simp [e] at this
  | some p =>
    have h1 := List.find?_some h
    obtain ⟨i, hi⟩ := List.mem_iff_getElem?.mp (List.mem_of_find?_eq_some h)
    simp at h1
    exact .inr ⟨i, p.2, rfl, by rw [hi, ← h1]⟩
theorem atKey_of {xs : List (List Int × Addr × Value)} {k : List Int} : (atKey xs k = none ∧ k ∉ xs.map (·.1)) ∨ ∃ (i : Nat) (p : Addr × Value), atKey xs k = some p ∧ xs[i]? = some (k, p) := by
  unfold atKey
  cases h : xs.find? fun x => decide (x.1 = k) with
  | none =>
    refine .inl ⟨rfl, fun q => ?_⟩
    obtain ⟨p, hp, e⟩ := List.mem_map.mp q
    have := List.find?_eq_none.mp h p hp
    simp [e] at this
  | some p =>
    have h1 := List.find?_some h
    obtain ⟨i, hi⟩ := List.mem_iff_getElem?.mp (List.mem_of_find?_eq_some h)
    simp at h1
    exact .inr ⟨i, p.2, rfl, by rw [hi, ← h1]⟩
/-- a list of keys, with one more where it is new -/
def addU {α : Type} [DecidableEq α] (l : List α) (x : α) : List α := if x ∈ l then l else l ++ [x]
theorem nodup_add {α : Type} {l : List α} {x : α} (h : l.Nodup) (n : x ∉ l) : (l ++ [x]).Nodup := by
  rw [List.nodup_append]
  exact ⟨h, by simp, fun a ha b hb e => n (by rw [List.mem_singleton] at hb; rw [← hb, ← e]; exact ha)⟩
theorem nodup_get {α : Type} : ∀ {l : List α}, l.Nodup → ∀ {i j : Nat} {x : α}, l[i]? = some x → l[j]? = some x → i = j
  | [], _, _, _, _, a, _ => by simp at a
  | y :: l, h, 0, 0, _, _, _ => rfl
  | y :: l, h, 0, j + 1, x, a, b => by
    simp only [List.getElem?_cons_zero, Option.some.injEq, List.getElem?_cons_succ] at a b
    subst a
    exact absurd (List.mem_of_getElem? b) (List.nodup_cons.mp h).1
  | y :: l, h, i + 1, 0, x, a, b => by
    simp only [List.getElem?_cons_zero, Option.some.injEq, List.getElem?_cons_succ] at a b
    subst b
    exact absurd (List.mem_of_getElem? a) (List.nodup_cons.mp h).1
  | y :: l, h, i + 1, j + 1, x, a, b => by
    simp only [List.getElem?_cons_succ] at a b
    rw [nodup_get (List.nodup_cons.mp h).2 a b]
theorem stored_miss {kvs : List (Str × Value)} {x : Str} {v : Value} (h : x ∉ kvs.map (·.1)) : stored kvs x v = kvs ++ [(x, v)] := by
  unfold stored
  rw [if_neg]
  intro e
  obtain ⟨p, hp, q⟩ := List.any_eq_true.mp e
  exact h (List.mem_map.mpr ⟨p, hp, by simpa using q⟩)
end

abbrev AtomPost (w : World) (β : BA) (c : BC) (x : Str) (h' : Heap) (r : Value) : Prop :=
  ∃ (c' : BC), c.Grow c' 1 ∧ Has h' (c'.L w.params β) ∧ c'.Ok w h' β ∧ ∃ (i : Nat) (t : Tok), r = .int i t ∧ c'.texts[i]? = some x
abbrev AtomPostX (w : World) (β : BA) (c : BC) (x : Str) (h' : Heap) (r : Value) : Prop :=
  ∃ (c' : BC), c.Grow c' 1 ∧ Has h' (c'.L w.params β) ∧ c'.Ok w h' β ∧ ∃ (i : Nat) (t : Tok), r = .int i t ∧ c'.texts[i]? = some x ∧ c'.texts = addU c.texts x ∧ c'.fns = c.fns

theorem atom_new {w : World} {β : BA} {c : BC} {x : Str} {h h' : Heap} {o' : Obj} {tk t' : Tok} (ok : c.Ok w h β) (hT : KeepT h h') (hnot : x ∉ c.akv.map (·.1))
    (hd : o'.IsDictOf (strKind PR w) (stored c.akv x (.int c.its.toArray.size t')))
    (hN : Has h' [(β.b, instObj 154 β.bd),
   (β.bd, dictOf [⟨PyData.keyHash w.params (Str.ofString "texts"), .str (Str.ofString "texts") β.k1, .ref β.tx⟩, ⟨PyData.keyHash w.params (Str.ofString "atom_numbers"), .str (Str.ofString "atom_numbers") β.k2, .ref β.an⟩,
     ⟨PyData.keyHash w.params (Str.ofString "functors"), .str (Str.ofString "functors") β.k3, .ref β.fs⟩, ⟨PyData.keyHash w.params (Str.ofString "functor_numbers"), .str (Str.ofString "functor_numbers") β.k4, .ref β.fn⟩] 4),
   (β.tx, listOf (c.its.toArray.push (.str x tk)) (c.n1 + 1)), (β.an, o'), (β.fs, listOf c.fvs.toArray c.n2), (β.fn, c.ofn)]) : AtomPostX w β c x h' (.int c.its.toArray.size t') := by
  obtain ⟨⟨o1, o2, o3, o4, o5⟩, ⟨lo1, lo2⟩, hits, anD, anK, anV, hfvs, fnD, fnK, fnV, ndt, ndf⟩ := ok
  have hal : c.akv.length = c.texts.length := by rw [← anK, List.length_map]
  have hnt : x ∉ c.texts := by rw [← anK]; exact hnot
  rw [stored_miss hnot] at hd
  rw [List.push_toArray] at hN
  refine ⟨{ c with its := c.its ++ [.str x tk], n1 := c.n1 + 1, oan := o', texts := c.texts ++ [x], akv := c.akv ++ [(x, .int c.its.toArray.size t')] }, ?_, hN, ?_, c.texts.length, t', ?_, ?_, ?_, rfl⟩
  · exact ⟨List.prefix_append _ _, List.prefix_refl _, by simp only [List.length_append, List.length_cons, List.length_nil]; omega⟩
  · refine ⟨⟨o1, o2, o3, o4, o5⟩, ⟨lo1, lo2⟩, by simp [hits], hd, by simp [anK], fun i p hp => ?_, hfvs, fnD.tup hT, fnK, fnV, nodup_add ndt hnt, ndf⟩
    dsimp only at hp
    rcases Nat.lt_or_ge i c.akv.length with hi | hi
    · rw [List.getElem?_append_left hi] at hp; exact anV i p hp
    · rw [List.getElem?_append_right hi] at hp
      have : i - c.akv.length = 0 := by
        rcases Nat.eq_zero_or_pos (i - c.akv.length) with h | h
        · exact h
        · rw [List.getElem?_eq_none (by simp; omega)] at hp; cases hp
      rw [this] at hp
      simp only [List.getElem?_cons_zero, Option.some.injEq] at hp
      subst hp
      refine ⟨t', ?_⟩
      have e : c.its.toArray.size = i := by rw [List.size_toArray, hits, ← hal]; omega
      rw [← e]
  · rw [List.size_toArray, hits]
  · simp
  · unfold addU; rw [if_neg hnt]
theorem atom_old {w : World} {β : BA} {c : BC} {x : Str} {h h' : Heap} {t : Tok} {i : Nat} (ok : c.Ok w h β) (hT : KeepT h h') (hN : Has h' (c.L w.params β)) (hat : c.akv[i]? = some (x, .int i t)) : AtomPostX w β c x h' (.int i t) := by
  have e : c.texts[i]? = some x := by rw [← ok.anK, List.getElem?_map, hat]; rfl
  exact ⟨c, (BC.Grow.refl c).le (by omega), hN, ok.keepT hT, i, t, rfl, e, by unfold addU; rw [if_pos (List.mem_of_getElem? e)], rfl⟩

theorem tick6 {prog : Program} {w : World} {A : Around} {E : Value → Shared → Prop} {s : Shared} {env : Env} {Q : Flow → Shared → Prop} (h : Q .next s) : wpAny (model prog w) A (execs [] env) Q E s := by
  first | (walk1; exact h) | exact wpAny_execs_nil h
section
local macro_rules | `(tactic| walk_at "getMethod ref") => `(tactic| (k_here; (with_reducible show wpAny _ _ (getMethod (Value.ref _) (Str.ofString "get") _) _ _ _); k_dflt (refine' str_get_meth ?k1 ?_; (case k1 => exact Heap.dictOf_iff.mpr ⟨_, News.get (by assumption) (by k_mem), by assumption⟩); k_whole)))
local macro_rules | `(tactic| walk_at "call builtin:dict.get") => `(tactic| (k_here; k_dflt (first
  | (refine' str_get_hit ?k0 ?k1 ?k2 ?_; (case k0 => assumption); (case k1 => exact Heap.dictOf_iff.mpr ⟨_, News.get (by assumption) (by k_mem), by assumption⟩); (case k2 => assumption); k_whole)
  | (refine' str_get_miss ?k0 ?k1 ?k2 ?_; (case k0 => assumption); (case k1 => exact Heap.dictOf_iff.mpr ⟨_, News.get (by assumption) (by k_mem), by assumption⟩); (case k2 => assumption); k_whole))))
local macro_rules | `(tactic| walk_at "setItem ref str") => `(tactic| (k_here; k_dflt (refine' str_set ?k1 ?k2 ?k3 ?k4 ?_ ?k5; (case k1 => k_asm); (case k2 => k_asm); (case k3 => k_updF); (case k4 => assumption); (case k5 => assumption); k_whole); intro h' o' F' N' hdS; (try dsimp only at N'); (try k_sweep)))
local macro_rules | `(tactic| walk_at "call builtin:len") => `(tactic| (k_here; (with_reducible show wpAny _ _ (call (Value.builtin "len") [Value.ref _]) _ _ _); k_dflt (refine' call_len_list ?k1 ?k2 ?_; (case k1 => exact News.isList (by assumption) (by k_mem)); (case k2 => (simp only [List.size_toArray]; omega)); k_whole)))
local macro_rules | `(tactic| walk_at "call builtin:list.append") => `(tactic| (k_here; (with_reducible show wpAny _ _ (call (Value.builtin _) [Value.ref _, _]) _ _ _); k_dflt (refine' append_K ?k1 ?k2 ?k3 ?_ ?z; (case k1 => k_asm); (case k2 => k_asm); (case k3 => k_upd); (case z => (simp only [List.size_toArray]; rw [sizeLine_eq]; omega)); k_whole); intro h' F' N'; (try k_sweep)))

set_option maxHeartbeats 4000000 in
theorem does_atomX (w : World) (β : BA) (c : BC) (x : Str) (tk : Tok) (hsz : c.size < 100000) :
    Does w 88 1 [.ref β.b, .str x tk] (c.L w.params β) (fun h => c.Ok w h β ∧ True) (fun _ h' r => AtomPostX w β c x h' r) := by
  walk_at "m fill"
  intro p loose mean mg mb A env outer A₀ base h₀ L m s Q E B F X N T hA hf hk hd hu hh hpre hret
  obtain ⟨ah, dp, fr, gd, un⟩ := A
  obtain rfl : fr = some (env :: outer) := hA
  obtain rfl : ah = none := hh
  replace hd : dp + _ < recursionLimit := hd
  replace hu : un + _ < cLine := hu
  have ok := hpre.1
  obtain ⟨⟨o1, o2, o3, o4, o5⟩, ⟨lo1, lo2⟩, hits, anD, anK, anV, hfvs, fnD, fnK, fnV, ndt, ndf⟩ := hpre.1
  have hal : c.akv.length = c.texts.length := by rw [← anK, List.length_map]
  unfold BC.size at hsz
  have hks : c.akv.length ≤ sizeLine := by rw [sizeLine_eq]; omega
  rcases valueAt_of (kvs := c.akv) (x := x) with ⟨hmiss, hnot⟩ | ⟨i, v, hhit, hat⟩
  · refine wpAny_call ?_
    k_dflt (refine' enterD (binds := [(Str.ofString "self", .ref β.b), (Str.ofString "text", .str x tk)]) ?k1 ?k2 ?k3 ?k4 ?k5 ?kA ?kF ?kK ?k6 ?k7 ?k8 ?k9 ?kB ?_ ?c2 ?c3 ?c4 ?c5; (case kA => walk_at "m frames"); (case kF => first | assumption | exact rfl); (case kK => first | assumption | exact rfl); (case k1 => k_asm); (case k2 => k_asm); (case k3 => k_asm); (case k4 => k_asm); (case k5 => k_asm); (case k6 => k_is); (case k7 => k_is); (case k8 => walk_at "m room"); (case k9 => first | exact BindsTo.of_eq rfl | exact binds_K (by k_in) rfl (by k_is) rfl rfl rfl); (case c5 => decide); (case kB => exact locs rfl); (case c2 => exact rfl); (case c3 => exact rfl); (case c4 => exact rfl); k_whole)
    intro g L' h₁ F' N' B' X' T' hg hgs
    k_fold
    k_steps
    rename Obj.IsDictOf _ _ _ => hdS
    rename News g L' _ _ => N9
    show Q _ _
    exact hret _ _ _ (fun b o e n => Fr.keep (by assumption) b o (hg b o e n)) (atom_new ok (keepT_of (fun b o e n => Fr.keep (by assumption) b o (hg b o e n)) (fun p hp => (N p hp).1) (ok.noTup _)) hnot hdS (fun p hp => (N9 p hp).1))
  · obtain ⟨tv, hv⟩ := anV _ _ hat
    dsimp only at hv
    subst hv
    refine wpAny_call ?_
    k_dflt (refine' enterD (binds := [(Str.ofString "self", .ref β.b), (Str.ofString "text", .str x tk)]) ?k1 ?k2 ?k3 ?k4 ?k5 ?kA ?kF ?kK ?k6 ?k7 ?k8 ?k9 ?kB ?_ ?c2 ?c3 ?c4 ?c5; (case kA => walk_at "m frames"); (case kF => first | assumption | exact rfl); (case kK => first | assumption | exact rfl); (case k1 => k_asm); (case k2 => k_asm); (case k3 => k_asm); (case k4 => k_asm); (case k5 => k_asm); (case k6 => k_is); (case k7 => k_is); (case k8 => walk_at "m room"); (case k9 => first | exact BindsTo.of_eq rfl | exact binds_K (by k_in) rfl (by k_is) rfl rfl rfl); (case c5 => decide); (case kB => exact locs rfl); (case c2 => exact rfl); (case c3 => exact rfl); (case c4 => exact rfl); k_whole)
    intro g L' h₁ F' N' B' X' T' hg hgs
    k_fold
    k_steps
    rename News g L' _ _ => N9
    show Q _ _
    exact hret _ _ _ (fun b o e n => Fr.keep (by assumption) b o (hg b o e n)) (atom_old ok (keepT_of (fun b o e n => Fr.keep (by assumption) b o (hg b o e n)) (fun p hp => (N p hp).1) (ok.noTup _)) (fun p hp => (N9 p hp).1) hat)
end
theorem does_atom (w : World) (β : BA) (c : BC) (x : Str) (tk : Tok) (hsz : c.size < 100000) :
    Does w 88 1 [.ref β.b, .str x tk] (c.L w.params β) (fun h => c.Ok w h β ∧ True) (fun _ h' r => AtomPost w β c x h' r) :=
  (does_atomX w β c x tk hsz).post fun _ _ _ ⟨c', a, b, d, i, t, e, f, _⟩ => ⟨c', a, b, d, i, t, e, f⟩

abbrev FnPost (w : World) (β : BA) (c : BC) (a n : Int) (h' : Heap) (r : Value) : Prop :=
  ∃ (c' : BC), c.Grow c' 1 ∧ Has h' (c'.L w.params β) ∧ c'.Ok w h' β ∧ ∃ (i : Nat) (t : Tok), r = .int i t ∧ c'.fns[i]? = some (a, n)
abbrev FnPostX (w : World) (β : BA) (c : BC) (a n : Int) (h' : Heap) (r : Value) : Prop :=
  ∃ (c' : BC), c.Grow c' 1 ∧ Has h' (c'.L w.params β) ∧ c'.Ok w h' β ∧ ∃ (i : Nat) (t : Tok), r = .int i t ∧ c'.fns[i]? = some (a, n) ∧ c'.fns = addU c.fns (a, n) ∧ c'.texts = c.texts

theorem IsDictH.keep {w : World} {h h' : Heap} {o : Obj} {xs : List (List Int × Addr × Value)} (x : IsDictH w h o xs) (k : ∀ b o, h.get? b = some o → h'.get? b = some o) : IsDictH w h' o xs := x.tup (.of_keep k)
theorem pair_get_hit {w : World} {A : Around} {E : Value → Shared → Prop} {s : Shared} {d : Addr} {xs : List (List Int × Addr × Value)} {a n : Int} {q p : Addr} {v dflt : Value} {Q : Value → Shared → Prop} (lo : (d == sysModules) = false) (hu : A.units + 1 < cLine)
    (hd : s.heap.DictOfH (PKind w) d xs) (hk : (PKind w).is s.heap [a, n] q)
    (e : atKey xs [a, n] = some (p, v)) (h : Q v { s with toks := s.toks + 3 }) : wpAny (model PR w) A (call (.builtin "dict.get") [.ref d, .ref q, dflt]) Q E s := pair_get lo hu hd hk (by rw [e]; rfl) h
theorem pair_get_miss {w : World} {A : Around} {E : Value → Shared → Prop} {s : Shared} {d : Addr} {xs : List (List Int × Addr × Value)} {a n : Int} {q : Addr} {dflt : Value} {Q : Value → Shared → Prop} (lo : (d == sysModules) = false) (hu : A.units + 1 < cLine)
    (hd : s.heap.DictOfH (PKind w) d xs) (hk : (PKind w).is s.heap [a, n] q)
    (e : atKey xs [a, n] = none) (h : Q dflt { s with toks := s.toks + 3 }) : wpAny (model PR w) A (call (.builtin "dict.get") [.ref d, .ref q, dflt]) Q E s := pair_get lo hu hd hk (by rw [e]; rfl) h
theorem fn_new {w : World} {β : BA} {c : BC} {a n : Int} {h h' : Heap} {o' : Obj} {q : Addr} {t' : Tok} (ok : c.Ok w h β) (_hT : KeepT h h')
    (hd : IsDictH w h' o' (storedH c.fkv [a, n] q (.int c.fvs.toArray.size t'))) (hmiss : atKey c.fkv [a, n] = none) (hnot : [a, n] ∉ c.fkv.map (·.1))
    (hN : Has h' [(β.b, instObj 154 β.bd),
   (β.bd, dictOf [⟨PyData.keyHash w.params (Str.ofString "texts"), .str (Str.ofString "texts") β.k1, .ref β.tx⟩, ⟨PyData.keyHash w.params (Str.ofString "atom_numbers"), .str (Str.ofString "atom_numbers") β.k2, .ref β.an⟩,
     ⟨PyData.keyHash w.params (Str.ofString "functors"), .str (Str.ofString "functors") β.k3, .ref β.fs⟩, ⟨PyData.keyHash w.params (Str.ofString "functor_numbers"), .str (Str.ofString "functor_numbers") β.k4, .ref β.fn⟩] 4),
   (β.tx, listOf c.its.toArray c.n1), (β.an, c.oan), (β.fs, listOf (c.fvs.toArray.push (.ref q)) (c.n2 + 1)), (β.fn, o')]) : FnPostX w β c a n h' (.int c.fvs.toArray.size t') := by
  obtain ⟨⟨o1, o2, o3, o4, o5⟩, ⟨lo1, lo2⟩, hits, anD, anK, anV, hfvs, fnD, fnK, fnV, ndt, ndf⟩ := ok
  have hal : c.fkv.length = c.fns.length := by have := congrArg List.length fnK; simpa using this
  have hnt : (a, n) ∉ c.fns := fun q => hnot (by rw [fnK]; exact List.mem_map.mpr ⟨_, q, rfl⟩)
  rw [storedH_new hmiss] at hd
  rw [List.push_toArray] at hN
  refine ⟨{ c with fvs := c.fvs ++ [.ref q], n2 := c.n2 + 1, ofn := o', fns := c.fns ++ [(a, n)], fkv := c.fkv ++ [([a, n], q, .int c.fvs.toArray.size t')] }, ?_, hN, ?_, c.fns.length, t', ?_, ?_, ?_, rfl⟩
  · exact ⟨List.prefix_refl _, List.prefix_append _ _, by simp only [List.length_append, List.length_cons, List.length_nil]; omega⟩
  · refine ⟨⟨o1, o2, o3, o4, o5⟩, ⟨lo1, lo2⟩, hits, anD, anK, anV, by simp [hfvs], hd, by simp [fnK], fun i p hp => ?_, ndt, nodup_add ndf hnt⟩
    dsimp only at hp
    rcases Nat.lt_or_ge i c.fkv.length with hi | hi
    · rw [List.getElem?_append_left hi] at hp; exact fnV i p hp
    · rw [List.getElem?_append_right hi] at hp
      have : i - c.fkv.length = 0 := by
        rcases Nat.eq_zero_or_pos (i - c.fkv.length) with h | h
        · exact h
        · rw [List.getElem?_eq_none (by simp; omega)] at hp; cases hp
      rw [this] at hp
      simp only [List.getElem?_cons_zero, Option.some.injEq] at hp
      subst hp
      refine ⟨t', ?_⟩
      have e : c.fvs.toArray.size = i := by rw [List.size_toArray, hfvs, ← hal]; omega
      rw [← e]
  · rw [List.size_toArray, hfvs]
  · simp
  · unfold addU; rw [if_neg hnt]
theorem fn_old {w : World} {β : BA} {c : BC} {a n : Int} {h h' : Heap} {t : Tok} {i : Nat} {q : Addr} (ok : c.Ok w h β) (hT : KeepT h h') (hN : Has h' (c.L w.params β)) (hat : c.fkv[i]? = some ([a, n], q, .int i t)) : FnPostX w β c a n h' (.int i t) := by
  suffices e : c.fns[i]? = some (a, n) by
    exact ⟨c, (BC.Grow.refl c).le (by omega), hN, ok.keepT hT, i, t, rfl, e, by unfold addU; rw [if_pos (List.mem_of_getElem? e)], rfl⟩
  have h1 : (c.fkv.map (·.1))[i]? = some [a, n] := by rw [List.getElem?_map, hat]; rfl
  rw [ok.fnK, List.getElem?_map] at h1
  cases h2 : c.fns[i]? with
  | none => rw [h2] at h1; cases h1
  | some p =>
    rw [h2] at h1
    simp only [Option.map_some, Option.some.injEq, List.cons.injEq, and_true] at h1
    rw [← h1.1, ← h1.2]

theorem tick7 {prog : Program} {w : World} {A : Around} {E : Value → Shared → Prop} {s : Shared} {env : Env} {Q : Flow → Shared → Prop} (h : Q .next s) : wpAny (model prog w) A (execs [] env) Q E s := by
  first | (walk1; exact h) | exact wpAny_execs_nil h
section
local macro_rules | `(tactic| walk_at "getMethod ref") => `(tactic| (k_here; (with_reducible show wpAny _ _ (getMethod (Value.ref _) (Str.ofString "get") _) _ _ _); k_dflt (refine' pair_get_meth (w := _) ?k1 ?_; (case k1 => exact dictOfH_iff.mpr ⟨_, News.get (by assumption) (by k_mem), IsDictH.keep (by assumption) (Fr.keep (by assumption))⟩); k_whole)))
local macro_rules | `(tactic| walk_at "call builtin:dict.get") => `(tactic| (k_here; k_dflt (first
  | (refine' pair_get_hit ?k0 ?ku ?k1 ?kk ?k2 ?_; (case k0 => assumption); (case ku => walk_at "m units"); (case k1 => exact dictOfH_iff.mpr ⟨_, News.get (by assumption) (by k_mem), IsDictH.keep (by assumption) (Fr.keep (by assumption))⟩); (case kk => exact pair_key (News.get (by assumption) (by k_mem))); (case k2 => assumption); k_whole)
  | (refine' pair_get_miss ?k0 ?ku ?k1 ?kk ?k2 ?_; (case k0 => assumption); (case ku => walk_at "m units"); (case k1 => exact dictOfH_iff.mpr ⟨_, News.get (by assumption) (by k_mem), IsDictH.keep (by assumption) (Fr.keep (by assumption))⟩); (case kk => exact pair_key (News.get (by assumption) (by k_mem))); (case k2 => assumption); k_whole))))
local macro_rules | `(tactic| walk_at "setItem ref ref") => `(tactic| (k_here; k_dflt (refine' pair_set ?ku ?k1 ?k2 ?k3 ?k4 ?kk ?_ ?k5; (case ku => walk_at "m units"); (case k1 => k_asm); (case k2 => k_asm); (case k3 => k_updF); (case k4 => exact IsDictH.keep (by assumption) (Fr.keep (by assumption))); (case kk => exact pair_key (News.get (by assumption) (by k_mem))); (case k5 => assumption); k_whole); intro h' o' F' N' hdS hsb; (try dsimp only at N'); (try k_sweep)))
local macro_rules | `(tactic| walk_at "call builtin:len") => `(tactic| (k_here; (with_reducible show wpAny _ _ (call (Value.builtin "len") [Value.ref _]) _ _ _); k_dflt (refine' call_len_list ?k1 ?k2 ?_; (case k1 => exact News.isList (by assumption) (by k_mem)); (case k2 => (simp only [List.size_toArray]; omega)); k_whole)))
local macro_rules | `(tactic| walk_at "call builtin:list.append") => `(tactic| (k_here; (with_reducible show wpAny _ _ (call (Value.builtin _) [Value.ref _, _]) _ _ _); k_dflt (refine' append_K ?k1 ?k2 ?k3 ?_ ?z; (case k1 => k_asm); (case k2 => k_asm); (case k3 => k_upd); (case z => (simp only [List.size_toArray]; rw [sizeLine_eq]; omega)); k_whole); intro h' F' N'; (try k_sweep)))

set_option maxHeartbeats 4000000 in
theorem does_functorX (w : World) (β : BA) (c : BC) (a n : Int) (tk tk' : Tok) (hsz : c.size < 100000) :
    Does w 102 1 [.ref β.b, .int a tk, .int n tk'] (c.L w.params β) (fun h => c.Ok w h β ∧ True) (fun _ h' r => FnPostX w β c a n h' r) := by
  walk_at "m fill"
  intro p loose mean mg mb A env outer A₀ base h₀ L m s Q E B F X N T hA hf hk hd hu hh hpre hret
  obtain ⟨ah, dp, fr, gd, un⟩ := A
  obtain rfl : fr = some (env :: outer) := hA
  obtain rfl : ah = none := hh
  replace hd : dp + _ < recursionLimit := hd
  replace hu : un + _ < cLine := hu
  have ok := hpre.1
  obtain ⟨⟨o1, o2, o3, o4, o5⟩, ⟨lo1, lo2⟩, hits, anD, anK, anV, hfvs, fnD, fnK, fnV, ndt, ndf⟩ := hpre.1
  have hal : c.fkv.length = c.fns.length := by have := congrArg List.length fnK; simpa using this
  unfold BC.size at hsz
  have hks : c.fkv.length ≤ sizeLine := by rw [sizeLine_eq]; omega
  rcases atKey_of (xs := c.fkv) (k := [a, n]) with ⟨hmiss, hnot⟩ | ⟨i, ⟨q, v⟩, hhit, hat⟩
  · refine wpAny_call ?_
    k_dflt (refine' enterD (binds := [(Str.ofString "self", .ref β.b), (Str.ofString "atom", .int a tk), (Str.ofString "arity", .int n tk')]) ?k1 ?k2 ?k3 ?k4 ?k5 ?kA ?kF ?kK ?k6 ?k7 ?k8 ?k9 ?kB ?_ ?c2 ?c3 ?c4 ?c5; (case kA => walk_at "m frames"); (case kF => first | assumption | exact rfl); (case kK => first | assumption | exact rfl); (case k1 => k_asm); (case k2 => k_asm); (case k3 => k_asm); (case k4 => k_asm); (case k5 => k_asm); (case k6 => k_is); (case k7 => k_is); (case k8 => walk_at "m room"); (case k9 => first | exact BindsTo.of_eq rfl | exact binds_K (by k_in) rfl (by k_is) rfl rfl rfl); (case c5 => decide); (case kB => exact locs rfl); (case c2 => exact rfl); (case c3 => exact rfl); (case c4 => exact rfl); k_whole)
    intro g L' h₁ F' N' B' X' T' hg hgs
    k_fold
    have fnDg := fnD.tup (keepT_of hg (fun p hp => (N p hp).1) (ok.noTup _))
    clear fnD
    k_steps
    rename News g L' _ _ => N9
    rename IsDictH w _ _ (storedH _ _ _ _) => hdS
    show Q _ _
    exact hret _ _ _ (fun b o e n => Fr.keep (by assumption) b o (hg b o e n)) (fn_new ok (keepT_of (fun b o e n => Fr.keep (by assumption) b o (hg b o e n)) (fun p hp => (N p hp).1) (ok.noTup _)) hdS hmiss hnot (fun p hp => (N9 p (.tail _ hp)).1))
  · obtain ⟨tv, hv⟩ := fnV _ _ hat
    dsimp only at hv
    subst hv
    refine wpAny_call ?_
    k_dflt (refine' enterD (binds := [(Str.ofString "self", .ref β.b), (Str.ofString "atom", .int a tk), (Str.ofString "arity", .int n tk')]) ?k1 ?k2 ?k3 ?k4 ?k5 ?kA ?kF ?kK ?k6 ?k7 ?k8 ?k9 ?kB ?_ ?c2 ?c3 ?c4 ?c5; (case kA => walk_at "m frames"); (case kF => first | assumption | exact rfl); (case kK => first | assumption | exact rfl); (case k1 => k_asm); (case k2 => k_asm); (case k3 => k_asm); (case k4 => k_asm); (case k5 => k_asm); (case k6 => k_is); (case k7 => k_is); (case k8 => walk_at "m room"); (case k9 => first | exact BindsTo.of_eq rfl | exact binds_K (by k_in) rfl (by k_is) rfl rfl rfl); (case c5 => decide); (case kB => exact locs rfl); (case c2 => exact rfl); (case c3 => exact rfl); (case c4 => exact rfl); k_whole)
    intro g L' h₁ F' N' B' X' T' hg hgs
    k_fold
    have fnDg := fnD.tup (keepT_of hg (fun p hp => (N p hp).1) (ok.noTup _))
    clear fnD
    k_steps
    rename News g L' _ _ => N9
    show Q _ _
    exact hret _ _ _ (fun b o e n => Fr.keep (by assumption) b o (hg b o e n)) (fn_old ok (keepT_of (fun b o e n => Fr.keep (by assumption) b o (hg b o e n)) (fun p hp => (N p hp).1) (ok.noTup _)) (fun p hp => (N9 p (.tail _ hp)).1) hat)
end
theorem does_functor (w : World) (β : BA) (c : BC) (a n : Int) (tk tk' : Tok) (hsz : c.size < 100000) :
    Does w 102 1 [.ref β.b, .int a tk, .int n tk'] (c.L w.params β) (fun h => c.Ok w h β ∧ True) (fun _ h' r => FnPost w β c a n h' r) :=
  (does_functorX w β c a n tk tk' hsz).post fun _ _ _ ⟨c', x, b, d, i, t, e, f, _⟩ => ⟨c', x, b, d, i, t, e, f⟩

/-- the symbol table's objects, and what else lies behind: one chunk of the ledger -/
noncomputable def Rest (P : Params) (β : BA) (c : BC) (im : List (Addr × Obj)) : List (Addr × Obj) := Classical.choose (⟨_, rfl⟩ : ∃ l, l = c.L P β ++ im)
theorem rest_eq (P : Params) (β : BA) (c : BC) (im : List (Addr × Obj)) : Rest P β c im = c.L P β ++ im := Classical.choose_spec (⟨_, rfl⟩ : ∃ l, l = c.L P β ++ im)
theorem rest_start {g h : Heap} {L : Addr} {P : Params} {β : BA} {c : BC} (N : News g L h (c.L P β)) : News g L h (Rest P β c []) := by rw [rest_eq, List.append_nil]; exact N
theorem news_tail {g h : Heap} {L : Addr} {x : Addr × Obj} {l : List (Addr × Obj)} (N : News g L h (x :: l)) : News g L h l := fun p hp => N p (.tail _ hp)
theorem rest_im {P : Params} {β : BA} {c : BC} {im : List (Addr × Obj)} : ∀ p ∈ im, p ∈ Rest P β c im := fun p h => by rw [rest_eq]; exact List.mem_append_right _ h
theorem rest_bk {P : Params} {β : BA} {c : BC} {im : List (Addr × Obj)} : ∀ p ∈ c.L P β, p ∈ Rest P β c im := fun p h => by rw [rest_eq]; exact List.mem_append_left _ h
theorem off_rest {P : Params} {β : BA} {c c' : BC} {im : List (Addr × Obj)} {d : Nat} (h : AllLt d (Rest P β c im)) : d ∉ (c'.L P β).map (·.1) := by
  have h' : d ∉ (c.L P β).map (·.1) := fun q => by
    obtain ⟨p, hp, e⟩ := List.mem_map.mp q
    have := ktn_ltOf h p (rest_bk p hp)
    rw [e] at this
    exact Nat.lt_irrefl _ this
  exact h'
theorem allLt_ne {d : Nat} {l : List (Addr × Obj)} (h : AllLt d l) : ∀ p ∈ l, @Ne Nat p.1 d := fun p hp => Nat.ne_of_lt (ktn_ltOf h p hp)
theorem news_add {g h h' : Heap} {L a : Addr} {o : Obj} {m : Str → Option Value} {news : List (Addr × Obj)} (F : Fr g L h m) (N : News g L h' news) (x : h'.get? a = some o) (n : h.get? a = none) : News g L h' ((a, o) :: news) := fun p hp => by
  rcases List.mem_cons.mp hp with rfl | hp
  · refine ⟨x, fun q => ?_, ?_⟩
    · obtain ⟨oL, _, _, hL, _⟩ := F.ns
      rw [← q, n] at hL; cases hL
    · cases z : g.get? a with
      | none => rfl
      | some o => have := F.keep _ _ z; rw [n] at this; cases this
  · exact N p hp

theorem use_bk {w : World} {f : Addr} {cost n : Nat} {vs : List Value} {β : BA} {c : BC} {own im : List (Addr × Obj)} {Pre : Heap → Prop} {R : BC → Heap → Heap → Value → Prop}
    (D : Does w f cost vs (c.L w.params β) (fun h => c.Ok w h β ∧ Pre h) (fun h h' r => ∃ c', c.Grow c' n ∧ Has h' (c'.L w.params β) ∧ c'.Ok w h' β ∧ R c' h h' r))
    {p : Program} {loose : List Str} {mean : ExcName → Option Value} {mg mb : Str → Option Value} {A : Around} {env : Env} {outer : List Env} {A₀ : Around} {base g : Heap} {L : Addr} {m : Str → Option Value} {s : Shared} {Q E : Value → Shared → Prop}
    (B : Below A₀ base outer g) (F : Fr g L s.heap m) (X : (Mine.hd.heap_39 w.params).In g) (N : News g L s.heap (own ++ Rest w.params β c im)) (T : Top p loose mean mg mb g) (hA : A.frames = some (env :: outer)) (hf : env.frame = some L) (hk : env.scope.kind = .function)
    (hd : A.depth + cost < recursionLimit) (hu : A.units + 8 * cost < cLine) (hh : A.handled = none) (ok : c.Ok w s.heap β) (hpre : Pre s.heap) (hoff : ∀ p ∈ own, p.1 ∉ (c.L w.params β).map (·.1))
    (k : ∀ r h' tk' c' im', Fr g L h' m → News g L h' (own ++ Rest w.params β c' im') → ImK g L h' im' → (∀ p ∈ im', isTup p.2) → c'.Ok w h' β → c.Grow c' n → KeepT s.heap h' → R c' s.heap h' r → Q r { s with heap := h', toks := tk' }) :
    wpAny (model PR w) A (call (.ref f) vs) Q E s := by
  have hs : ∀ p ∈ c.L w.params β, p ∈ own ++ Rest w.params β c im := fun p hp => List.mem_append_right _ (rest_bk p hp)
  refine use_does D B F X N T hA hf hk hd hu hh hs ⟨ok, hpre⟩ fun r h' tk' hK ⟨c', hG, hH, hO, hR⟩ F' => ?_
  obtain ⟨im', N', hI, hT⟩ := after_call (ex := []) (own := own) F F' N hK hs (fun p hp => List.mem_append_left _ hp) hH rfl hoff (fun p hp => nomatch hp)
  exact k r h' tk' c' im' F' (by rw [rest_eq]; exact N') hI hT hO hG (keepT_of hK (fun p hp => (N p (hs p hp)).1) (ok.noTup _)) hR

local macro_rules | `(tactic| k_mem) => `(tactic| first | exact rest_bk _ (List.Mem.head _) | exact rest_bk _ (List.Mem.tail _ (List.Mem.head _)))
local macro_rules | `(tactic| walk_at "m tail") => `(tactic| first | exact fun _ h => h | exact rest_im | exact fun _ h => List.Mem.tail _ (rest_im _ h) | exact fun _ h => List.Mem.tail _ (List.Mem.tail _ (rest_im _ h)) | exact fun _ h => List.Mem.tail _ (List.Mem.tail _ (List.Mem.tail _ (rest_im _ h))) | exact fun _ h => List.Mem.tail _ (List.Mem.tail _ (List.Mem.tail _ (List.Mem.tail _ (rest_im _ h)))) | exact fun _ h => List.Mem.tail _ (List.Mem.tail _ (List.Mem.tail _ (List.Mem.tail _ (List.Mem.tail _ (rest_im _ h))))) | exact fun _ h => List.Mem.tail _ (List.Mem.tail _ (List.Mem.tail _ (List.Mem.tail _ (List.Mem.tail _ (List.Mem.tail _ (rest_im _ h)))))))
local macro_rules | `(tactic| walk_at "m keepT") => `(tactic| first | exact KeepT.refl _ | exact KeepT.of_keep (Fr.keep (by assumption)) | exact (by assumption : ImK _ _ _ _) _ _ (by assumption) (fun p hp => ((by assumption : News _ _ _ _) p ((by walk_at "m tail" : ∀ p ∈ _, p ∈ _) p hp)).1))
local macro_rules | `(tactic| walk_at "m ok") => `(tactic| first | assumption | (refine BC.Ok.keepT (by assumption) ?_; walk_at "m keepT"))
local macro_rules | `(tactic| walk_at "m lt") => `(tactic| first | assumption | exact And.right (by assumption) | exact And.right (And.right (by assumption)) | exact And.right (And.right (And.right (by assumption))) | exact And.right (And.right (And.right (And.right (by assumption)))))
local macro_rules | `(tactic| walk_at "m off") => `(tactic| first | exact List.forall_mem_nil _ | (refine List.forall_mem_cons.mpr ⟨off_rest (by first | walk_at "m lt" | exact allLt_of (by assumption)), ?_⟩; walk_at "m off"))
local macro_rules | `(tactic| walk_at "m rest") => `(tactic| first | exact fun _ h => h | exact fun _ h => List.Mem.tail _ h | exact fun _ h => List.Mem.tail _ (List.Mem.tail _ h) | exact fun _ h => List.Mem.tail _ (List.Mem.tail _ (List.Mem.tail _ h)) | exact fun _ h => List.Mem.tail _ (List.Mem.tail _ (List.Mem.tail _ (List.Mem.tail _ h))) | exact fun _ h => List.Mem.tail _ (List.Mem.tail _ (List.Mem.tail _ (List.Mem.tail _ (List.Mem.tail _ h)))) | exact fun _ h => List.Mem.tail _ (List.Mem.tail _ (List.Mem.tail _ (List.Mem.tail _ (List.Mem.tail _ (List.Mem.tail _ h))))))
local macro_rules | `(tactic| walk_at "m fin") => `(tactic| ((case k1 => k_asm); (case k2 => k_asm); (case k3 => k_asm); (case k5 => k_asm); (case kA => walk_at "m frames"); (case kf => first | assumption | exact rfl); (case kk => first | assumption | exact rfl); (case kd => walk_at "m room"); (case ku => walk_at "m units"); (case kh => first | assumption | exact rfl)))



local macro_rules | `(tactic| walk_at "m atom") => `(tactic| (k_dflt (first
  | (refine' use_bk (own := []) (n := 1) (does_atom _ _ _ _ _ ?hz) ?k1 ?k2 ?k3 ?k4 ?k5 ?kA ?kf ?kk ?kd ?ku ?kh ?ko True.intro ?kx ?_; (case k4 => k_asm))
  | (refine' use_bk (own := [_]) (n := 1) (does_atom _ _ _ _ _ ?hz) ?k1 ?k2 ?k3 ?k4 ?k5 ?kA ?kf ?kk ?kd ?ku ?kh ?ko True.intro ?kx ?_; (case k4 => k_asm))
  | (refine' use_bk (own := [_, _]) (n := 1) (does_atom _ _ _ _ _ ?hz) ?k1 ?k2 ?k3 ?k4 ?k5 ?kA ?kf ?kk ?kd ?ku ?kh ?ko True.intro ?kx ?_; (case k4 => k_asm))
  | (refine' use_bk (own := [_, _, _]) (n := 1) (does_atom _ _ _ _ _ ?hz) ?k1 ?k2 ?k3 ?k4 ?k5 ?kA ?kf ?kk ?kd ?ku ?kh ?ko True.intro ?kx ?_; (case k4 => k_asm))); walk_at "m fin"; (case ko => walk_at "m ok"); (case kx => walk_at "m off"); (case hz => omega); k_whole; intro r h' tk' c' im' F' N' hI hT hO hG hKT ⟨i, t, hr, hx⟩; subst hr; (have hGs := BC.Grow.sz hG); (try dsimp only [List.nil_append, List.cons_append] at N'); (try dsimp only); (try k_sweep)))
local macro_rules | `(tactic| walk_at "call ref") => `(tactic| (k_here; (with_reducible show wpAny _ _ (call (Value.ref 88) [_, _]) _ _ _); walk_at "m atom"))
local macro_rules | `(tactic| walk_at "m functor") => `(tactic| (k_dflt (first
  | (refine' use_bk (own := []) (n := 1) (does_functor _ _ _ _ _ _ _ ?hz) ?k1 ?k2 ?k3 ?k4 ?k5 ?kA ?kf ?kk ?kd ?ku ?kh ?ko True.intro ?kx ?_; (case k4 => k_asm))
  | (refine' use_bk (own := [_]) (n := 1) (does_functor _ _ _ _ _ _ _ ?hz) ?k1 ?k2 ?k3 ?k4 ?k5 ?kA ?kf ?kk ?kd ?ku ?kh ?ko True.intro ?kx ?_; (case k4 => k_asm))
  | (refine' use_bk (own := [_, _]) (n := 1) (does_functor _ _ _ _ _ _ _ ?hz) ?k1 ?k2 ?k3 ?k4 ?k5 ?kA ?kf ?kk ?kd ?ku ?kh ?ko True.intro ?kx ?_; (case k4 => k_asm))
  | (refine' use_bk (own := [_, _, _]) (n := 1) (does_functor _ _ _ _ _ _ _ ?hz) ?k1 ?k2 ?k3 ?k4 ?k5 ?kA ?kf ?kk ?kd ?ku ?kh ?ko True.intro ?kx ?_; (case k4 => k_asm))); walk_at "m fin"; (case ko => walk_at "m ok"); (case kx => walk_at "m off"); (case hz => omega); k_whole; intro r h' tk' c' im' F' N' hI hT hO hG hKT ⟨i, t, hr, hx⟩; subst hr; (have hGs := BC.Grow.sz hG); (try dsimp only [List.nil_append, List.cons_append] at N'); (try dsimp only); (try k_sweep)))
local macro_rules | `(tactic| walk_at "call ref") => `(tactic| (k_here; (with_reducible show wpAny _ _ (call (Value.ref 102) [_, _, _]) _ _ _); walk_at "m functor"))


theorem tick8 {prog : Program} {w : World} {A : Around} {E : Value → Shared → Prop} {s : Shared} {env : Env} {Q : Flow → Shared → Prop} (h : Q .next s) : wpAny (model prog w) A (execs [] env) Q E s := by
  first | (walk1; exact h) | exact wpAny_execs_nil h
section
local macro_rules | `(tactic| walk_at "m atom") => `(tactic| (k_dflt (first
  | (refine' use_bk (own := []) (n := 1) (does_atomX _ _ _ _ _ ?hz) ?k1 ?k2 ?k3 ?k4 ?k5 ?kA ?kf ?kk ?kd ?ku ?kh ?ko True.intro ?kx ?_; (case k4 => k_asm))
  | (refine' use_bk (own := [_]) (n := 1) (does_atomX _ _ _ _ _ ?hz) ?k1 ?k2 ?k3 ?k4 ?k5 ?kA ?kf ?kk ?kd ?ku ?kh ?ko True.intro ?kx ?_; (case k4 => k_asm))
  | (refine' use_bk (own := [_, _]) (n := 1) (does_atomX _ _ _ _ _ ?hz) ?k1 ?k2 ?k3 ?k4 ?k5 ?kA ?kf ?kk ?kd ?ku ?kh ?ko True.intro ?kx ?_; (case k4 => k_asm))
  | (refine' use_bk (own := [_, _, _]) (n := 1) (does_atomX _ _ _ _ _ ?hz) ?k1 ?k2 ?k3 ?k4 ?k5 ?kA ?kf ?kk ?kd ?ku ?kh ?ko True.intro ?kx ?_; (case k4 => k_asm))); walk_at "m fin"; (case ko => walk_at "m ok"); (case kx => walk_at "m off"); (case hz => omega); k_whole; intro r h' tk' c' im' F' N' hI hT hO hG hKT ⟨i, t, hr, hx, hxa, hxb⟩; subst hr; (have hGs := BC.Grow.sz hG); (try dsimp only [List.nil_append, List.cons_append] at N'); (try dsimp only); (try k_sweep)))
local macro_rules | `(tactic| walk_at "call ref") => `(tactic| (k_here; (with_reducible show wpAny _ _ (call (Value.ref 88) [_, _]) _ _ _); walk_at "m atom"))
local macro_rules | `(tactic| walk_at "m functor") => `(tactic| (k_dflt (first
  | (refine' use_bk (own := []) (n := 1) (does_functorX _ _ _ _ _ _ _ ?hz) ?k1 ?k2 ?k3 ?k4 ?k5 ?kA ?kf ?kk ?kd ?ku ?kh ?ko True.intro ?kx ?_; (case k4 => k_asm))
  | (refine' use_bk (own := [_]) (n := 1) (does_functorX _ _ _ _ _ _ _ ?hz) ?k1 ?k2 ?k3 ?k4 ?k5 ?kA ?kf ?kk ?kd ?ku ?kh ?ko True.intro ?kx ?_; (case k4 => k_asm))
  | (refine' use_bk (own := [_, _]) (n := 1) (does_functorX _ _ _ _ _ _ _ ?hz) ?k1 ?k2 ?k3 ?k4 ?k5 ?kA ?kf ?kk ?kd ?ku ?kh ?ko True.intro ?kx ?_; (case k4 => k_asm))
  | (refine' use_bk (own := [_, _, _]) (n := 1) (does_functorX _ _ _ _ _ _ _ ?hz) ?k1 ?k2 ?k3 ?k4 ?k5 ?kA ?kf ?kk ?kd ?ku ?kh ?ko True.intro ?kx ?_; (case k4 => k_asm))); walk_at "m fin"; (case ko => walk_at "m ok"); (case kx => walk_at "m off"); (case hz => omega); k_whole; intro r h' tk' c' im' F' N' hI hT hO hG hKT ⟨i, t, hr, hx, hxa, hxb⟩; subst hr; (have hGs := BC.Grow.sz hG); (try dsimp only [List.nil_append, List.cons_append] at N'); (try dsimp only); (try k_sweep)))
local macro_rules | `(tactic| walk_at "call ref") => `(tactic| (k_here; (with_reducible show wpAny _ _ (call (Value.ref 102) [_, _, _]) _ _ _); walk_at "m functor"))
abbrev FuncPost (w : World) (β : BA) (c : BC) (x : Str) (n : Int) (h' : Heap) (r : Value) : Prop :=
  ∃ (c' : BC), c.Grow c' 2 ∧ Has h' (c'.L w.params β) ∧ c'.Ok w h' β ∧ ∃ (i j : Nat) (t : Tok), r = .int i t ∧ c'.fns[i]? = some ((j : Int), n) ∧ c'.texts[j]? = some x
theorem prefix_get {α : Type} {l l' : List α} {i : Nat} {x : α} (h : l <+: l') (e : l[i]? = some x) : l'[i]? = some x := by
  obtain ⟨r, rfl⟩ := h
  rw [List.getElem?_append_left (List.getElem?_eq_some_iff.mp e).1]; exact e
abbrev FuncPostX (w : World) (β : BA) (c : BC) (x : Str) (n : Int) (h' : Heap) (r : Value) : Prop :=
  ∃ (c' : BC), c.Grow c' 2 ∧ Has h' (c'.L w.params β) ∧ c'.Ok w h' β ∧ ∃ (i j : Nat) (t : Tok), r = .int i t ∧ c'.fns[i]? = some ((j : Int), n) ∧ c'.texts[j]? = some x ∧ c'.texts = addU c.texts x ∧ c'.fns = addU c.fns ((j : Int), n)
theorem func_postX {w : World} {β : BA} {c c1 c2 : BC} {x : Str} {n : Int} {h' : Heap} {i j : Nat} {t : Tok} (g1 : c.Grow c1 1) (hx : c1.texts[j]? = some x) (g2 : c1.Grow c2 1) (hH : Has h' (c2.L w.params β)) (hO : c2.Ok w h' β)
    (hf : c2.fns[i]? = some ((j : Int), n)) (e1 : c1.texts = addU c.texts x) (e2 : c1.fns = c.fns) (e3 : c2.fns = addU c1.fns ((j : Int), n)) (e4 : c2.texts = c1.texts) : FuncPostX w β c x n h' (.int i t) :=
  ⟨c2, g1.trans g2, hH, hO, i, j, t, rfl, hf, prefix_get g2.texts hx, by rw [e4, e1], by rw [e3, e2]⟩
set_option maxHeartbeats 4000000 in
theorem does_funcX (w : World) (β : BA) (c : BC) (x : Str) (n : Int) (tk tk' : Tok) (hsz : c.size < 99999) :
    Does w 109 2 [.ref β.b, .str x tk, .int n tk'] (c.L w.params β) (fun h => c.Ok w h β ∧ True) (fun _ h' r => FuncPostX w β c x n h' r) := by
  walk_at "m fill"
  intro p loose mean mg mb A env outer A₀ base h₀ L m s Q E B F X N T hA hf hk hd hu hh hpre hret
  obtain ⟨ah, dp, fr, gd, un⟩ := A
  obtain rfl : fr = some (env :: outer) := hA
  obtain rfl : ah = none := hh
  replace hd : dp + _ < recursionLimit := hd
  replace hu : un + _ < cLine := hu
  refine wpAny_call ?_
  k_dflt (refine' enterD (binds := [(Str.ofString "self", .ref β.b), (Str.ofString "text", .str x tk), (Str.ofString "arity", .int n tk')]) ?k1 ?k2 ?k3 ?k4 ?k5 ?kA ?kF ?kK ?k6 ?k7 ?k8 ?k9 ?kB ?_ ?c2 ?c3 ?c4 ?c5; (case kA => walk_at "m frames"); (case kF => first | assumption | exact rfl); (case kK => first | assumption | exact rfl); (case k1 => k_asm); (case k2 => k_asm); (case k3 => k_asm); (case k4 => k_asm); (case k5 => k_asm); (case k6 => k_is); (case k7 => k_is); (case k8 => walk_at "m room"); (case k9 => first | exact BindsTo.of_eq rfl | exact binds_K (by k_in) rfl (by k_is) rfl rfl rfl); (case c5 => decide); (case kB => exact locs rfl); (case c2 => exact rfl); (case c3 => exact rfl); (case c4 => exact rfl); k_whole)
  intro g L' h₁ F' N' B' X' T' hg hgs
  k_fold
  have okg := hpre.1.keepT (keepT_of hg (fun p hp => (N p hp).1) (hpre.1.noTup _))
  replace N' := rest_start N'
  k_steps
  rename News g L' _ _ => N9
  show Q _ _
  exact hret _ _ _ (fun b o e n => Fr.keep (by assumption) b o (hg b o e n)) (func_postX (by assumption) (by assumption) (by assumption) (fun p hp => (N9 p (rest_bk p hp)).1) (by assumption) (by assumption) (by assumption) (by assumption) (by assumption) (by assumption))
end
theorem does_func (w : World) (β : BA) (c : BC) (x : Str) (n : Int) (tk tk' : Tok) (hsz : c.size < 99999) :
    Does w 109 2 [.ref β.b, .str x tk, .int n tk'] (c.L w.params β) (fun h => c.Ok w h β ∧ True) (fun _ h' r => FuncPost w β c x n h' r) :=
  (does_funcX w β c x n tk tk' hsz).post fun _ _ _ ⟨c', a, b, d, i, j, t, e, f, g, _⟩ => ⟨c', a, b, d, i, j, t, e, f, g⟩

local macro_rules | `(tactic| walk_at "m func") => `(tactic| (k_dflt (first
  | (refine' use_bk (own := []) (n := 2) (does_func _ _ _ _ _ _ _ ?hz) ?k1 ?k2 ?k3 ?k4 ?k5 ?kA ?kf ?kk ?kd ?ku ?kh ?ko True.intro ?kx ?_; (case k4 => k_asm))
  | (refine' use_bk (own := [_]) (n := 2) (does_func _ _ _ _ _ _ _ ?hz) ?k1 ?k2 ?k3 ?k4 ?k5 ?kA ?kf ?kk ?kd ?ku ?kh ?ko True.intro ?kx ?_; (case k4 => k_asm))
  | (refine' use_bk (own := [_, _]) (n := 2) (does_func _ _ _ _ _ _ _ ?hz) ?k1 ?k2 ?k3 ?k4 ?k5 ?kA ?kf ?kk ?kd ?ku ?kh ?ko True.intro ?kx ?_; (case k4 => k_asm))
  | (refine' use_bk (own := [_, _, _]) (n := 2) (does_func _ _ _ _ _ _ _ ?hz) ?k1 ?k2 ?k3 ?k4 ?k5 ?kA ?kf ?kk ?kd ?ku ?kh ?ko True.intro ?kx ?_; (case k4 => k_asm))); walk_at "m fin"; (case ko => walk_at "m ok"); (case kx => walk_at "m off"); (case hz => omega); k_whole; intro r h' tk' c' im' F' N' hI hT hO hG hKT ⟨i, j, t, hr, hx, hy⟩; subst hr; (have hGs := BC.Grow.sz hG); (try dsimp only [List.nil_append, List.cons_append] at N'); (try dsimp only); (try k_sweep)))
local macro_rules | `(tactic| walk_at "call ref") => `(tactic| (k_here; (with_reducible show wpAny _ _ (call (Value.ref 109) [_, _, _]) _ _ _); walk_at "m func"))


def fixedT : List Str := ["[]", ".", "{}", "-", "+", "*", "/", ",", "|", ";", "->", "\\+", ":-", "?-", "-->", "!", "true", "fail", "false", "call", "=", "^", "error", "", "end_of_file", "system", "$VAR", "catch", "throw"].map Str.ofString
def fixedF : List (Str × Int) := [(".", 2), (",", 2), (";", 2), ("->", 2), ("\\+", 1), (":-", 2), (":-", 1), ("?-", 1), ("-->", 2), ("{}", 1), ("=", 2), ("^", 2), ("-", 1), ("-", 2), ("+", 2), ("/", 2), ("error", 2), ("$VAR", 1), ("catch", 3), ("throw", 1), ("!", 0), ("true", 0), ("fail", 0), ("false", 0), ("call", 1), ("call", 2), ("call", 3), ("call", 4), ("call", 5), ("call", 6), ("call", 7), ("call", 8)].map fun p => (Str.ofString p.1, p.2)
def StrVals : List Value → List Str → Prop
  | [], [] => True
  | v :: vs, x :: xs => (∃ t, v = .str x t) ∧ StrVals vs xs
  | _, _ => False
set_option maxHeartbeats 4000000 in
theorem does_fixedT (w : World) : Does w 60 1 [] [] (fun _ => True) (fun h h' r => ∃ a vs, r = .ref a ∧ h'.get? a = some (tupOf vs) ∧ h.get? a = none ∧ StrVals vs fixedT) := by
  walk_at "m fill"
  intro p loose mean mg mb A env outer A₀ base h₀ L m s Q E B F X N T hA hf hk hd hu hh hpre hret
  obtain ⟨ah, dp, fr, gd, un⟩ := A
  obtain rfl : fr = some (env :: outer) := hA
  obtain rfl : ah = none := hh
  replace hd : dp + _ < recursionLimit := hd
  replace hu : un + _ < cLine := hu
  refine wpAny_call ?_
  walk_at "m enter"
  intro g L' h₁ F' N' B' X' T' hg hgs
  k_fold
  k_steps
  rename News g L' _ _ => N9
  show Q _ _
  refine hret _ _ _ (fun b o e n => Fr.keep (by assumption) b o (hg b o e n)) ⟨_, _, rfl, News.get N9 (.head _), new_of (News.fresh N9 (.head _)) hg, ?_⟩
  unfold fixedT
  simp only [List.map_cons, List.map_nil, StrVals, and_true]
  exact ⟨⟨_, rfl⟩, ⟨_, rfl⟩, ⟨_, rfl⟩, ⟨_, rfl⟩, ⟨_, rfl⟩, ⟨_, rfl⟩, ⟨_, rfl⟩, ⟨_, rfl⟩, ⟨_, rfl⟩, ⟨_, rfl⟩, ⟨_, rfl⟩, ⟨_, rfl⟩, ⟨_, rfl⟩, ⟨_, rfl⟩, ⟨_, rfl⟩, ⟨_, rfl⟩, ⟨_, rfl⟩, ⟨_, rfl⟩, ⟨_, rfl⟩, ⟨_, rfl⟩, ⟨_, rfl⟩, ⟨_, rfl⟩, ⟨_, rfl⟩, ⟨_, rfl⟩, ⟨_, rfl⟩, ⟨_, rfl⟩, ⟨_, rfl⟩, ⟨_, rfl⟩, ⟨_, rfl⟩⟩
theorem rowOf {g h h' : Heap} {L a : Addr} {o : Obj} {news : List (Addr × Obj)} (N : News g L h' news) (hg : ∀ b o, h.get? b = some o → b ∉ ([] : List Addr) → g.get? b = some o) (m : (a, o) ∈ news) : h'.get? a = some o ∧ h.get? a = none :=
  ⟨News.get N m, new_of (News.fresh N m) hg⟩
def RowVals (h h' : Heap) : List Value → List (Str × Int) → Prop
  | [], [] => True
  | v :: vs, (x, n) :: xs => (∃ a t t', v = .ref a ∧ h'.get? a = some (tupOf [.str x t, .int n t']) ∧ h.get? a = none) ∧ RowVals h h' vs xs
  | _, _ => False
set_option maxHeartbeats 4000000 in
theorem does_fixedF (w : World) : Does w 67 1 [] [] (fun _ => True) (fun h h' r => ∃ a vs, r = .ref a ∧ h'.get? a = some (tupOf vs) ∧ h.get? a = none ∧ RowVals h h' vs fixedF) := by
  walk_at "m fill"
  intro p loose mean mg mb A env outer A₀ base h₀ L m s Q E B F X N T hA hf hk hd hu hh hpre hret
  obtain ⟨ah, dp, fr, gd, un⟩ := A
  obtain rfl : fr = some (env :: outer) := hA
  obtain rfl : ah = none := hh
  replace hd : dp + _ < recursionLimit := hd
  replace hu : un + _ < cLine := hu
  refine wpAny_call ?_
  walk_at "m enter"
  intro g L' h₁ F' N' B' X' T' hg hgs
  k_fold
  k_steps
  rename News g L' _ _ => N9
  show Q _ _
  refine hret _ _ _ (fun b o e n => Fr.keep (by assumption) b o (hg b o e n)) ⟨_, _, rfl, News.get N9 (.head _), new_of (News.fresh N9 (.head _)) hg, ?_⟩
  unfold fixedF
  simp only [List.map_cons, List.map_nil, RowVals]
  iterate 32 refine ⟨⟨_, _, _, rfl, rowOf N9 hg (by repeat (first | exact List.Mem.head _ | refine List.Mem.tail _ ?_))⟩, ?_⟩
  exact True.intro
theorem fr_congr {g h : Heap} {L : Addr} {m m' : Str → Option Value} (F : Fr g L h m) (e : ∀ y, m y = m' y) : Fr g L h m' := by
  have : m = m' := funext e
  subst this
  exact F
/-- at any time the tuples at hand go into the chunk behind -/
theorem fresh_im {g h : Heap} {L : Addr} {m : Str → Option Value} {P : Params} {β : BA} {c : BC} {own im : List (Addr × Obj)} (F : Fr g L h m) (N : News g L h (own ++ Rest P β c im)) :
    ∃ im', News g L h (own ++ Rest P β c im') ∧ ImK g L h im' ∧ ∀ p ∈ im', isTup p.2 := by
  refine ⟨tupsAt g h, fun p hp => ?_, tups_imK F, fun p hp => (mem_tups.mp hp).2.1⟩
  rcases List.mem_append.mp hp with hp | hp
  · exact N p (List.mem_append_left _ hp)
  · rw [rest_eq] at hp
    rcases List.mem_append.mp hp with hp | hp
    · exact N p (List.mem_append_right _ (rest_bk p hp))
    · obtain ⟨a, b, c⟩ := mem_tups.mp hp
      exact ⟨a, fun q => frame_noTup F (q ▸ a) b, c⟩
theorem rest_off {g h : Heap} {L : Addr} {P : Params} {β : BA} {c : BC} {im news : List (Addr × Obj)} {d : Nat} {o : Obj} (N : News g L h news) (hr : ∀ p ∈ Rest P β c im, p ∈ news) (hd : (d, o) ∈ news) (no : ¬ isTup o) (hT : ∀ p ∈ im, isTup p.2) (hD : d ∉ (c.L P β).map (·.1)) :
    ∀ p ∈ Rest P β c im, @Ne Nat p.1 d := fun p hp => by
  have hp' := hp
  rw [rest_eq] at hp'
  rcases List.mem_append.mp hp' with q | q
  · intro e
    exact hD (e ▸ List.mem_map_of_mem q)
  · exact tups_off N (fun p hp => hr p (rest_im p hp)) hT hd no p q
theorem list_noTup (its : Array Value) (n : Nat) : ¬ isTup (listOf its n) := by rintro ⟨e, _⟩; simp at e

theorem lookup_if {y k : Str} {v : Value} {l : List (Str × Value)} : List.lookup y ((k, v) :: l) = if y = k then some v else List.lookup y l := by
  rw [List.lookup_cons]
  by_cases h : y = k
  · subst h; simp
  · have : (y == k) = false := by simpa using h
    rw [this, if_neg h]


theorem StrVals.len : ∀ {vs : List Value} {xs : List Str}, StrVals vs xs → vs.length = xs.length
  | [], [], _ => rfl
  | _ :: _, _ :: _, h => congrArg (· + 1) (StrVals.len h.2)
theorem StrVals.get : ∀ {vs : List Value} {xs : List Str}, StrVals vs xs → ∀ {i : Nat} {x : Str}, xs[i]? = some x → ∃ t, vs[i]? = some (.str x t)
  | [], [], _, _, _, e => by simp at e
  | v :: vs, y :: ys, h, 0, x, e => by
    simp only [List.getElem?_cons_zero, Option.some.injEq] at e
    subst e
    obtain ⟨t, rfl⟩ := h.1
    exact ⟨t, rfl⟩
  | v :: vs, y :: ys, h, i + 1, x, e => by
    simp only [List.getElem?_cons_succ] at e ⊢
    exact StrVals.get h.2 e
def mSym (β : BA) (v1 v2 : Option Value) : Str → Option Value := fun y => if y = Str.ofString "row" then v2 else if y = Str.ofString "text" then v1 else List.lookup y [(Str.ofString "self", .ref β.b)]
theorem iterT_noTup {o : Obj} {l : Addr} {i : Nat} (h : IterT o l i) : ¬ isTup o := by
  rintro ⟨e, _⟩
  rw [h.1] at e
  exact absurd e (by decide)
def atomsS (n : Nat) : List Str := (fixedT.take n).foldl addU []
theorem none_off {g h : Heap} {L a : Addr} {P : Params} {β : BA} {c c' : BC} {im : List (Addr × Obj)} (N : News g L h (Rest P β c im)) (hn : h.get? a = none) : a ∉ (c'.L P β).map (·.1) := fun hm => by
  rw [BC.addrs P β c c'] at hm
  obtain ⟨y, hy, e⟩ := List.mem_map.mp hm
  have q := (N y (rest_bk y hy)).1
  rw [e, hn] at q
  cases q
theorem RowVals.len {h h' : Heap} : ∀ {vs : List Value} {xs : List (Str × Int)}, RowVals h h' vs xs → vs.length = xs.length
  | [], [], _ => rfl
  | _ :: _, (_, _) :: _, x => congrArg (· + 1) (RowVals.len x.2)
theorem RowVals.get {h h' : Heap} : ∀ {vs : List Value} {xs : List (Str × Int)}, RowVals h h' vs xs → ∀ {i : Nat} {x : Str} {n : Int}, xs[i]? = some (x, n) → ∃ a t t', vs[i]? = some (.ref a) ∧ h'.get? a = some (tupOf [.str x t, .int n t']) ∧ h.get? a = none
  | [], [], _, _, _, _, e => by simp at e
  | v :: vs, (y, k) :: ys, q, 0, x, n, e => by
    simp only [List.getElem?_cons_zero, Option.some.injEq, Prod.mk.injEq] at e
    obtain ⟨rfl, rfl⟩ := e
    obtain ⟨a, t, t', rfl, u⟩ := q.1
    exact ⟨a, t, t', rfl, u⟩
  | v :: vs, (y, k) :: ys, q, i + 1, x, n, e => by
    simp only [List.getElem?_cons_succ] at e ⊢
    exact RowVals.get q.2 e
def posOf : List Str → Str → Nat
  | [], _ => 0
  | y :: l, x => if y = x then 0 else posOf l x + 1
theorem posOf_get : ∀ {l : List Str} {x : Str}, x ∈ l → l[posOf l x]? = some x
  | [], _, h => nomatch h
  | y :: l, x, h => by
    unfold posOf
    by_cases e : y = x
    · rw [if_pos e, e]; rfl
    · rw [if_neg e, List.getElem?_cons_succ]
      rcases List.mem_cons.mp h with q | q
      · exact absurd q.symm e
      · exact posOf_get q
def rowStep (st : List Str × List (Int × Int)) (r : Str × Int) : List Str × List (Int × Int) := (addU st.1 r.1, addU st.2 ((posOf (addU st.1 r.1) r.1 : Int), r.2))
def rowsS (n : Nat) : List Str × List (Int × Int) := (fixedF.take n).foldl rowStep (atomsS 29, [])
theorem rows_fin : (rowsS 32).1[7]? = some (Str.ofString ",") ∧ (rowsS 32).2[1]? = some (7, 2) ∧ (rowsS 32).1.length + (rowsS 32).2.length ≤ 200 := by decide +kernel
def c00 (o1 o2 : Obj) : BC := { its := [], n1 := 0, oan := o1, fvs := [], n2 := 0, ofn := o2, texts := [], fns := [], akv := [], fkv := [] }
theorem isDictH_nil {w : World} {h : Heap} {o : Obj} (x : o.IsDictOf (strKind PR w) []) : IsDictH w h o [] := by
  obtain ⟨es, ep, a, b, _, d, _⟩ := x
  refine ⟨es, ep, a, b, ?_, (fun x hx => nomatch hx), List.nodup_nil⟩
  cases e : es.toList with
  | nil => rfl
  | cons y ys => rw [e] at d; cases d
theorem sym_start {w : World} {g h : Heap} {L : Addr} {b bd tx an fs fn : Nat} {k1 k2 k3 k4 : Tok} {o1 o2 : Obj} {p q : Addr × Obj}
{ys : List (Addr × Obj)}
    (N : News g L h (p :: q :: ys)) (hys : ys = [(fn, o2), (fs, listOf #[] 0), (an, o1), (tx, listOf #[] 0), (b, instObj 154 bd), (bd, dictOf [⟨PyData.keyHash w.params (Str.ofString "texts"), .str (Str.ofString "texts") k1, .ref tx⟩, ⟨PyData.keyHash w.params (Str.ofString "atom_numbers"), .str (Str.ofString "atom_numbers") k2, .ref an⟩,
     ⟨PyData.keyHash w.params (Str.ofString "functors"), .str (Str.ofString "functors") k3, .ref fs⟩, ⟨PyData.keyHash w.params (Str.ofString "functor_numbers"), .str (Str.ofString "functor_numbers") k4, .ref fn⟩] 4)])
    (h1 : bd < b) (h2 : b < tx) (h3 : tx < an) (h4 : an < fs) (h5 : fs < fn) (l1 : (an == sysModules) = false) (l2 : (fn == sysModules) = false) (d1 : o1.IsDictOf (strKind PR w) []) (d2 : o2.IsDictOf (strKind PR w) []) :
    ∃ β : BA, β.b = b ∧ β.fn = fn ∧ News g L h (p :: q :: Rest w.params β (c00 o1 o2) []) ∧ (c00 o1 o2).Ok w h β ∧ ∀ y ∈ (c00 o1 o2).L w.params β, y ∈ ys := by
  subst hys
  refine ⟨⟨b, bd, tx, an, fs, fn, k1, k2, k3, k4⟩, rfl, rfl, ?_, ⟨⟨h1, h2, h3, h4, h5⟩, ⟨l1, l2⟩, rfl, d1, rfl, fun i p e => by simp [c00] at e, rfl, isDictH_nil d2, rfl, fun i p e => by simp [c00] at e, List.nodup_nil, List.nodup_nil⟩, ?_⟩
  rotate_left 1
  · intro y hy
    simp only [BC.L, c00, List.mem_cons, List.mem_nil_iff, or_false] at hy ⊢
    rcases hy with h | h | h | h | h | h <;> simp [h]
  rw [rest_eq]
  refine sub_news N fun y hy => ?_
  simp only [BC.L, c00, List.append_nil, List.mem_cons, List.mem_nil_iff, or_false] at hy ⊢
  rcases hy with h | h | h | h | h | h | h | h <;> simp [h]
theorem tick9 {prog : Program} {w : World} {A : Around} {E : Value → Shared → Prop} {s : Shared} {env : Env} {Q : Flow → Shared → Prop} (h : Q .next s) : wpAny (model prog w) A (execs [] env) Q E s := by
  first | (walk1; exact h) | exact wpAny_execs_nil h
section
local macro_rules | `(tactic| walk_at "exec For Name Call cons nil") => `(tactic| refine hold ?_)
local macro_rules | `(tactic| walk_at "call ref") => `(tactic| refine hold ?_)
set_option maxHeartbeats 4000000 in
theorem does_symbols (w : World) :
    Does w 154 9 [] [] (fun _ => True) (fun h h' r => ∃ (β : BA) (c : BC), r = .ref β.b ∧ Has h' (c.L w.params β) ∧ c.Ok w h' β ∧ c.size ≤ 200 ∧ c.texts[7]? = some (Str.ofString ",") ∧ c.fns[1]? = some (7, 2) ∧ ∀ p ∈ c.L w.params β, h.get? p.1 = none) := by
  walk_at "m fill"
  intro p loose mean mg mb A env outer A₀ base h₀ L m s Q E B F X N T hA hf hk hd hu hh hpre hret
  obtain ⟨ah, dp, fr, gd, un⟩ := A
  obtain rfl : fr = some (env :: outer) := hA
  obtain rfl : ah = none := hh
  replace hd : dp + _ < recursionLimit := hd
  replace hu : un + _ < cLine := hu
  k_dflt (refine' call_clsD ?k1 ?k2 ?k3 ?k4 ?k5 ?k6 ?_; (case k1 => k_asm); (case k2 => k_asm); (case k3 => k_asm); (case k4 => k_is); (case k5 => k_is); (case k6 => k_is); k_whole)
  intro x d h' F' N' l1 l2 hkc hxn hdn
  (try k_lt l1)
  (try k_lt2 l2)
  k_sweep
  k_dflt (refine' enterD (binds := [(Str.ofString "self", .ref x)]) ?k1 ?k2 ?k3 ?k4 ?k5 ?kA ?kF ?kK ?k6 ?k7 ?k8 ?k9 ?kB ?_ ?c2 ?c3 ?c4 ?c5; (case kA => walk_at "m frames"); (case kF => first | assumption | exact rfl); (case kK => first | assumption | exact rfl); (case k1 => k_asm); (case k2 => k_asm); (case k3 => k_asm); (case k4 => k_asm); (case k5 => k_asm); (case k6 => k_is); (case k7 => k_is); (case k8 => walk_at "m room"); (case k9 => first | exact BindsTo.of_eq rfl | exact binds_K (by k_in) rfl (by k_is) rfl rfl rfl); (case c5 => decide); (case kB => exact locs rfl); (case c2 => exact rfl); (case c3 => exact rfl); (case c4 => exact rfl); k_whole)
  intro g L' h₁ F' N' B' X' T' hg hgs
  k_fold
  k_steps
  unfold Hold
  refine wpAny_For ?_
  k_steps
  unfold Hold
  rename News g L' _ _ => N1
  rename Fr g L' _ _ => F1
  k_dflt (refine' use_does (does_fixedT w) ?k1 ?k2 ?k3 N1 ?k5 ?kA ?kf ?kk ?kd ?ku ?kh (List.forall_mem_nil _) True.intro ?_; walk_at "m fin")
  intro r h' tk' hK hP F2
  obtain ⟨a, vs, rfl, ha, hn, hvs⟩ := hP
  have N2 := news_add F1 (news_keep (ms := []) N1 hK (fun _ _ q => nomatch q)) ha hn
  refine iter_tup F2 N2 ⟨_, ha, rfl, _, rfl⟩ ?_
  intro it o h3 ho F3 N3 l3
  -- the table as it stands
  rename_i tx hA1 l1b hA2 k2 an hA3 oan lo1 hs1 fs1 hi1 fi1 l1c hA4 fs hA5 l1d hA6 fn hA7 ofn lo2 hs2 fs2 hi2 fi2 l1e hA8
  obtain ⟨β, eb, ef, N4, ok4, hsub⟩ := sym_start N3 rfl l2 l1b.1 l1c.1 l1d.1 l1e.1 lo1 lo2 hs1 hs2
  have hane : @Ne Nat a it := Nat.ne_of_lt (l3 _ (.head _))
  have hitD : it ∉ ((c00 oan ofn).L w.params β).map (·.1) := fun hm => by
    obtain ⟨y, hy, e⟩ := List.mem_map.mp hm
    have q : @LT.lt Nat _ y.1 it := l3 y (.tail _ (hsub y hy))
    rw [e] at q
    exact Nat.lt_irrefl _ q
  have haD : a ∉ ((c00 oan ofn).L w.params β).map (·.1) := fun hm => by
    obtain ⟨y, hy, e⟩ := List.mem_map.mp hm
    have q := (N1 y (hsub y hy)).1
    rw [e, hn] at q
    cases q
  clear N3 N2 F1 hs1 hs2 fs1 fs2 hi1 hi2 fi1 fi2 N1 l3 hsub
  refine for_I (fun n s' => ∃ i h tk c im o v1, s' = ⟨h, s.gens, s.drawn, tk, s.os⟩ ∧ n = 29 - i ∧ i ≤ 29 ∧ IterT o a i ∧ Fr g L' h (mSym β v1 none) ∧ News g L' h ((it, o) :: (a, tupOf vs) :: Rest w.params β c im) ∧ c.Ok w h β ∧ c.texts = atomsS i ∧ c.fns = [] ∧ c.size ≤ i) ?_ 29
    ⟨0, _, _, _, _, o, none, rfl, rfl, Nat.zero_le _, ho, fr_congr F3 (fun y => ?_), N4, ok4, rfl, rfl, Nat.le_refl _⟩
  rotate_left 1
  · unfold mSym; rw [eb]; simp only [lookup_if, List.reverse_cons, List.reverse_nil, List.nil_append, List.lookup_nil]
    by_cases e0 : y = Str.ofString "row"
    · subst e0; rfl
    by_cases e1 : y = Str.ofString "text"
    · subst e1; rfl
    simp only [e0, e1, if_false]
  rintro n s' ⟨i, h, tk, c, im, o, v1, rfl, rfl, hi, ho, F, N, ok, ht, hf, hcs⟩
  obtain ⟨im2, N2, hIm, hT⟩ := fresh_im (own := [_, _]) F N
  dsimp only [List.nil_append, List.cons_append] at N2
  have hne : ∀ p ∈ (a, tupOf vs) :: Rest w.params β c im2, p.1 ≠ it := List.forall_mem_cons.mpr ⟨hane, rest_off N2 (fun p hp => .tail _ (.tail _ hp)) (.head _) (iterT_noTup ho) hT hitD⟩
  have hlen : vs.length = 29 := hvs.len
  rcases Nat.lt_or_ge i 29 with hlt | hge
  · obtain ⟨xi, hxi⟩ : ∃ xi, fixedT[i]? = some xi := ⟨_, List.getElem?_eq_getElem hlt⟩
    obtain ⟨t, hv⟩ := hvs.get hxi
    refine next_tup F N2 ho ⟨_, (N2 _ (.tail _ (.head _))).1, rfl, _, rfl⟩ (by simpa using hv) hne ?_
    intro o' h4 ho' F4 N4
    dsimp only
    k_steps
    unfold Hold
    rename News g L' _ _ => N5
    rename Fr g L' _ _ => F5
    have hk5 := hIm _ _ F5 (fun p hp => (N5 p (.tail _ (.tail _ (rest_im p hp)))).1)
    k_dflt (refine' use_bk (own := [_, _]) (does_atomX w β c xi t (by omega)) ?k1 ?k2 ?k3 N5 ?k5 ?kA ?kf ?kk ?kd ?ku ?kh (ok.keepT hk5) True.intro ?kx ?_; walk_at "m fin"; (case kx => exact List.forall_mem_cons.mpr ⟨hitD, List.forall_mem_cons.mpr ⟨haD, List.forall_mem_nil _⟩⟩))
    intro r h5 tk5 c5 im5 F6 N6 hIm6 hT6 hO6 hG6 hKT6 hR6
    obtain ⟨i', t', rfl, hx6, ht6, hf6⟩ := hR6
    dsimp only [List.nil_append, List.cons_append] at N6
    try dsimp only
    k_steps
    rename Fr g L' _ _ => F7
    rename News g L' _ _ => N7
    have hG6' := BC.Grow.sz hG6
    show ∃ m, m < 29 - i ∧ ∃ i h tk c im o v1, _
    refine ⟨29 - (i + 1), by omega, i + 1, _, _, c5, im5, o', some (.str xi t), rfl, rfl, hlt, ho', fr_congr F7 (fun y => ?_), N7, hO6.keepT (by walk_at "m keepT"), ?_, ?_, ?_⟩
    · unfold mSym
      by_cases e0 : y = Str.ofString "row"
      · subst e0; rfl
      by_cases e1 : y = Str.ofString "text"
      · subst e1; rfl
      simp only [e0, e1, if_false]
    · rw [ht6, ht]; unfold atomsS; rw [List.take_add_one, hxi, Option.toList_some, List.foldl_append]; rfl
    · rw [hf6, hf]
    · omega
  · refine end_tup F N2 ho ⟨_, (N2 _ (.tail _ (.head _))).1, rfl, _, rfl⟩ (by simp; omega) hne rfl ?_
    intro h4 F4 N4
    have hi29 : i = 29 := Nat.le_antisymm hi hge
    subst hi29
    dsimp only
    k_steps
    unfold Hold
    refine wpAny_For ?_
    k_steps
    unfold Hold
    rename News g L' _ _ => N5
    rename Fr g L' _ _ => F5
    have N6 := news_tail N5
    have hk5 := hIm _ _ F5 (fun p hp => (N6 p (rest_im p hp)).1)
    have ok5 := ok.keepT hk5
    k_dflt (refine' use_does (does_fixedF w) ?k1 ?k2 ?k3 N6 ?k5 ?kA ?kf ?kk ?kd ?ku ?kh (List.forall_mem_nil _) True.intro ?_; walk_at "m fin")
    intro r h' tk' hK hP F6
    obtain ⟨a2, vs2, rfl, ha2, hn2, hvs2⟩ := hP
    have N7 := news_add F5 (news_keep (ms := []) N6 hK (fun _ _ q => nomatch q)) ha2 hn2
    have ok7 := ok5.keepT (.of_keep (fun b o e => hK b o e (by simp)))
    obtain ⟨im3, N7', hIm3, hT3⟩ := fresh_im (own := [_]) F6 N7
    dsimp only [List.nil_append, List.cons_append] at N7'
    clear N7
    refine iter_tup F6 N7' ⟨_, ha2, rfl, _, rfl⟩ ?_
    intro it2 o2 h7 ho2 F7 N8 l4
    have hoff2 : ∀ ra, h4.get? ra = none → ra ∉ (c.L w.params β).map (·.1) := fun _ q => none_off N6 q
    have haD2 : a2 ∉ (c.L w.params β).map (·.1) := none_off N6 hn2
    have hitD2 : it2 ∉ (c.L w.params β).map (·.1) := off_rest (im := im3) (allLt_of fun p hp => l4 p (.tail _ hp))
    have hk7 : KeepT h' h7 := hIm3 _ _ F7 (fun p hp => (N8 p (.tail _ (.tail _ (rest_im p hp)))).1)
    have hane2 : @Ne Nat a2 it2 := Nat.ne_of_lt (l4 _ (.head _))
    refine for_I (fun n s' => ∃ i h tk c im o v2, s' = ⟨h, s.gens, s.drawn, tk, s.os⟩ ∧ n = 32 - i ∧ i ≤ 32 ∧ IterT o a2 i ∧ Fr g L' h (mSym β v1 v2) ∧ News g L' h ((it2, o) :: (a2, tupOf vs2) :: Rest w.params β c im) ∧ c.Ok w h β ∧ c.texts = (rowsS i).1 ∧ c.fns = (rowsS i).2 ∧ c.size ≤ 29 + 2 * i ∧ KeepT h' h) ?_ 32
      ⟨0, _, _, _, _, o2, none, rfl, rfl, Nat.zero_le _, ho2, F7, N8, ok7.keepT hk7, ht, hf, hcs, hk7⟩
    clear N N2 N5 N7' N8 hIm hIm3 hT hT3 hne F F6 F7 ok ok7 l4 hk5 hk7
    rintro n s' ⟨i, h, tk, c2, im, o, v2, rfl, rfl, hi, ho, F, N, ok, ht2, hf2, hcs2, hkt⟩
    obtain ⟨im2, N2, hIm, hT⟩ := fresh_im (own := [_, _]) F N
    dsimp only [List.nil_append, List.cons_append] at N2
    have hne : ∀ p ∈ (a2, tupOf vs2) :: Rest w.params β c2 im2, p.1 ≠ it2 := List.forall_mem_cons.mpr ⟨hane2, rest_off N2 (fun p hp => .tail _ (.tail _ hp)) (.head _) (iterT_noTup ho) hT hitD2⟩
    have hlen2 : vs2.length = 32 := hvs2.len
    rcases Nat.lt_or_ge i 32 with hlt | hge
    · obtain ⟨⟨xi, ni⟩, hxi⟩ : ∃ xi, fixedF[i]? = some xi := ⟨_, List.getElem?_eq_getElem hlt⟩
      obtain ⟨ra, t, t', hv, hra, hran⟩ := hvs2.get hxi
      refine next_tup F N2 ho ⟨_, (N2 _ (.tail _ (.head _))).1, rfl, _, rfl⟩ (by simpa using hv) hne ?_
      intro o' h4 ho' F4 N4
      have hk4 : KeepT h h4 := hIm _ _ F4 (fun p hp => (N4 p (.tail _ (.tail _ (rest_im p hp)))).1)
      have N4' := news_add F5 N4 (hk4 _ _ (hkt _ _ hra (isTup_of _)) (isTup_of _)) hran
      clear N4 N N2
      dsimp only
      k_steps
      unfold Hold
      rename News g L' _ _ => N5
      rename Fr g L' _ _ => F8
      have hk5 := hIm _ _ F8 (fun p hp => (N5 p (.tail _ (.tail _ (.tail _ (rest_im p hp))))).1)
      k_dflt (refine' use_bk (own := [_, _, _]) (does_funcX w β c2 xi ni t t' (by omega)) ?k1 ?k2 ?k3 N5 ?k5 ?kA ?kf ?kk ?kd ?ku ?kh (ok.keepT hk5) True.intro ?kx ?_; walk_at "m fin"; (case kx => exact List.forall_mem_cons.mpr ⟨hoff2 _ hran, List.forall_mem_cons.mpr ⟨hitD2, List.forall_mem_cons.mpr ⟨haD2, List.forall_mem_nil _⟩⟩⟩))
      intro r h5 tk5 c5 im5 F6 N9 hIm6 hT6 hO6 hG6 hKT6 hR6
      obtain ⟨i', j', t'', rfl, hx6, hy6, ht6, hf6⟩ := hR6
      dsimp only [List.nil_append, List.cons_append] at N9
      try dsimp only
      k_steps
      rename Fr g L' _ _ => F7
      rename News g L' _ _ => N7
      have hG6' := BC.Grow.sz hG6
      have hpos : j' = posOf c5.texts xi := nodup_get hO6.ndt hy6 (posOf_get (List.mem_of_getElem? hy6))
      have hsucc : rowsS (i + 1) = rowStep (rowsS i) (xi, ni) := by unfold rowsS; rw [List.take_add_one, hxi, Option.toList_some, List.foldl_append]; rfl
      show ∃ m, m < 32 - i ∧ ∃ i h tk c im o v2, _
      refine ⟨32 - (i + 1), by omega, i + 1, _, _, c5, im5, o', some (.ref ra), rfl, rfl, hlt, ho', fr_congr F7 (fun y => ?_), news_tail N7, hO6.keepT (by walk_at "m keepT"), ?_, ?_, ?_, hkt.trans (hk5.trans (hKT6.trans (by walk_at "m keepT")))⟩
      · unfold mSym
        by_cases e0 : y = Str.ofString "row"
        · subst e0; rfl
        by_cases e1 : y = Str.ofString "text"
        · subst e1; rfl
        simp only [e0, e1, if_false]
      · rw [ht6, ht2, hsucc]; rfl
      · rw [hf6, hf2, hsucc, hpos, ht6, ht2]; rfl
      · omega
    · refine end_tup F N2 ho ⟨_, (N2 _ (.tail _ (.head _))).1, rfl, _, rfl⟩ (by simp; omega) hne rfl ?_
      intro h4 F4 N4
      have hi32 : i = 32 := Nat.le_antisymm hi hge
      subst hi32
      dsimp only
      k_steps
      refine ⟨rfl, ?_⟩
      show Q _ _
      have hno : ∀ b o, s.heap.get? b = some o → g.get? b = some o := fun b o e => hg b o (hkc b o e) (fun q => by
        simp only [List.map_cons, List.map_nil, List.mem_cons, List.mem_nil_iff, or_false] at q
        rcases q with rfl | rfl
        · rw [hxn] at e; cases e
        · rw [hdn] at e; cases e)
      rename News g L' _ _ => N9
      rename Fr g L' _ _ => F9
      rw [← eb]
      refine hret _ _ _ (fun b o e _ => Fr.keep F9 b o (hno b o e)) ⟨β, c2, rfl, fun p hp => (N9 p (.tail _ (rest_bk p hp))).1, ok.keepT (hIm _ _ F9 (fun p hp => (N9 p (.tail _ (rest_im p hp))).1)), by unfold BC.size; rw [ht2, hf2]; exact rows_fin.2.2, by rw [ht2]; exact rows_fin.1, by rw [hf2]; exact rows_fin.2.1, fun p hp => ?_⟩
      cases q : s.heap.get? p.1 with
      | none => rfl
      | some o =>
        have z := News.fresh N9 (.tail _ (rest_bk p hp))
        rw [hno _ _ q] at z
        cases z
end

/-- terms, whatever their numbers -/
inductive T where
  | a
  | seven
  | nil
  | curl
  | f (ts : List T)
  | dot (x y : T)
  | comma (x y : T)
  | brace (x : T)

/-- what a descent comes to: a term and the place behind it, or the kind and the place of a stop -/
abbrev R := (T × Nat) ⊕ (Str × Nat)
def stopR (sg : List Sg) (j : Nat) (o : Str) : R := match sg[j]? with
  | some x => .inr (stopKind x o, j)
  | none => .inr (o, j)
def dots : List T → T → T
  | [], r => r
  | t :: ts, r => .dot t (dots ts r)
def build (cl : Sg) (ts : List T) : T := if cl = .rp then .f ts else dots ts .nil

mutual
def operandS (sg : List Sg) : Nat → Nat → R
  | 0, i => .inr (Str.ofString "", i)
  | n + 1, i => match sg[i]? with
    | some .atm => .inl (.a, i + 1)
    | some .num => .inl (.seven, i + 1)
    | some .fp => itemsS sg n (i + 1) .rp []
    | some .lb => if sg[i + 1]? = some .rb then .inl (.nil, i + 2) else itemsS sg n (i + 1) .rb []
    | some .lc => if sg[i + 1]? = some .rc then .inl (.curl, i + 2) else match wholeS sg n (i + 1) with
      | .inr s => .inr s
      | .inl (t, j) => if sg[j]? = some .rc then .inl (.brace t, j + 1) else stopR sg j (Str.ofString "operator_expected")
    | some .lp => match wholeS sg n (i + 1) with
      | .inr s => .inr s
      | .inl (t, j) => if sg[j]? = some .rp then .inl (t, j + 1) else stopR sg j (Str.ofString "operator_expected")
    | _ => .inr (Str.ofString "unexpected_token", i)
def itemsS (sg : List Sg) : Nat → Nat → Sg → List T → R
  | 0, i, _, _ => .inr (Str.ofString "", i)
  | n + 1, i, cl, ts => match operandS sg n i with
    | .inr s => .inr s
    | .inl (t, j) =>
      if sg[j]? = some .bar ∧ cl = .rb then match operandS sg n (j + 1) with
        | .inr s => .inr s
        | .inl (r, k) => if sg[k]? = some .rb then .inl (dots (ts ++ [t]) r, k + 1) else stopR sg k (Str.ofString "operator_expected")
      else if sg[j]? = some cl then .inl (build cl (ts ++ [t]), j + 1)
      else if sg[j]? = some .cma then itemsS sg n (j + 1) cl (ts ++ [t])
      else stopR sg j (Str.ofString "operator_expected")
def wholeS (sg : List Sg) : Nat → Nat → R
  | 0, i => .inr (Str.ofString "", i)
  | n + 1, i => match operandS sg n i with
    | .inr s => .inr s
    | .inl (t, j) => if sg[j]? = some .cma then match wholeS sg n (j + 1) with
        | .inr s => .inr s
        | .inl (r, k) => .inl (.comma t r, k)
      else .inl (t, j)
end

/-- the signs end in a dot, and hold no other -/
structure WF (sg : List Sg) : Prop where
  small : sg.length < 100
  last : ∀ i : Nat, i + 1 = sg.length → sg[i]? = some .dot
  only : ∀ i : Nat, i + 1 < sg.length → sg[i]? ≠ some .dot
  pos : 0 < sg.length

theorem WF.lt {sg : List Sg} (w : WF sg) {i : Nat} {x : Sg} (e : sg[i]? = some x) (n : x ≠ .dot) : i + 1 < sg.length := by
  have := (List.getElem?_eq_some_iff.mp e).1
  rcases Nat.lt_or_ge (i + 1) sg.length with h | h
  · exact h
  · have q := w.last i (by omega)
    rw [e] at q
    exact absurd (Option.some.inj q) n

def okR (sg : List Sg) (i : Nat) (r : R) : Prop := match r with
  | .inl (_, j) => i < j ∧ j < sg.length
  | .inr (_, j) => i ≤ j ∧ j < sg.length
theorem okR_stop {sg : List Sg} {i j : Nat} {o : Str} (h : i ≤ j) (hj : j < sg.length) : okR sg i (stopR sg j o) := by
  unfold stopR
  split <;> exact ⟨h, hj⟩
theorem okR.mono {sg : List Sg} {i j : Nat} {r : R} (h : okR sg j r) (l : i ≤ j) : okR sg i r := by
  unfold okR at *
  rcases r with ⟨t, k⟩ | ⟨t, k⟩
  · have : j < k ∧ k < sg.length := h
    exact ⟨by omega, this.2⟩
  · have : j ≤ k ∧ k < sg.length := h
    exact ⟨by omega, this.2⟩

theorem descent_ok {sg : List Sg} (w : WF sg) : ∀ n : Nat,
    (∀ i, i < sg.length → okR sg i (operandS sg n i)) ∧ (∀ i cl ts, cl = .rp ∨ cl = .rb → i < sg.length → okR sg i (itemsS sg n i cl ts)) ∧ (∀ i, i < sg.length → okR sg i (wholeS sg n i)) := by
  intro n
  induction n with
  | zero => exact ⟨fun i h => ⟨Nat.le_refl _, h⟩, fun i _ _ _ h => ⟨Nat.le_refl _, h⟩, fun i h => ⟨Nat.le_refl _, h⟩⟩
  | succ n ih =>
    obtain ⟨ho, hi, hw⟩ := ih
    refine ⟨fun i h => ?_, fun i cl ts hcl h => ?_, fun i h => ?_⟩
    · rw [operandS]
      split
      · rename_i e; exact ⟨Nat.lt_succ_self _, w.lt e (by decide)⟩
      · rename_i e; exact ⟨Nat.lt_succ_self _, w.lt e (by decide)⟩
      · rename_i e; exact (hi _ _ _ (.inl rfl) (w.lt e (by decide))).mono (Nat.le_succ _)
      · rename_i e
        split
        · rename_i e'; have := w.lt e' (by decide); exact ⟨by omega, by omega⟩
        · exact (hi _ _ _ (.inr rfl) (w.lt e (by decide))).mono (Nat.le_succ _)
      · rename_i e
        split
        · rename_i e'; have := w.lt e' (by decide); exact ⟨by omega, by omega⟩
        · have := hw (i + 1) (w.lt e (by decide))
          split
          · rename_i s es; rw [es] at this; exact this.mono (Nat.le_succ _)
          · rename_i t j es
            rw [es] at this
            obtain ⟨h1, h2⟩ := this
            split
            · rename_i e'; have := w.lt e' (by decide); exact ⟨by omega, by omega⟩
            · exact okR_stop (by omega) h2
      · rename_i e
        have := hw (i + 1) (w.lt e (by decide))
        split
        · rename_i s es; rw [es] at this; exact this.mono (Nat.le_succ _)
        · rename_i t j es
          rw [es] at this
          obtain ⟨h1, h2⟩ := this
          split
          · rename_i e'; have := w.lt e' (by decide); exact ⟨by omega, by omega⟩
          · exact okR_stop (by omega) h2
      · exact ⟨Nat.le_refl _, h⟩
    · rw [itemsS]
      have h1 := ho i h
      split
      · rename_i s es; rw [es] at h1; exact h1
      · rename_i t j es
        rw [es] at h1
        obtain ⟨a, b⟩ := h1
        split
        · rename_i e
          have h2 := ho (j + 1) (w.lt e.1 (by decide))
          split
          · rename_i s es'; rw [es'] at h2; exact h2.mono (by omega)
          · rename_i r k es'
            rw [es'] at h2
            obtain ⟨c, d⟩ := h2
            split
            · rename_i e'; have := w.lt e' (by decide); exact ⟨by omega, by omega⟩
            · exact okR_stop (by omega) d
        · split
          · rename_i e; have := w.lt e (by rcases hcl with rfl | rfl <;> decide); exact ⟨by omega, by omega⟩
          · split
            · rename_i e; exact (hi _ _ _ hcl (w.lt e (by decide))).mono (by omega)
            · exact okR_stop (by omega) b
    · rw [wholeS]
      have h1 := ho i h
      split
      · rename_i s es; rw [es] at h1; exact h1
      · rename_i t j es
        rw [es] at h1
        obtain ⟨a, b⟩ := h1
        split
        · rename_i e
          have h2 := hw (j + 1) (w.lt e (by decide))
          split
          · rename_i s es'; rw [es'] at h2; exact h2.mono (by omega)
          · rename_i r k es'
            rw [es'] at h2
            obtain ⟨c, d⟩ := h2
            exact ⟨by omega, d⟩
        · exact ⟨a, b⟩

mutual
/-- v is the term t, on the heap h, by the numbers of a table -/
def TermAt (tx : List Str) (fs : List (Int × Int)) (h : Heap) : T → Value → Prop
  | .a, v => ∃ (n : Nat) (r : Addr) (k1 k2 : Tok), v = .ref r ∧ IsTup h r [.str (Str.ofString "a") k1, .int n k2].toArray ∧ tx[n]? = some (Str.ofString "a")
  | .seven, v => ∃ (r : Addr) (k1 k2 : Tok), v = .ref r ∧ IsTup h r [.str (Str.ofString "i") k1, .int 7 k2].toArray
  | .nil, v => ∃ (r : Addr) (k1 k2 : Tok), v = .ref r ∧ IsTup h r [.str (Str.ofString "a") k1, .int 0 k2].toArray
  | .curl, v => ∃ (r : Addr) (k1 k2 : Tok), v = .ref r ∧ IsTup h r [.str (Str.ofString "a") k1, .int 2 k2].toArray
  | .f ts, v => ∃ (n j : Nat) (r q : Addr) (k1 k2 : Tok) (vs : List Value), v = .ref r ∧ IsTup h r [.str (Str.ofString "s") k1, .int n k2, .ref q].toArray ∧ IsTup h q vs.toArray ∧
      fs[n]? = some ((j : Int), (ts.length : Int)) ∧ tx[j]? = some (Str.ofString "f") ∧ TermsAt tx fs h ts vs
  | .dot x y, v => ∃ (r q : Addr) (k1 k2 : Tok) (a b : Value), v = .ref r ∧ IsTup h r [.str (Str.ofString "s") k1, .int 0 k2, .ref q].toArray ∧ IsTup h q [a, b].toArray ∧ TermAt tx fs h x a ∧ TermAt tx fs h y b
  | .comma x y, v => ∃ (r q : Addr) (k1 k2 : Tok) (a b : Value), v = .ref r ∧ IsTup h r [.str (Str.ofString "s") k1, .int 1 k2, .ref q].toArray ∧ IsTup h q [a, b].toArray ∧ TermAt tx fs h x a ∧ TermAt tx fs h y b
  | .brace x, v => ∃ (r q : Addr) (k1 k2 : Tok) (a : Value), v = .ref r ∧ IsTup h r [.str (Str.ofString "s") k1, .int 9 k2, .ref q].toArray ∧ IsTup h q [a].toArray ∧ TermAt tx fs h x a
def TermsAt (tx : List Str) (fs : List (Int × Int)) (h : Heap) : List T → List Value → Prop
  | [], vs => vs = []
  | t :: ts, vs => ∃ v rest, vs = v :: rest ∧ TermAt tx fs h t v ∧ TermsAt tx fs h ts rest
end
theorem isTup_keep {h h' : Heap} {r : Addr} {a : Array Value} (k : KeepT h h') (x : IsTup h r a) : IsTup h' r a := by
  obtain ⟨o, ho, hc, n, hd⟩ := x
  exact ⟨o, k _ _ ho ⟨hc, _, _, hd⟩, hc, n, hd⟩
mutual
theorem TermAt.keep {tx tx' : List Str} {fs fs' : List (Int × Int)} {h h' : Heap} (ht : tx <+: tx') (hf : fs <+: fs') (k : KeepT h h') : ∀ (t : T) (v : Value), TermAt tx fs h t v → TermAt tx' fs' h' t v
  | .a, v, x => by rw [TermAt] at *; obtain ⟨n, r, k1, k2, e, a, b⟩ := x; exact ⟨n, r, k1, k2, e, isTup_keep k a, prefix_get ht b⟩
  | .seven, v, x => by rw [TermAt] at *; obtain ⟨r, k1, k2, e, a⟩ := x; exact ⟨r, k1, k2, e, isTup_keep k a⟩
  | .nil, v, x => by rw [TermAt] at *; obtain ⟨r, k1, k2, e, a⟩ := x; exact ⟨r, k1, k2, e, isTup_keep k a⟩
  | .curl, v, x => by rw [TermAt] at *; obtain ⟨r, k1, k2, e, a⟩ := x; exact ⟨r, k1, k2, e, isTup_keep k a⟩
  | .f ts, v, x => by
    rw [TermAt] at *
    obtain ⟨n, j, r, q, k1, k2, vs, e, a, b, c, d, f⟩ := x
    exact ⟨n, j, r, q, k1, k2, vs, e, isTup_keep k a, isTup_keep k b, prefix_get hf c, prefix_get ht d, TermsAt.keep ht hf k ts vs f⟩
  | .dot t u, v, x => by
    rw [TermAt] at *
    obtain ⟨r, q, k1, k2, y, z, e, a, b, c, d⟩ := x
    exact ⟨r, q, k1, k2, y, z, e, isTup_keep k a, isTup_keep k b, TermAt.keep ht hf k t y c, TermAt.keep ht hf k u z d⟩
  | .comma t u, v, x => by
    rw [TermAt] at *
    obtain ⟨r, q, k1, k2, y, z, e, a, b, c, d⟩ := x
    exact ⟨r, q, k1, k2, y, z, e, isTup_keep k a, isTup_keep k b, TermAt.keep ht hf k t y c, TermAt.keep ht hf k u z d⟩
  | .brace t, v, x => by
    rw [TermAt] at *
    obtain ⟨r, q, k1, k2, y, e, a, b, c⟩ := x
    exact ⟨r, q, k1, k2, y, e, isTup_keep k a, isTup_keep k b, TermAt.keep ht hf k t y c⟩
theorem TermsAt.keep {tx tx' : List Str} {fs fs' : List (Int × Int)} {h h' : Heap} (ht : tx <+: tx') (hf : fs <+: fs') (k : KeepT h h') : ∀ (ts : List T) (vs : List Value), TermsAt tx fs h ts vs → TermsAt tx' fs' h' ts vs
  | [], vs, x => by rw [TermsAt] at *; exact x
  | t :: ts, vs, x => by
    rw [TermsAt] at *
    obtain ⟨v, rest, e, a, b⟩ := x
    exact ⟨v, rest, e, TermAt.keep ht hf k t v a, TermsAt.keep ht hf k ts rest b⟩
end
theorem TermsAt.app {tx : List Str} {fs : List (Int × Int)} {h : Heap} : ∀ {ts us : List T} {vs ws : List Value}, TermsAt tx fs h ts vs → TermsAt tx fs h us ws → TermsAt tx fs h (ts ++ us) (vs ++ ws)
  | [], us, vs, ws, x, y => by rw [TermsAt] at x; subst x; exact y
  | t :: ts, us, vs, ws, x, y => by
    rw [TermsAt] at x
    obtain ⟨v, rest, rfl, a, b⟩ := x
    show TermsAt tx fs h (t :: (ts ++ us)) (v :: (rest ++ ws))
    rw [TermsAt]
    exact ⟨v, _, rfl, a, b.app y⟩
theorem TermsAt.one {tx : List Str} {fs : List (Int × Int)} {h : Heap} {t : T} {v : Value} (x : TermAt tx fs h t v) : TermsAt tx fs h [t] [v] := by
  rw [TermsAt]; exact ⟨v, [], rfl, x, by rw [TermsAt]⟩
theorem TermsAt.length {tx : List Str} {fs : List (Int × Int)} {h : Heap} : ∀ {ts : List T} {vs : List Value}, TermsAt tx fs h ts vs → vs.length = ts.length
  | [], vs, x => by rw [TermsAt] at x; rw [x]; rfl
  | t :: ts, vs, x => by
    rw [TermsAt] at x
    obtain ⟨v, rest, rfl, a, b⟩ := x
    simp [b.length]

/-- the pair that a descent hands back -/
def RAt (tx : List Str) (fs : List (Int × Int)) (h h' : Heap) (v : Value) : R → Prop
  | .inl (t, j) => ∃ tv, PairAt h h' v tv j ∧ TermAt tx fs h' t tv
  | .inr (k, j) => ∃ tv, PairAt h h' v tv (-1) ∧ StopAt h' tv k (3 * j)
def gb (sg : List Sg) (i : Nat) : R → Nat
  | .inl (_, j) => 2 * (j - i)
  | .inr _ => 2 * (sg.length - i)

def DoesOp (w : World) (sg : List Sg) (n : Nat) : Prop := ∀ (β : BA) (c : BC) (l : Addr) (vs : List Value) (i : Nat) (z : Int) (tk : Tok), z = i → i < sg.length → SgVals vs sg → 2 * (sg.length - i) + 1 ≤ n → c.size + 2 * (sg.length - i) < 99000 →
  Does w 563 (n + 3) [.ref β.b, .ref l, .int z tk] (c.L w.params β) (fun h => c.Ok w h β ∧ h.IsList l vs.toArray ∧ l ∉ (c.L w.params β).map (·.1))
    (fun h h' r => ∃ c', c.Grow c' (gb sg i (operandS sg n i)) ∧ Has h' (c'.L w.params β) ∧ c'.Ok w h' β ∧ RAt c'.texts c'.fns h h' r (operandS sg n i))
def DoesIt (w : World) (sg : List Sg) (n : Nat) : Prop := ∀ (β : BA) (c : BC) (l : Addr) (vs : List Value) (i : Nat) (z : Int) (tk tk' : Tok) (cl : Sg) (x : Str), x = cl.str → cl = .rp ∨ cl = .rb → z = i → i < sg.length → SgVals vs sg → 2 * (sg.length - i) + 2 ≤ n → c.size + 2 * (sg.length - i) + 2 < 99000 →
  Does w 556 (n + 3) [.ref β.b, .ref l, .int z tk, .str x tk'] (c.L w.params β) (fun h => c.Ok w h β ∧ h.IsList l vs.toArray ∧ l ∉ (c.L w.params β).map (·.1))
    (fun h h' r => ∃ c', c.Grow c' (gb sg i (itemsS sg n i cl []) + 2) ∧ Has h' (c'.L w.params β) ∧ c'.Ok w h' β ∧ RAt c'.texts c'.fns h h' r (itemsS sg n i cl []))
def DoesWh (w : World) (sg : List Sg) (n : Nat) : Prop := ∀ (β : BA) (c : BC) (l : Addr) (vs : List Value) (i : Nat) (z : Int) (tk : Tok), z = i → i < sg.length → SgVals vs sg → 2 * (sg.length - i) + 2 ≤ n → c.size + 2 * (sg.length - i) < 99000 →
  Does w 570 (n + 3) [.ref β.b, .ref l, .int z tk] (c.L w.params β) (fun h => c.Ok w h β ∧ h.IsList l vs.toArray ∧ l ∉ (c.L w.params β).map (·.1))
    (fun h h' r => ∃ c', c.Grow c' (gb sg i (wholeS sg n i)) ∧ Has h' (c'.L w.params β) ∧ c'.Ok w h' β ∧ RAt c'.texts c'.fns h h' r (wholeS sg n i))

theorem off_base {g h : Heap} {L l : Addr} {own im : List (Addr × Obj)} {P : Params} {β : BA} {c : BC} {a : Array Value} (N : News g L h (own ++ Rest P β c im)) (x : g.IsList l a) : l ∉ (c.L P β).map (·.1) := fun q => by
  obtain ⟨p, hp, e⟩ := List.mem_map.mp q
  obtain ⟨o, ho, _⟩ := x
  have := News.fresh N (List.mem_append_right _ (rest_bk p hp))
  rw [e, ho] at this
  cases this
theorem list_base {g h : Heap} {l : Addr} {a : Array Value} {ms : List Addr} (x : h.IsList l a) (hg : ∀ b o, h.get? b = some o → b ∉ ms → g.get? b = some o) (n : l ∉ ms) : g.IsList l a := by
  obtain ⟨o, ho, r⟩ := x
  exact ⟨o, hg _ _ ho n, r⟩
/-- what is not there now was not there at the start -/
theorem none_back {g h h' : Heap} {L a : Addr} {m : Str → Option Value} {news : List (Addr × Obj)} {ms : List (Addr × Obj)} (F : Fr g L h' m) (N : News g L h' news) (hg : ∀ b o, h.get? b = some o → b ∉ ms.map (·.1) → g.get? b = some o)
    (e : ∀ p ∈ ms, ∃ q ∈ news, q.1 = p.1) (n : h'.get? a = none) : h.get? a = none := by
  cases z : h.get? a with
  | none => rfl
  | some o =>
    by_cases q : a ∈ ms.map (·.1)
    · obtain ⟨p, hp, rfl⟩ := List.mem_map.mp q
      obtain ⟨q, hq, e'⟩ := e p hp
      have := (N q hq).1
      rw [e', n] at this
      cases this
    · have := F.keep _ _ (hg _ _ z q)
      rw [n] at this
      cases this
theorem bk_there {own im : List (Addr × Obj)} {P : Params} {β : BA} {c c' : BC} : ∀ p ∈ c.L P β, ∃ q ∈ own ++ Rest P β c' im, q.1 = p.1 := fun p hp => by
  have : p.1 ∈ (c'.L P β).map (·.1) := by rw [BC.addrs P β c c']; exact List.mem_map_of_mem hp
  obtain ⟨q, hq, e⟩ := List.mem_map.mp this
  exact ⟨q, List.mem_append_right _ (rest_bk q hq), e⟩

local macro_rules | `(tactic| walk_at "m there") => `(tactic| first | exact bk_there (own := []) | exact bk_there (own := [_]) | exact bk_there (own := [_, _]) | exact bk_there (own := [_, _, _]) | exact bk_there (own := [_, _, _, _]) | exact bk_there (own := [_, _, _, _, _]))

theorem RAt.back {tx : List Str} {fs : List (Int × Int)} {h0 h h' : Heap} {v : Value} {r : R} (b : ∀ a, h.get? a = none → h0.get? a = none) (x : RAt tx fs h h' v r) : RAt tx fs h0 h' v r := by
  rcases r with ⟨t, j⟩ | ⟨k, j⟩
  · obtain ⟨tv, ⟨a, q, e, y, z⟩, u⟩ := x; exact ⟨tv, ⟨a, q, e, y, b _ z⟩, u⟩
  · obtain ⟨tv, ⟨a, q, e, y, z⟩, u⟩ := x; exact ⟨tv, ⟨a, q, e, y, b _ z⟩, u⟩

theorem fresh_tup {w : World} {g h h' : Heap} {L a : Addr} {o : Obj} {news : List (Addr × Obj)} {β : BA} {c c' : BC} (N : News g L h' news) (hm : (a, o) ∈ news) (ht : isTup o) (hr : ∀ p ∈ c'.L w.params β, p ∈ news) (ok : c'.Ok w h' β)
    (hg : ∀ b o, h.get? b = some o → b ∉ (c.L w.params β).map (·.1) → g.get? b = some o) : h.get? a = none := by
  cases z : h.get? a with
  | none => rfl
  | some o' =>
    exfalso
    by_cases q : a ∈ (c.L w.params β).map (·.1)
    · rw [← BC.addrs w.params β c c'] at q
      obtain ⟨p, hp, e⟩ := List.mem_map.mp q
      have h1 := (N p (hr p hp)).1
      rw [e, (N _ hm).1] at h1
      exact ok.noTup _ p hp (Option.some.inj h1 ▸ ht)
    · have := hg _ _ z q
      rw [(N _ hm).2.2] at this
      cases this
theorem fin_term {w : World} {g h h' : Heap} {L a : Addr} {tv : Value} {z : Int} {k : Tok} {rest im : List (Addr × Obj)} {β : BA} {c c' : BC} {t : T} {j m : Nat} (N : News g L h' ((a, tupOf [tv, .int z k]) :: rest)) (hr : ∀ p ∈ Rest w.params β c' im, p ∈ rest)
    (hg : ∀ b o, h.get? b = some o → b ∉ (c.L w.params β).map (·.1) → g.get? b = some o) (hO : c'.Ok w h' β) (hG : c.Grow c' m) (hz : z = j) (ht : TermAt c'.texts c'.fns h' t tv) :
    ∃ c', c.Grow c' m ∧ Has h' (c'.L w.params β) ∧ c'.Ok w h' β ∧ RAt c'.texts c'.fns h h' (.ref a) (.inl (t, j)) := by
  subst hz
  have hb : ∀ p ∈ c'.L w.params β, p ∈ (a, tupOf [tv, .int j k]) :: rest := fun p hp => .tail _ (hr p (rest_bk p hp))
  exact ⟨c', hG, fun p hp => (N p (hb p hp)).1, hO, tv, ⟨a, k, rfl, (N _ (.head _)).1, fresh_tup N (.head _) (isTup_of _) hb hO hg⟩, ht⟩
theorem fin_stop {w : World} {g h h' : Heap} {L a : Addr} {tv : Value} {k : Tok} {rest im : List (Addr × Obj)} {β : BA} {c c' : BC} {kd : Str} {j m : Nat} (N : News g L h' ((a, tupOf [tv, .int (-1) k]) :: rest)) (hr : ∀ p ∈ Rest w.params β c' im, p ∈ rest)
    (hg : ∀ b o, h.get? b = some o → b ∉ (c.L w.params β).map (·.1) → g.get? b = some o) (hO : c'.Ok w h' β) (hG : c.Grow c' m) (ht : StopAt h' tv kd (3 * j)) :
    ∃ c', c.Grow c' m ∧ Has h' (c'.L w.params β) ∧ c'.Ok w h' β ∧ RAt c'.texts c'.fns h h' (.ref a) (.inr (kd, j)) := by
  have hb : ∀ p ∈ c'.L w.params β, p ∈ (a, tupOf [tv, .int (-1) k]) :: rest := fun p hp => .tail _ (hr p (rest_bk p hp))
  exact ⟨c', hG, fun p hp => (N p (hb p hp)).1, hO, tv, ⟨a, k, rfl, (N _ (.head _)).1, fresh_tup N (.head _) (isTup_of _) hb hO hg⟩, ht⟩

set_option maxHeartbeats 4000000 in
theorem op_atm (w : World) (sg : List Sg) (n : Nat) (wf : WF sg) (β : BA) (c : BC) (l : Addr) (vs : List Value) (i : Nat) (z : Int) (tk : Tok) (hz : z = i) (hi : i < sg.length) (hv : SgVals vs sg) (hsz : c.size + 2 * (sg.length - i) < 99000) (hx : sg[i]? = some .atm) :
  Does w 563 (n + 4) [.ref β.b, .ref l, .int z tk] (c.L w.params β) (fun h => c.Ok w h β ∧ h.IsList l vs.toArray ∧ l ∉ (c.L w.params β).map (·.1))
    (fun h h' r => ∃ c', c.Grow c' (2) ∧ Has h' (c'.L w.params β) ∧ c'.Ok w h' β ∧ RAt c'.texts c'.fns h h' r (.inl (.a, i + 1))) := by
  walk_at "m fill"
  intro p loose mean mg mb A env outer A₀ base h₀ L m s Q E B F X N T hA hf hk hd hu hh hpre hret
  obtain ⟨ah, dp, fr, gd, un⟩ := A
  obtain rfl : fr = some (env :: outer) := hA
  obtain rfl : ah = none := hh
  replace hd : dp + _ < recursionLimit := hd
  replace hu : un + _ < cLine := hu
  obtain ⟨hok, hl0, hln⟩ := hpre
  obtain ⟨tx, hx'⟩ := hv.get hx
  have hw := wf.small
  subst hz
  change vs[_]? = some (Value.str (Str.ofString "a") tx) at hx'
  refine wpAny_call ?_
  k_dflt (refine' enterD (binds := [(Str.ofString "book", .ref β.b), (Str.ofString "signs", .ref l), (Str.ofString "spot", .int i tk)]) ?k1 ?k2 ?k3 ?k4 ?k5 ?kA ?kF ?kK ?k6 ?k7 ?k8 ?k9 ?kB ?_ ?c2 ?c3 ?c4 ?c5; (case kA => walk_at "m frames"); (case kF => first | assumption | exact rfl); (case kK => first | assumption | exact rfl); (case k1 => k_asm); (case k2 => k_asm); (case k3 => k_asm); (case k4 => k_asm); (case k5 => k_asm); (case k6 => k_is); (case k7 => k_is); (case k8 => walk_at "m room"); (case k9 => first | exact BindsTo.of_eq rfl | exact binds_K (by k_in) rfl (by k_is) rfl rfl rfl); (case c5 => decide); (case kB => exact locs rfl); (case c2 => exact rfl); (case c3 => exact rfl); (case c4 => exact rfl); k_whole)
  intro g L' h₁ F' N' B' X' T' hg hgs
  k_fold
  have hl := list_base hl0 hg hln
  have okg := hok.keepT (keepT_of hg (fun p hp => (N p hp).1) (hok.noTup _))
  replace N' := rest_start N'
  k_steps
  rename News g L' _ _ => N9
  show Q _ _
  refine hret _ _ _ (fun b o e n => Fr.keep (by assumption) b o (hg b o e n)) (fin_term N9 (by walk_at "m rest") hg (by walk_at "m ok") (BC.Grow.le (by assumption) (by omega)) (by omega) ?_)
  rw [TermAt]
  exact ⟨_, _, _, _, rfl, News.isTup N9 (by k_mem), by assumption⟩

set_option maxHeartbeats 4000000 in
theorem op_num (w : World) (sg : List Sg) (n : Nat) (wf : WF sg) (β : BA) (c : BC) (l : Addr) (vs : List Value) (i : Nat) (z : Int) (tk : Tok) (hz : z = i) (hi : i < sg.length) (hv : SgVals vs sg) (hsz : c.size + 2 * (sg.length - i) < 99000) (hx : sg[i]? = some .num) :
  Does w 563 (n + 4) [.ref β.b, .ref l, .int z tk] (c.L w.params β) (fun h => c.Ok w h β ∧ h.IsList l vs.toArray ∧ l ∉ (c.L w.params β).map (·.1))
    (fun h h' r => ∃ c', c.Grow c' (2) ∧ Has h' (c'.L w.params β) ∧ c'.Ok w h' β ∧ RAt c'.texts c'.fns h h' r (.inl (.seven, i + 1))) := by
  walk_at "m fill"
  intro p loose mean mg mb A env outer A₀ base h₀ L m s Q E B F X N T hA hf hk hd hu hh hpre hret
  obtain ⟨ah, dp, fr, gd, un⟩ := A
  obtain rfl : fr = some (env :: outer) := hA
  obtain rfl : ah = none := hh
  replace hd : dp + _ < recursionLimit := hd
  replace hu : un + _ < cLine := hu
  obtain ⟨hok, hl0, hln⟩ := hpre
  obtain ⟨tx, hx'⟩ := hv.get hx
  have hw := wf.small
  subst hz
  change vs[_]? = some (Value.str (Str.ofString "7") tx) at hx'
  refine wpAny_call ?_
  k_dflt (refine' enterD (binds := [(Str.ofString "book", .ref β.b), (Str.ofString "signs", .ref l), (Str.ofString "spot", .int i tk)]) ?k1 ?k2 ?k3 ?k4 ?k5 ?kA ?kF ?kK ?k6 ?k7 ?k8 ?k9 ?kB ?_ ?c2 ?c3 ?c4 ?c5; (case kA => walk_at "m frames"); (case kF => first | assumption | exact rfl); (case kK => first | assumption | exact rfl); (case k1 => k_asm); (case k2 => k_asm); (case k3 => k_asm); (case k4 => k_asm); (case k5 => k_asm); (case k6 => k_is); (case k7 => k_is); (case k8 => walk_at "m room"); (case k9 => first | exact BindsTo.of_eq rfl | exact binds_K (by k_in) rfl (by k_is) rfl rfl rfl); (case c5 => decide); (case kB => exact locs rfl); (case c2 => exact rfl); (case c3 => exact rfl); (case c4 => exact rfl); k_whole)
  intro g L' h₁ F' N' B' X' T' hg hgs
  k_fold
  have hl := list_base hl0 hg hln
  have okg := hok.keepT (keepT_of hg (fun p hp => (N p hp).1) (hok.noTup _))
  replace N' := rest_start N'
  k_steps
  rename News g L' _ _ => N9
  show Q _ _
  refine hret _ _ _ (fun b o e n => Fr.keep (by assumption) b o (hg b o e n)) (fin_term N9 (by walk_at "m rest") hg (by walk_at "m ok") (BC.Grow.le (BC.Grow.refl _) (by omega)) (by omega) ?_)
  rw [TermAt]
  exact ⟨_, _, _, rfl, News.isTup N9 (by k_mem)⟩

set_option maxHeartbeats 4000000 in
theorem op_rp (w : World) (sg : List Sg) (n : Nat) (wf : WF sg) (β : BA) (c : BC) (l : Addr) (vs : List Value) (i : Nat) (z : Int) (tk : Tok) (hz : z = i) (hi : i < sg.length) (hv : SgVals vs sg) (hsz : c.size + 2 * (sg.length - i) < 99000) (hx : sg[i]? = some .rp) :
  Does w 563 (n + 4) [.ref β.b, .ref l, .int z tk] (c.L w.params β) (fun h => c.Ok w h β ∧ h.IsList l vs.toArray ∧ l ∉ (c.L w.params β).map (·.1))
    (fun h h' r => ∃ c', c.Grow c' (2) ∧ Has h' (c'.L w.params β) ∧ c'.Ok w h' β ∧ RAt c'.texts c'.fns h h' r (.inr (Str.ofString "unexpected_token", i))) := by
  walk_at "m fill"
  intro p loose mean mg mb A env outer A₀ base h₀ L m s Q E B F X N T hA hf hk hd hu hh hpre hret
  obtain ⟨ah, dp, fr, gd, un⟩ := A
  obtain rfl : fr = some (env :: outer) := hA
  obtain rfl : ah = none := hh
  replace hd : dp + _ < recursionLimit := hd
  replace hu : un + _ < cLine := hu
  obtain ⟨hok, hl0, hln⟩ := hpre
  obtain ⟨tx, hx'⟩ := hv.get hx
  have hw := wf.small
  subst hz
  change vs[_]? = some (Value.str (Str.ofString ")") tx) at hx'
  refine wpAny_call ?_
  k_dflt (refine' enterD (binds := [(Str.ofString "book", .ref β.b), (Str.ofString "signs", .ref l), (Str.ofString "spot", .int i tk)]) ?k1 ?k2 ?k3 ?k4 ?k5 ?kA ?kF ?kK ?k6 ?k7 ?k8 ?k9 ?kB ?_ ?c2 ?c3 ?c4 ?c5; (case kA => walk_at "m frames"); (case kF => first | assumption | exact rfl); (case kK => first | assumption | exact rfl); (case k1 => k_asm); (case k2 => k_asm); (case k3 => k_asm); (case k4 => k_asm); (case k5 => k_asm); (case k6 => k_is); (case k7 => k_is); (case k8 => walk_at "m room"); (case k9 => first | exact BindsTo.of_eq rfl | exact binds_K (by k_in) rfl (by k_is) rfl rfl rfl); (case c5 => decide); (case kB => exact locs rfl); (case c2 => exact rfl); (case c3 => exact rfl); (case c4 => exact rfl); k_whole)
  intro g L' h₁ F' N' B' X' T' hg hgs
  k_fold
  have hl := list_base hl0 hg hln
  have okg := hok.keepT (keepT_of hg (fun p hp => (N p hp).1) (hok.noTup _))
  replace N' := rest_start N'
  k_steps
  rename News g L' _ _ => N9
  show Q _ _
  refine hret _ _ _ (fun b o e n => Fr.keep (by assumption) b o (hg b o e n)) (fin_stop N9 (by walk_at "m rest") hg (by walk_at "m ok") (BC.Grow.le (BC.Grow.refl _) (by omega)) ?_)
  exact ⟨_, _, _, rfl, N9.get (by k_mem)⟩

set_option maxHeartbeats 4000000 in
theorem op_rb (w : World) (sg : List Sg) (n : Nat) (wf : WF sg) (β : BA) (c : BC) (l : Addr) (vs : List Value) (i : Nat) (z : Int) (tk : Tok) (hz : z = i) (hi : i < sg.length) (hv : SgVals vs sg) (hsz : c.size + 2 * (sg.length - i) < 99000) (hx : sg[i]? = some .rb) :
  Does w 563 (n + 4) [.ref β.b, .ref l, .int z tk] (c.L w.params β) (fun h => c.Ok w h β ∧ h.IsList l vs.toArray ∧ l ∉ (c.L w.params β).map (·.1))
    (fun h h' r => ∃ c', c.Grow c' (2) ∧ Has h' (c'.L w.params β) ∧ c'.Ok w h' β ∧ RAt c'.texts c'.fns h h' r (.inr (Str.ofString "unexpected_token", i))) := by
  walk_at "m fill"
  intro p loose mean mg mb A env outer A₀ base h₀ L m s Q E B F X N T hA hf hk hd hu hh hpre hret
  obtain ⟨ah, dp, fr, gd, un⟩ := A
  obtain rfl : fr = some (env :: outer) := hA
  obtain rfl : ah = none := hh
  replace hd : dp + _ < recursionLimit := hd
  replace hu : un + _ < cLine := hu
  obtain ⟨hok, hl0, hln⟩ := hpre
  obtain ⟨tx, hx'⟩ := hv.get hx
  have hw := wf.small
  subst hz
  change vs[_]? = some (Value.str (Str.ofString "]") tx) at hx'
  refine wpAny_call ?_
  k_dflt (refine' enterD (binds := [(Str.ofString "book", .ref β.b), (Str.ofString "signs", .ref l), (Str.ofString "spot", .int i tk)]) ?k1 ?k2 ?k3 ?k4 ?k5 ?kA ?kF ?kK ?k6 ?k7 ?k8 ?k9 ?kB ?_ ?c2 ?c3 ?c4 ?c5; (case kA => walk_at "m frames"); (case kF => first | assumption | exact rfl); (case kK => first | assumption | exact rfl); (case k1 => k_asm); (case k2 => k_asm); (case k3 => k_asm); (case k4 => k_asm); (case k5 => k_asm); (case k6 => k_is); (case k7 => k_is); (case k8 => walk_at "m room"); (case k9 => first | exact BindsTo.of_eq rfl | exact binds_K (by k_in) rfl (by k_is) rfl rfl rfl); (case c5 => decide); (case kB => exact locs rfl); (case c2 => exact rfl); (case c3 => exact rfl); (case c4 => exact rfl); k_whole)
  intro g L' h₁ F' N' B' X' T' hg hgs
  k_fold
  have hl := list_base hl0 hg hln
  have okg := hok.keepT (keepT_of hg (fun p hp => (N p hp).1) (hok.noTup _))
  replace N' := rest_start N'
  k_steps
  rename News g L' _ _ => N9
  show Q _ _
  refine hret _ _ _ (fun b o e n => Fr.keep (by assumption) b o (hg b o e n)) (fin_stop N9 (by walk_at "m rest") hg (by walk_at "m ok") (BC.Grow.le (BC.Grow.refl _) (by omega)) ?_)
  exact ⟨_, _, _, rfl, N9.get (by k_mem)⟩

set_option maxHeartbeats 4000000 in
theorem op_rc (w : World) (sg : List Sg) (n : Nat) (wf : WF sg) (β : BA) (c : BC) (l : Addr) (vs : List Value) (i : Nat) (z : Int) (tk : Tok) (hz : z = i) (hi : i < sg.length) (hv : SgVals vs sg) (hsz : c.size + 2 * (sg.length - i) < 99000) (hx : sg[i]? = some .rc) :
  Does w 563 (n + 4) [.ref β.b, .ref l, .int z tk] (c.L w.params β) (fun h => c.Ok w h β ∧ h.IsList l vs.toArray ∧ l ∉ (c.L w.params β).map (·.1))
    (fun h h' r => ∃ c', c.Grow c' (2) ∧ Has h' (c'.L w.params β) ∧ c'.Ok w h' β ∧ RAt c'.texts c'.fns h h' r (.inr (Str.ofString "unexpected_token", i))) := by
  walk_at "m fill"
  intro p loose mean mg mb A env outer A₀ base h₀ L m s Q E B F X N T hA hf hk hd hu hh hpre hret
  obtain ⟨ah, dp, fr, gd, un⟩ := A
  obtain rfl : fr = some (env :: outer) := hA
  obtain rfl : ah = none := hh
  replace hd : dp + _ < recursionLimit := hd
  replace hu : un + _ < cLine := hu
  obtain ⟨hok, hl0, hln⟩ := hpre
  obtain ⟨tx, hx'⟩ := hv.get hx
  have hw := wf.small
  subst hz
  change vs[_]? = some (Value.str (Str.ofString "}") tx) at hx'
  refine wpAny_call ?_
  k_dflt (refine' enterD (binds := [(Str.ofString "book", .ref β.b), (Str.ofString "signs", .ref l), (Str.ofString "spot", .int i tk)]) ?k1 ?k2 ?k3 ?k4 ?k5 ?kA ?kF ?kK ?k6 ?k7 ?k8 ?k9 ?kB ?_ ?c2 ?c3 ?c4 ?c5; (case kA => walk_at "m frames"); (case kF => first | assumption | exact rfl); (case kK => first | assumption | exact rfl); (case k1 => k_asm); (case k2 => k_asm); (case k3 => k_asm); (case k4 => k_asm); (case k5 => k_asm); (case k6 => k_is); (case k7 => k_is); (case k8 => walk_at "m room"); (case k9 => first | exact BindsTo.of_eq rfl | exact binds_K (by k_in) rfl (by k_is) rfl rfl rfl); (case c5 => decide); (case kB => exact locs rfl); (case c2 => exact rfl); (case c3 => exact rfl); (case c4 => exact rfl); k_whole)
  intro g L' h₁ F' N' B' X' T' hg hgs
  k_fold
  have hl := list_base hl0 hg hln
  have okg := hok.keepT (keepT_of hg (fun p hp => (N p hp).1) (hok.noTup _))
  replace N' := rest_start N'
  k_steps
  rename News g L' _ _ => N9
  show Q _ _
  refine hret _ _ _ (fun b o e n => Fr.keep (by assumption) b o (hg b o e n)) (fin_stop N9 (by walk_at "m rest") hg (by walk_at "m ok") (BC.Grow.le (BC.Grow.refl _) (by omega)) ?_)
  exact ⟨_, _, _, rfl, N9.get (by k_mem)⟩

set_option maxHeartbeats 4000000 in
theorem op_cma (w : World) (sg : List Sg) (n : Nat) (wf : WF sg) (β : BA) (c : BC) (l : Addr) (vs : List Value) (i : Nat) (z : Int) (tk : Tok) (hz : z = i) (hi : i < sg.length) (hv : SgVals vs sg) (hsz : c.size + 2 * (sg.length - i) < 99000) (hx : sg[i]? = some .cma) :
  Does w 563 (n + 4) [.ref β.b, .ref l, .int z tk] (c.L w.params β) (fun h => c.Ok w h β ∧ h.IsList l vs.toArray ∧ l ∉ (c.L w.params β).map (·.1))
    (fun h h' r => ∃ c', c.Grow c' (2) ∧ Has h' (c'.L w.params β) ∧ c'.Ok w h' β ∧ RAt c'.texts c'.fns h h' r (.inr (Str.ofString "unexpected_token", i))) := by
  walk_at "m fill"
  intro p loose mean mg mb A env outer A₀ base h₀ L m s Q E B F X N T hA hf hk hd hu hh hpre hret
  obtain ⟨ah, dp, fr, gd, un⟩ := A
  obtain rfl : fr = some (env :: outer) := hA
  obtain rfl : ah = none := hh
  replace hd : dp + _ < recursionLimit := hd
  replace hu : un + _ < cLine := hu
  obtain ⟨hok, hl0, hln⟩ := hpre
  obtain ⟨tx, hx'⟩ := hv.get hx
  have hw := wf.small
  subst hz
  change vs[_]? = some (Value.str (Str.ofString ",") tx) at hx'
  refine wpAny_call ?_
  k_dflt (refine' enterD (binds := [(Str.ofString "book", .ref β.b), (Str.ofString "signs", .ref l), (Str.ofString "spot", .int i tk)]) ?k1 ?k2 ?k3 ?k4 ?k5 ?kA ?kF ?kK ?k6 ?k7 ?k8 ?k9 ?kB ?_ ?c2 ?c3 ?c4 ?c5; (case kA => walk_at "m frames"); (case kF => first | assumption | exact rfl); (case kK => first | assumption | exact rfl); (case k1 => k_asm); (case k2 => k_asm); (case k3 => k_asm); (case k4 => k_asm); (case k5 => k_asm); (case k6 => k_is); (case k7 => k_is); (case k8 => walk_at "m room"); (case k9 => first | exact BindsTo.of_eq rfl | exact binds_K (by k_in) rfl (by k_is) rfl rfl rfl); (case c5 => decide); (case kB => exact locs rfl); (case c2 => exact rfl); (case c3 => exact rfl); (case c4 => exact rfl); k_whole)
  intro g L' h₁ F' N' B' X' T' hg hgs
  k_fold
  have hl := list_base hl0 hg hln
  have okg := hok.keepT (keepT_of hg (fun p hp => (N p hp).1) (hok.noTup _))
  replace N' := rest_start N'
  k_steps
  rename News g L' _ _ => N9
  show Q _ _
  refine hret _ _ _ (fun b o e n => Fr.keep (by assumption) b o (hg b o e n)) (fin_stop N9 (by walk_at "m rest") hg (by walk_at "m ok") (BC.Grow.le (BC.Grow.refl _) (by omega)) ?_)
  exact ⟨_, _, _, rfl, N9.get (by k_mem)⟩

set_option maxHeartbeats 4000000 in
theorem op_bar (w : World) (sg : List Sg) (n : Nat) (wf : WF sg) (β : BA) (c : BC) (l : Addr) (vs : List Value) (i : Nat) (z : Int) (tk : Tok) (hz : z = i) (hi : i < sg.length) (hv : SgVals vs sg) (hsz : c.size + 2 * (sg.length - i) < 99000) (hx : sg[i]? = some .bar) :
  Does w 563 (n + 4) [.ref β.b, .ref l, .int z tk] (c.L w.params β) (fun h => c.Ok w h β ∧ h.IsList l vs.toArray ∧ l ∉ (c.L w.params β).map (·.1))
    (fun h h' r => ∃ c', c.Grow c' (2) ∧ Has h' (c'.L w.params β) ∧ c'.Ok w h' β ∧ RAt c'.texts c'.fns h h' r (.inr (Str.ofString "unexpected_token", i))) := by
  walk_at "m fill"
  intro p loose mean mg mb A env outer A₀ base h₀ L m s Q E B F X N T hA hf hk hd hu hh hpre hret
  obtain ⟨ah, dp, fr, gd, un⟩ := A
  obtain rfl : fr = some (env :: outer) := hA
  obtain rfl : ah = none := hh
  replace hd : dp + _ < recursionLimit := hd
  replace hu : un + _ < cLine := hu
  obtain ⟨hok, hl0, hln⟩ := hpre
  obtain ⟨tx, hx'⟩ := hv.get hx
  have hw := wf.small
  subst hz
  change vs[_]? = some (Value.str (Str.ofString "|") tx) at hx'
  refine wpAny_call ?_
  k_dflt (refine' enterD (binds := [(Str.ofString "book", .ref β.b), (Str.ofString "signs", .ref l), (Str.ofString "spot", .int i tk)]) ?k1 ?k2 ?k3 ?k4 ?k5 ?kA ?kF ?kK ?k6 ?k7 ?k8 ?k9 ?kB ?_ ?c2 ?c3 ?c4 ?c5; (case kA => walk_at "m frames"); (case kF => first | assumption | exact rfl); (case kK => first | assumption | exact rfl); (case k1 => k_asm); (case k2 => k_asm); (case k3 => k_asm); (case k4 => k_asm); (case k5 => k_asm); (case k6 => k_is); (case k7 => k_is); (case k8 => walk_at "m room"); (case k9 => first | exact BindsTo.of_eq rfl | exact binds_K (by k_in) rfl (by k_is) rfl rfl rfl); (case c5 => decide); (case kB => exact locs rfl); (case c2 => exact rfl); (case c3 => exact rfl); (case c4 => exact rfl); k_whole)
  intro g L' h₁ F' N' B' X' T' hg hgs
  k_fold
  have hl := list_base hl0 hg hln
  have okg := hok.keepT (keepT_of hg (fun p hp => (N p hp).1) (hok.noTup _))
  replace N' := rest_start N'
  k_steps
  rename News g L' _ _ => N9
  show Q _ _
  refine hret _ _ _ (fun b o e n => Fr.keep (by assumption) b o (hg b o e n)) (fin_stop N9 (by walk_at "m rest") hg (by walk_at "m ok") (BC.Grow.le (BC.Grow.refl _) (by omega)) ?_)
  exact ⟨_, _, _, rfl, N9.get (by k_mem)⟩

set_option maxHeartbeats 4000000 in
theorem op_dot (w : World) (sg : List Sg) (n : Nat) (wf : WF sg) (β : BA) (c : BC) (l : Addr) (vs : List Value) (i : Nat) (z : Int) (tk : Tok) (hz : z = i) (hi : i < sg.length) (hv : SgVals vs sg) (hsz : c.size + 2 * (sg.length - i) < 99000) (hx : sg[i]? = some .dot) :
  Does w 563 (n + 4) [.ref β.b, .ref l, .int z tk] (c.L w.params β) (fun h => c.Ok w h β ∧ h.IsList l vs.toArray ∧ l ∉ (c.L w.params β).map (·.1))
    (fun h h' r => ∃ c', c.Grow c' (2) ∧ Has h' (c'.L w.params β) ∧ c'.Ok w h' β ∧ RAt c'.texts c'.fns h h' r (.inr (Str.ofString "unexpected_token", i))) := by
  walk_at "m fill"
  intro p loose mean mg mb A env outer A₀ base h₀ L m s Q E B F X N T hA hf hk hd hu hh hpre hret
  obtain ⟨ah, dp, fr, gd, un⟩ := A
  obtain rfl : fr = some (env :: outer) := hA
  obtain rfl : ah = none := hh
  replace hd : dp + _ < recursionLimit := hd
  replace hu : un + _ < cLine := hu
  obtain ⟨hok, hl0, hln⟩ := hpre
  obtain ⟨tx, hx'⟩ := hv.get hx
  have hw := wf.small
  subst hz
  change vs[_]? = some (Value.str (Str.ofString ".") tx) at hx'
  refine wpAny_call ?_
  k_dflt (refine' enterD (binds := [(Str.ofString "book", .ref β.b), (Str.ofString "signs", .ref l), (Str.ofString "spot", .int i tk)]) ?k1 ?k2 ?k3 ?k4 ?k5 ?kA ?kF ?kK ?k6 ?k7 ?k8 ?k9 ?kB ?_ ?c2 ?c3 ?c4 ?c5; (case kA => walk_at "m frames"); (case kF => first | assumption | exact rfl); (case kK => first | assumption | exact rfl); (case k1 => k_asm); (case k2 => k_asm); (case k3 => k_asm); (case k4 => k_asm); (case k5 => k_asm); (case k6 => k_is); (case k7 => k_is); (case k8 => walk_at "m room"); (case k9 => first | exact BindsTo.of_eq rfl | exact binds_K (by k_in) rfl (by k_is) rfl rfl rfl); (case c5 => decide); (case kB => exact locs rfl); (case c2 => exact rfl); (case c3 => exact rfl); (case c4 => exact rfl); k_whole)
  intro g L' h₁ F' N' B' X' T' hg hgs
  k_fold
  have hl := list_base hl0 hg hln
  have okg := hok.keepT (keepT_of hg (fun p hp => (N p hp).1) (hok.noTup _))
  replace N' := rest_start N'
  k_steps
  rename News g L' _ _ => N9
  show Q _ _
  refine hret _ _ _ (fun b o e n => Fr.keep (by assumption) b o (hg b o e n)) (fin_stop N9 (by walk_at "m rest") hg (by walk_at "m ok") (BC.Grow.le (BC.Grow.refl _) (by omega)) ?_)
  exact ⟨_, _, _, rfl, N9.get (by k_mem)⟩


theorem gb_le {sg : List Sg} {i j : Nat} {r : R} (h : i ≤ j) (hr : okR sg j r) : gb sg j r + 2 * (j - i) ≤ gb sg i r := by
  rcases r with ⟨t, k⟩ | ⟨t, k⟩
  · have : j < k ∧ k < sg.length := hr
    simp only [gb]; omega
  · have : j ≤ k ∧ k < sg.length := hr
    simp only [gb]; omega
theorem stop_fin {w : World} {sg : List Sg} {g h h1 h' : Heap} {L : Addr} {news im : List (Addr × Obj)} {β : BA} {c c' : BC} {y : Sg} {os : Str} {r : Value} {j m : Nat} (N : News g L h1 news) (hr : ∀ p ∈ Rest w.params β c' im, p ∈ news)
    (hK : Keep [] h1 h') (hP : ∃ v, PairAt h1 h' r v (-1) ∧ StopAt h' v (stopKind y os) (3 * j)) (hb : ∀ a, h1.get? a = none → h.get? a = none) (hO : c'.Ok w h1 β) (hG : c.Grow c' m) (hy : sg[j]? = some y) :
    ∃ c', c.Grow c' m ∧ Has h' (c'.L w.params β) ∧ c'.Ok w h' β ∧ RAt c'.texts c'.fns h h' r (stopR sg j os) := by
  have k : KeepT h1 h' := fun b o e _ => hK b o e (by simp)
  refine ⟨c', hG, fun p hp => hK _ _ (N p (hr p (rest_bk p hp))).1 (by simp), hO.keepT k, ?_⟩
  unfold stopR
  rw [hy]
  obtain ⟨v, ⟨a, q, e, y1, y2⟩, x⟩ := hP
  exact ⟨v, ⟨a, q, e, y1, hb _ y2⟩, x⟩
theorem sg_ne {x y : Sg} (h : x ≠ y) : (x.str == y.str) = false := by
  cases x <;> cases y <;> first | exact absurd rfl h | decide +kernel
theorem sg_bne {x y : Sg} (h : x ≠ y) : (x.str != y.str) = true := by
  unfold bne; rw [sg_ne h]; rfl
theorem StopAt.keep {h h' : Heap} {v : Value} {k : Str} {n : Int} (x : StopAt h v k n) (kt : KeepT h h') : StopAt h' v k n := by
  obtain ⟨t, a, b, e, y⟩ := x
  exact ⟨t, a, b, e, kt _ _ y (isTup_of _)⟩

set_option maxHeartbeats 4000000 in
theorem op_fp (w : World) (sg : List Sg) (n : Nat) (wf : WF sg) (β : BA) (c : BC) (l : Addr) (vs : List Value) (i : Nat) (z : Int) (tk : Tok) (hz : z = i) (hi : i < sg.length) (hv : SgVals vs sg) (hn : 2 * (sg.length - i) + 1 ≤ n + 1) (hsz : c.size + 2 * (sg.length - i) < 99000) (hx : sg[i]? = some .fp) (hI : DoesIt w sg n) :
  Does w 563 (n + 4) [.ref β.b, .ref l, .int z tk] (c.L w.params β) (fun h => c.Ok w h β ∧ h.IsList l vs.toArray ∧ l ∉ (c.L w.params β).map (·.1))
    (fun h h' r => ∃ c', c.Grow c' (gb sg i (itemsS sg n (i + 1) .rp [])) ∧ Has h' (c'.L w.params β) ∧ c'.Ok w h' β ∧ RAt c'.texts c'.fns h h' r (itemsS sg n (i + 1) .rp [])) := by
  walk_at "m fill"
  intro p loose mean mg mb A env outer A₀ base h₀ L m s Q E B F X N T hA hf hk hd hu hh hpre hret
  obtain ⟨ah, dp, fr, gd, un⟩ := A
  obtain rfl : fr = some (env :: outer) := hA
  obtain rfl : ah = none := hh
  replace hd : dp + _ < recursionLimit := hd
  replace hu : un + _ < cLine := hu
  obtain ⟨hok, hl0, hln⟩ := hpre
  obtain ⟨tx, hx'⟩ := hv.get hx
  have hw := wf.small
  subst hz
  change vs[_]? = some (Value.str (Str.ofString "f(") tx) at hx'
  have hlt := wf.lt hx (by decide)
  refine wpAny_call ?_
  k_dflt (refine' enterD (binds := [(Str.ofString "book", .ref β.b), (Str.ofString "signs", .ref l), (Str.ofString "spot", .int i tk)]) ?k1 ?k2 ?k3 ?k4 ?k5 ?kA ?kF ?kK ?k6 ?k7 ?k8 ?k9 ?kB ?_ ?c2 ?c3 ?c4 ?c5; (case kA => walk_at "m frames"); (case kF => first | assumption | exact rfl); (case kK => first | assumption | exact rfl); (case k1 => k_asm); (case k2 => k_asm); (case k3 => k_asm); (case k4 => k_asm); (case k5 => k_asm); (case k6 => k_is); (case k7 => k_is); (case k8 => walk_at "m room"); (case k9 => first | exact BindsTo.of_eq rfl | exact binds_K (by k_in) rfl (by k_is) rfl rfl rfl); (case c5 => decide); (case kB => exact locs rfl); (case c2 => exact rfl); (case c3 => exact rfl); (case c4 => exact rfl); k_whole)
  intro g L' h₁ F' N' B' X' T' hg hgs
  k_fold
  have hl := list_base hl0 hg hln
  have okg := hok.keepT (keepT_of hg (fun p hp => (N p hp).1) (hok.noTup _))
  replace N' := rest_start N'
  k_steps
  have hb : ∀ a, _ → s.heap.get? a = none := fun a e => none_back (by assumption) (by assumption) hg (by walk_at "m there") e
  rename Fr g L' _ _ => F0
  k_dflt (refine' use_bk (own := []) (hI _ _ _ _ (i + 1) _ _ _ .rp _ rfl (.inl rfl) ?hz ?hlt hv ?hn ?hs) ?k1 ?k2 ?k3 ?k4 ?k5 ?kA ?kf ?kk ?kd ?ku ?kh ?ko ?kp ?kx ?_; (case k4 => k_asm); walk_at "m fin"; (case ko => walk_at "m ok"); (case kx => walk_at "m off"); (case kp => exact ⟨Fr.lst (by assumption) hl, off_base (own := []) (by assumption) hl⟩); (case hz => omega); (case hlt => omega); (case hn => omega); (case hs => omega))
  intro r h' tk' c' im' F' N' hIm hT hO hG hKT hR
  try dsimp only [List.nil_append] at N'
  show Q _ _
  have hgb := gb_le (i := i) (Nat.le_add_right i 1) ((descent_ok wf n).2.1 (i + 1) .rp [] (.inl rfl) hlt)
  exact hret _ _ _ (fun b o e n => Fr.keep (by assumption) b o (hg b o e n)) ⟨c', hG.le (by omega), fun p hp => (N' p (rest_bk p hp)).1, hO, hR.back hb⟩

set_option maxHeartbeats 4000000 in
theorem op_lb1 (w : World) (sg : List Sg) (n : Nat) (wf : WF sg) (β : BA) (c : BC) (l : Addr) (vs : List Value) (i : Nat) (z : Int) (tk : Tok) (hz : z = i) (hi : i < sg.length) (hv : SgVals vs sg) (hn : 2 * (sg.length - i) + 1 ≤ n + 1) (hsz : c.size + 2 * (sg.length - i) < 99000) (hx : sg[i]? = some .lb) (hy : sg[i + 1]? = some .rb) :
  Does w 563 (n + 4) [.ref β.b, .ref l, .int z tk] (c.L w.params β) (fun h => c.Ok w h β ∧ h.IsList l vs.toArray ∧ l ∉ (c.L w.params β).map (·.1))
    (fun h h' r => ∃ c', c.Grow c' (2) ∧ Has h' (c'.L w.params β) ∧ c'.Ok w h' β ∧ RAt c'.texts c'.fns h h' r (.inl (.nil, i + 2))) := by
  walk_at "m fill"
  intro p loose mean mg mb A env outer A₀ base h₀ L m s Q E B F X N T hA hf hk hd hu hh hpre hret
  obtain ⟨ah, dp, fr, gd, un⟩ := A
  obtain rfl : fr = some (env :: outer) := hA
  obtain rfl : ah = none := hh
  replace hd : dp + _ < recursionLimit := hd
  replace hu : un + _ < cLine := hu
  obtain ⟨hok, hl0, hln⟩ := hpre
  obtain ⟨tx, hx'⟩ := hv.get hx
  have hw := wf.small
  subst hz
  change vs[_]? = some (Value.str (Str.ofString "[") tx) at hx'
  have hlt := wf.lt hx (by decide)
  obtain ⟨ty, hy'⟩ := hv.get hy
  replace hy' : vs[((i : Int) + 1).toNat]? = _ := hy'
  change vs[_]? = some (Value.str (Str.ofString "]") ty) at hy'
  refine wpAny_call ?_
  k_dflt (refine' enterD (binds := [(Str.ofString "book", .ref β.b), (Str.ofString "signs", .ref l), (Str.ofString "spot", .int i tk)]) ?k1 ?k2 ?k3 ?k4 ?k5 ?kA ?kF ?kK ?k6 ?k7 ?k8 ?k9 ?kB ?_ ?c2 ?c3 ?c4 ?c5; (case kA => walk_at "m frames"); (case kF => first | assumption | exact rfl); (case kK => first | assumption | exact rfl); (case k1 => k_asm); (case k2 => k_asm); (case k3 => k_asm); (case k4 => k_asm); (case k5 => k_asm); (case k6 => k_is); (case k7 => k_is); (case k8 => walk_at "m room"); (case k9 => first | exact BindsTo.of_eq rfl | exact binds_K (by k_in) rfl (by k_is) rfl rfl rfl); (case c5 => decide); (case kB => exact locs rfl); (case c2 => exact rfl); (case c3 => exact rfl); (case c4 => exact rfl); k_whole)
  intro g L' h₁ F' N' B' X' T' hg hgs
  k_fold
  have hl := list_base hl0 hg hln
  have okg := hok.keepT (keepT_of hg (fun p hp => (N p hp).1) (hok.noTup _))
  replace N' := rest_start N'
  k_steps
  rename News g L' _ _ => N9
  show Q _ _
  refine hret _ _ _ (fun b o e n => Fr.keep (by assumption) b o (hg b o e n)) (fin_term N9 (by walk_at "m rest") hg (by walk_at "m ok") (BC.Grow.le (BC.Grow.refl _) (by omega)) (by omega) ?_)
  rw [TermAt]
  exact ⟨_, _, _, rfl, News.isTup N9 (by k_mem)⟩

set_option maxHeartbeats 4000000 in
theorem op_lb2 (w : World) (sg : List Sg) (n : Nat) (wf : WF sg) (β : BA) (c : BC) (l : Addr) (vs : List Value) (i : Nat) (z : Int) (tk : Tok) (hz : z = i) (hi : i < sg.length) (hv : SgVals vs sg) (hn : 2 * (sg.length - i) + 1 ≤ n + 1) (hsz : c.size + 2 * (sg.length - i) < 99000) (hx : sg[i]? = some .lb) (y : Sg) (hy : sg[i + 1]? = some y) (hyn : y ≠ .rb) (hI : DoesIt w sg n) :
  Does w 563 (n + 4) [.ref β.b, .ref l, .int z tk] (c.L w.params β) (fun h => c.Ok w h β ∧ h.IsList l vs.toArray ∧ l ∉ (c.L w.params β).map (·.1))
    (fun h h' r => ∃ c', c.Grow c' (gb sg i (itemsS sg n (i + 1) .rb [])) ∧ Has h' (c'.L w.params β) ∧ c'.Ok w h' β ∧ RAt c'.texts c'.fns h h' r (itemsS sg n (i + 1) .rb [])) := by
  walk_at "m fill"
  intro p loose mean mg mb A env outer A₀ base h₀ L m s Q E B F X N T hA hf hk hd hu hh hpre hret
  obtain ⟨ah, dp, fr, gd, un⟩ := A
  obtain rfl : fr = some (env :: outer) := hA
  obtain rfl : ah = none := hh
  replace hd : dp + _ < recursionLimit := hd
  replace hu : un + _ < cLine := hu
  obtain ⟨hok, hl0, hln⟩ := hpre
  obtain ⟨tx, hx'⟩ := hv.get hx
  have hw := wf.small
  subst hz
  change vs[_]? = some (Value.str (Str.ofString "[") tx) at hx'
  have hlt := wf.lt hx (by decide)
  obtain ⟨ty, hy'⟩ := hv.get hy
  replace hy' : vs[((i : Int) + 1).toNat]? = _ := hy'
  have hne : (y.str == Str.ofString "]") = false := sg_ne (y := .rb) hyn
  refine wpAny_call ?_
  k_dflt (refine' enterD (binds := [(Str.ofString "book", .ref β.b), (Str.ofString "signs", .ref l), (Str.ofString "spot", .int i tk)]) ?k1 ?k2 ?k3 ?k4 ?k5 ?kA ?kF ?kK ?k6 ?k7 ?k8 ?k9 ?kB ?_ ?c2 ?c3 ?c4 ?c5; (case kA => walk_at "m frames"); (case kF => first | assumption | exact rfl); (case kK => first | assumption | exact rfl); (case k1 => k_asm); (case k2 => k_asm); (case k3 => k_asm); (case k4 => k_asm); (case k5 => k_asm); (case k6 => k_is); (case k7 => k_is); (case k8 => walk_at "m room"); (case k9 => first | exact BindsTo.of_eq rfl | exact binds_K (by k_in) rfl (by k_is) rfl rfl rfl); (case c5 => decide); (case kB => exact locs rfl); (case c2 => exact rfl); (case c3 => exact rfl); (case c4 => exact rfl); k_whole)
  intro g L' h₁ F' N' B' X' T' hg hgs
  k_fold
  have hl := list_base hl0 hg hln
  have okg := hok.keepT (keepT_of hg (fun p hp => (N p hp).1) (hok.noTup _))
  replace N' := rest_start N'
  k_steps
  have hb : ∀ a, _ → s.heap.get? a = none := fun a e => none_back (by assumption) (by assumption) hg (by walk_at "m there") e
  rename Fr g L' _ _ => F0
  k_dflt (refine' use_bk (own := []) (hI _ _ _ _ (i + 1) _ _ _ .rb _ rfl (.inr rfl) ?hz ?hlt hv ?hn ?hs) ?k1 ?k2 ?k3 ?k4 ?k5 ?kA ?kf ?kk ?kd ?ku ?kh ?ko ?kp ?kx ?_; (case k4 => k_asm); walk_at "m fin"; (case ko => walk_at "m ok"); (case kx => walk_at "m off"); (case kp => exact ⟨Fr.lst (by assumption) hl, off_base (own := []) (by assumption) hl⟩); (case hz => omega); (case hlt => omega); (case hn => omega); (case hs => omega))
  intro r h' tk' c' im' F' N' hIm hT hO hG hKT hR
  try dsimp only [List.nil_append] at N'
  show Q _ _
  have hgb := gb_le (i := i) (Nat.le_add_right i 1) ((descent_ok wf n).2.1 (i + 1) .rb [] (.inr rfl) hlt)
  exact hret _ _ _ (fun b o e n => Fr.keep (by assumption) b o (hg b o e n)) ⟨c', hG.le (by omega), fun p hp => (N' p (rest_bk p hp)).1, hO, hR.back hb⟩

set_option maxHeartbeats 4000000 in
theorem op_lc1 (w : World) (sg : List Sg) (n : Nat) (wf : WF sg) (β : BA) (c : BC) (l : Addr) (vs : List Value) (i : Nat) (z : Int) (tk : Tok) (hz : z = i) (hi : i < sg.length) (hv : SgVals vs sg) (hn : 2 * (sg.length - i) + 1 ≤ n + 1) (hsz : c.size + 2 * (sg.length - i) < 99000) (hx : sg[i]? = some .lc) (hy : sg[i + 1]? = some .rc) :
  Does w 563 (n + 4) [.ref β.b, .ref l, .int z tk] (c.L w.params β) (fun h => c.Ok w h β ∧ h.IsList l vs.toArray ∧ l ∉ (c.L w.params β).map (·.1))
    (fun h h' r => ∃ c', c.Grow c' (2) ∧ Has h' (c'.L w.params β) ∧ c'.Ok w h' β ∧ RAt c'.texts c'.fns h h' r (.inl (.curl, i + 2))) := by
  walk_at "m fill"
  intro p loose mean mg mb A env outer A₀ base h₀ L m s Q E B F X N T hA hf hk hd hu hh hpre hret
  obtain ⟨ah, dp, fr, gd, un⟩ := A
  obtain rfl : fr = some (env :: outer) := hA
  obtain rfl : ah = none := hh
  replace hd : dp + _ < recursionLimit := hd
  replace hu : un + _ < cLine := hu
  obtain ⟨hok, hl0, hln⟩ := hpre
  obtain ⟨tx, hx'⟩ := hv.get hx
  have hw := wf.small
  subst hz
  change vs[_]? = some (Value.str (Str.ofString "{") tx) at hx'
  have hlt := wf.lt hx (by decide)
  obtain ⟨ty, hy'⟩ := hv.get hy
  replace hy' : vs[((i : Int) + 1).toNat]? = _ := hy'
  change vs[_]? = some (Value.str (Str.ofString "}") ty) at hy'
  refine wpAny_call ?_
  k_dflt (refine' enterD (binds := [(Str.ofString "book", .ref β.b), (Str.ofString "signs", .ref l), (Str.ofString "spot", .int i tk)]) ?k1 ?k2 ?k3 ?k4 ?k5 ?kA ?kF ?kK ?k6 ?k7 ?k8 ?k9 ?kB ?_ ?c2 ?c3 ?c4 ?c5; (case kA => walk_at "m frames"); (case kF => first | assumption | exact rfl); (case kK => first | assumption | exact rfl); (case k1 => k_asm); (case k2 => k_asm); (case k3 => k_asm); (case k4 => k_asm); (case k5 => k_asm); (case k6 => k_is); (case k7 => k_is); (case k8 => walk_at "m room"); (case k9 => first | exact BindsTo.of_eq rfl | exact binds_K (by k_in) rfl (by k_is) rfl rfl rfl); (case c5 => decide); (case kB => exact locs rfl); (case c2 => exact rfl); (case c3 => exact rfl); (case c4 => exact rfl); k_whole)
  intro g L' h₁ F' N' B' X' T' hg hgs
  k_fold
  have hl := list_base hl0 hg hln
  have okg := hok.keepT (keepT_of hg (fun p hp => (N p hp).1) (hok.noTup _))
  replace N' := rest_start N'
  k_steps
  rename News g L' _ _ => N9
  show Q _ _
  refine hret _ _ _ (fun b o e n => Fr.keep (by assumption) b o (hg b o e n)) (fin_term N9 (by walk_at "m rest") hg (by walk_at "m ok") (BC.Grow.le (BC.Grow.refl _) (by omega)) (by omega) ?_)
  rw [TermAt]
  exact ⟨_, _, _, rfl, News.isTup N9 (by k_mem)⟩

set_option maxHeartbeats 4000000 in
theorem op_lc_stop (w : World) (sg : List Sg) (n : Nat) (wf : WF sg) (β : BA) (c : BC) (l : Addr) (vs : List Value) (i : Nat) (z : Int) (tk : Tok) (hz : z = i) (hi : i < sg.length) (hv : SgVals vs sg) (hn : 2 * (sg.length - i) + 1 ≤ n + 1) (hsz : c.size + 2 * (sg.length - i) < 99000) (hx : sg[i]? = some .lc) (y : Sg) (hy : sg[i + 1]? = some y) (hyn : y ≠ .rc) (hI : DoesWh w sg n) (st : Str × Nat) (hW : wholeS sg n (i + 1) = .inr st) :
  Does w 563 (n + 4) [.ref β.b, .ref l, .int z tk] (c.L w.params β) (fun h => c.Ok w h β ∧ h.IsList l vs.toArray ∧ l ∉ (c.L w.params β).map (·.1))
    (fun h h' r => ∃ c', c.Grow c' (gb sg i (.inr st)) ∧ Has h' (c'.L w.params β) ∧ c'.Ok w h' β ∧ RAt c'.texts c'.fns h h' r (.inr st)) := by
  walk_at "m fill"
  intro p loose mean mg mb A env outer A₀ base h₀ L m s Q E B F X N T hA hf hk hd hu hh hpre hret
  obtain ⟨ah, dp, fr, gd, un⟩ := A
  obtain rfl : fr = some (env :: outer) := hA
  obtain rfl : ah = none := hh
  replace hd : dp + _ < recursionLimit := hd
  replace hu : un + _ < cLine := hu
  obtain ⟨hok, hl0, hln⟩ := hpre
  obtain ⟨tx, hx'⟩ := hv.get hx
  have hw := wf.small
  subst hz
  change vs[_]? = some (Value.str (Str.ofString "{") tx) at hx'
  have hlt := wf.lt hx (by decide)
  obtain ⟨ty, hy'⟩ := hv.get hy
  replace hy' : vs[((i : Int) + 1).toNat]? = _ := hy'
  have hne : (y.str == Str.ofString "}") = false := sg_ne (y := .rc) hyn
  have hgb := gb_le (i := i) (Nat.le_add_right i 1) ((descent_ok wf n).2.2 (i + 1) hlt)
  rw [hW] at hgb
  obtain ⟨kd, j⟩ := st
  refine wpAny_call ?_
  k_dflt (refine' enterD (binds := [(Str.ofString "book", .ref β.b), (Str.ofString "signs", .ref l), (Str.ofString "spot", .int i tk)]) ?k1 ?k2 ?k3 ?k4 ?k5 ?kA ?kF ?kK ?k6 ?k7 ?k8 ?k9 ?kB ?_ ?c2 ?c3 ?c4 ?c5; (case kA => walk_at "m frames"); (case kF => first | assumption | exact rfl); (case kK => first | assumption | exact rfl); (case k1 => k_asm); (case k2 => k_asm); (case k3 => k_asm); (case k4 => k_asm); (case k5 => k_asm); (case k6 => k_is); (case k7 => k_is); (case k8 => walk_at "m room"); (case k9 => first | exact BindsTo.of_eq rfl | exact binds_K (by k_in) rfl (by k_is) rfl rfl rfl); (case c5 => decide); (case kB => exact locs rfl); (case c2 => exact rfl); (case c3 => exact rfl); (case c4 => exact rfl); k_whole)
  intro g L' h₁ F' N' B' X' T' hg hgs
  k_fold
  have hl := list_base hl0 hg hln
  have okg := hok.keepT (keepT_of hg (fun p hp => (N p hp).1) (hok.noTup _))
  replace N' := rest_start N'
  k_steps
  have hb : ∀ a, _ → s.heap.get? a = none := fun a e => none_back (by assumption) (by assumption) hg (by walk_at "m there") e
  rename Fr g L' _ _ => F0
  k_dflt (refine' use_bk (own := [_]) (hI _ _ _ _ (i + 1) _ _ ?hz ?hlt hv ?hn ?hs) ?k1 ?k2 ?k3 ?k4 ?k5 ?kA ?kf ?kk ?kd ?ku ?kh ?ko ?kp ?kx ?_; (case k4 => k_asm); walk_at "m fin"; (case ko => walk_at "m ok"); (case kx => walk_at "m off"); (case kp => exact ⟨Fr.lst (by assumption) hl, off_base (own := [_]) (by assumption) hl⟩); (case hz => omega); (case hlt => omega); (case hn => omega); (case hs => omega))
  intro r h' tk' c' im' F' N' hIm hT hO hG hKT hR
  try dsimp only [List.nil_append] at N'
  rw [hW] at hR
  obtain ⟨tv, ⟨a, k, hr, ha, hnone⟩, ht⟩ := hR
  subst hr
  replace N' := news_add F0 N' ha hnone
  clear F0
  try dsimp only
  k_steps
  rename News g L' _ _ => N9
  show Q _ _
  rw [hW] at hG
  refine hret _ _ _ (fun b o e n => Fr.keep (by assumption) b o (hg b o e n)) (fin_stop N9 (by walk_at "m rest") hg (by walk_at "m ok") (hG.le (by omega)) (ht.keep (by walk_at "m keepT")))

set_option maxHeartbeats 4000000 in
theorem op_lc_ok (w : World) (sg : List Sg) (n : Nat) (wf : WF sg) (β : BA) (c : BC) (l : Addr) (vs : List Value) (i : Nat) (z : Int) (tk : Tok) (hz : z = i) (hi : i < sg.length) (hv : SgVals vs sg) (hn : 2 * (sg.length - i) + 1 ≤ n + 1) (hsz : c.size + 2 * (sg.length - i) < 99000) (hx : sg[i]? = some .lc) (y : Sg) (hy : sg[i + 1]? = some y) (hyn : y ≠ .rc) (hI : DoesWh w sg n) (t : T) (j : Nat) (hW : wholeS sg n (i + 1) = .inl (t, j)) (hj : sg[j]? = some .rc) :
  Does w 563 (n + 4) [.ref β.b, .ref l, .int z tk] (c.L w.params β) (fun h => c.Ok w h β ∧ h.IsList l vs.toArray ∧ l ∉ (c.L w.params β).map (·.1))
    (fun h h' r => ∃ c', c.Grow c' (gb sg i (.inl (t, j + 1))) ∧ Has h' (c'.L w.params β) ∧ c'.Ok w h' β ∧ RAt c'.texts c'.fns h h' r (.inl (.brace t, j + 1))) := by
  walk_at "m fill"
  intro p loose mean mg mb A env outer A₀ base h₀ L m s Q E B F X N T hA hf hk hd hu hh hpre hret
  obtain ⟨ah, dp, fr, gd, un⟩ := A
  obtain rfl : fr = some (env :: outer) := hA
  obtain rfl : ah = none := hh
  replace hd : dp + _ < recursionLimit := hd
  replace hu : un + _ < cLine := hu
  obtain ⟨hok, hl0, hln⟩ := hpre
  obtain ⟨tx, hx'⟩ := hv.get hx
  have hw := wf.small
  subst hz
  change vs[_]? = some (Value.str (Str.ofString "{") tx) at hx'
  have hlt := wf.lt hx (by decide)
  obtain ⟨ty, hy'⟩ := hv.get hy
  replace hy' : vs[((i : Int) + 1).toNat]? = _ := hy'
  have hne : (y.str == Str.ofString "}") = false := sg_ne (y := .rc) hyn
  have hgb := gb_le (i := i) (Nat.le_add_right i 1) ((descent_ok wf n).2.2 (i + 1) hlt)
  have hor := (descent_ok wf n).2.2 (i + 1) hlt
  rw [hW] at hgb hor
  obtain ⟨ho1, ho2⟩ : i + 1 < j ∧ j < sg.length := hor
  obtain ⟨tu, hu'⟩ := hv.get hj
  change vs[_]? = some (Value.str (Str.ofString "}") tu) at hu'
  refine wpAny_call ?_
  k_dflt (refine' enterD (binds := [(Str.ofString "book", .ref β.b), (Str.ofString "signs", .ref l), (Str.ofString "spot", .int i tk)]) ?k1 ?k2 ?k3 ?k4 ?k5 ?kA ?kF ?kK ?k6 ?k7 ?k8 ?k9 ?kB ?_ ?c2 ?c3 ?c4 ?c5; (case kA => walk_at "m frames"); (case kF => first | assumption | exact rfl); (case kK => first | assumption | exact rfl); (case k1 => k_asm); (case k2 => k_asm); (case k3 => k_asm); (case k4 => k_asm); (case k5 => k_asm); (case k6 => k_is); (case k7 => k_is); (case k8 => walk_at "m room"); (case k9 => first | exact BindsTo.of_eq rfl | exact binds_K (by k_in) rfl (by k_is) rfl rfl rfl); (case c5 => decide); (case kB => exact locs rfl); (case c2 => exact rfl); (case c3 => exact rfl); (case c4 => exact rfl); k_whole)
  intro g L' h₁ F' N' B' X' T' hg hgs
  k_fold
  have hl := list_base hl0 hg hln
  have okg := hok.keepT (keepT_of hg (fun p hp => (N p hp).1) (hok.noTup _))
  replace N' := rest_start N'
  k_steps
  have hb : ∀ a, _ → s.heap.get? a = none := fun a e => none_back (by assumption) (by assumption) hg (by walk_at "m there") e
  rename Fr g L' _ _ => F0
  k_dflt (refine' use_bk (own := [_]) (hI _ _ _ _ (i + 1) _ _ ?hz ?hlt hv ?hn ?hs) ?k1 ?k2 ?k3 ?k4 ?k5 ?kA ?kf ?kk ?kd ?ku ?kh ?ko ?kp ?kx ?_; (case k4 => k_asm); walk_at "m fin"; (case ko => walk_at "m ok"); (case kx => walk_at "m off"); (case kp => exact ⟨Fr.lst (by assumption) hl, off_base (own := [_]) (by assumption) hl⟩); (case hz => omega); (case hlt => omega); (case hn => omega); (case hs => omega))
  intro r h' tk' c' im' F' N' hIm hT hO hG hKT hR
  try dsimp only [List.nil_append] at N'
  rw [hW] at hR
  obtain ⟨tv, ⟨a, k, hr, ha, hnone⟩, ht⟩ := hR
  subst hr
  replace N' := news_add F0 N' ha hnone
  clear F0
  try dsimp only
  k_steps
  rename News g L' _ _ => N9
  show Q _ _
  rw [hW] at hG
  refine hret _ _ _ (fun b o e n => Fr.keep (by assumption) b o (hg b o e n)) (fin_term N9 (by walk_at "m rest") hg (by walk_at "m ok") (hG.le (by simp only [gb] at hgb ⊢; omega)) (by omega) ?_)
  rw [TermAt]
  exact ⟨_, _, _, _, _, rfl, News.isTup N9 (by k_mem), News.isTup N9 (by k_mem), TermAt.keep (List.prefix_refl _) (List.prefix_refl _) (by walk_at "m keepT") _ _ ht⟩

set_option maxHeartbeats 4000000 in
theorem op_lc_no (w : World) (sg : List Sg) (n : Nat) (wf : WF sg) (β : BA) (c : BC) (l : Addr) (vs : List Value) (i : Nat) (z : Int) (tk : Tok) (hz : z = i) (hi : i < sg.length) (hv : SgVals vs sg) (hn : 2 * (sg.length - i) + 1 ≤ n + 1) (hsz : c.size + 2 * (sg.length - i) < 99000) (hx : sg[i]? = some .lc) (y : Sg) (hy : sg[i + 1]? = some y) (hyn : y ≠ .rc) (hI : DoesWh w sg n) (t : T) (j : Nat) (hW : wholeS sg n (i + 1) = .inl (t, j)) (u : Sg) (hj : sg[j]? = some u) (hjn : u ≠ .rc) :
  Does w 563 (n + 4) [.ref β.b, .ref l, .int z tk] (c.L w.params β) (fun h => c.Ok w h β ∧ h.IsList l vs.toArray ∧ l ∉ (c.L w.params β).map (·.1))
    (fun h h' r => ∃ c', c.Grow c' (gb sg i (stopR sg j (Str.ofString "operator_expected"))) ∧ Has h' (c'.L w.params β) ∧ c'.Ok w h' β ∧ RAt c'.texts c'.fns h h' r (stopR sg j (Str.ofString "operator_expected"))) := by
  walk_at "m fill"
  intro p loose mean mg mb A env outer A₀ base h₀ L m s Q E B F X N T hA hf hk hd hu hh hpre hret
  obtain ⟨ah, dp, fr, gd, un⟩ := A
  obtain rfl : fr = some (env :: outer) := hA
  obtain rfl : ah = none := hh
  replace hd : dp + _ < recursionLimit := hd
  replace hu : un + _ < cLine := hu
  obtain ⟨hok, hl0, hln⟩ := hpre
  obtain ⟨tx, hx'⟩ := hv.get hx
  have hw := wf.small
  subst hz
  change vs[_]? = some (Value.str (Str.ofString "{") tx) at hx'
  have hlt := wf.lt hx (by decide)
  obtain ⟨ty, hy'⟩ := hv.get hy
  replace hy' : vs[((i : Int) + 1).toNat]? = _ := hy'
  have hne : (y.str == Str.ofString "}") = false := sg_ne (y := .rc) hyn
  have hgb := gb_le (i := i) (Nat.le_add_right i 1) ((descent_ok wf n).2.2 (i + 1) hlt)
  have hor := (descent_ok wf n).2.2 (i + 1) hlt
  rw [hW] at hgb hor
  obtain ⟨ho1, ho2⟩ : i + 1 < j ∧ j < sg.length := hor
  obtain ⟨tu, hu'⟩ := hv.get hj
  have hne2 : (u.str != Str.ofString "}") = true := sg_bne (y := .rc) hjn
  refine wpAny_call ?_
  k_dflt (refine' enterD (binds := [(Str.ofString "book", .ref β.b), (Str.ofString "signs", .ref l), (Str.ofString "spot", .int i tk)]) ?k1 ?k2 ?k3 ?k4 ?k5 ?kA ?kF ?kK ?k6 ?k7 ?k8 ?k9 ?kB ?_ ?c2 ?c3 ?c4 ?c5; (case kA => walk_at "m frames"); (case kF => first | assumption | exact rfl); (case kK => first | assumption | exact rfl); (case k1 => k_asm); (case k2 => k_asm); (case k3 => k_asm); (case k4 => k_asm); (case k5 => k_asm); (case k6 => k_is); (case k7 => k_is); (case k8 => walk_at "m room"); (case k9 => first | exact BindsTo.of_eq rfl | exact binds_K (by k_in) rfl (by k_is) rfl rfl rfl); (case c5 => decide); (case kB => exact locs rfl); (case c2 => exact rfl); (case c3 => exact rfl); (case c4 => exact rfl); k_whole)
  intro g L' h₁ F' N' B' X' T' hg hgs
  k_fold
  have hl := list_base hl0 hg hln
  have okg := hok.keepT (keepT_of hg (fun p hp => (N p hp).1) (hok.noTup _))
  replace N' := rest_start N'
  k_steps
  have hb : ∀ a, _ → s.heap.get? a = none := fun a e => none_back (by assumption) (by assumption) hg (by walk_at "m there") e
  rename Fr g L' _ _ => F0
  k_dflt (refine' use_bk (own := [_]) (hI _ _ _ _ (i + 1) _ _ ?hz ?hlt hv ?hn ?hs) ?k1 ?k2 ?k3 ?k4 ?k5 ?kA ?kf ?kk ?kd ?ku ?kh ?ko ?kp ?kx ?_; (case k4 => k_asm); walk_at "m fin"; (case ko => walk_at "m ok"); (case kx => walk_at "m off"); (case kp => exact ⟨Fr.lst (by assumption) hl, off_base (own := [_]) (by assumption) hl⟩); (case hz => omega); (case hlt => omega); (case hn => omega); (case hs => omega))
  intro r h' tk' c' im' F' N' hIm hT hO hG hKT hR
  try dsimp only [List.nil_append] at N'
  rw [hW] at hR
  obtain ⟨tv, ⟨a, k, hr, ha, hnone⟩, ht⟩ := hR
  subst hr
  replace N' := news_add F0 N' ha hnone
  clear F0
  try dsimp only
  k_steps
  have hb2 : ∀ a, _ → s.heap.get? a = none := fun a e => none_back (by assumption) (by assumption) hg (by walk_at "m there") e
  rename News g L' _ _ => N1
  k_dflt (refine' use_does (does_stop w l vs sg j _ _ _ _ (by omega) hv hj) ?k1 ?k2 ?k3 N1 ?k5 ?kA ?kf ?kk ?kd ?ku ?kh (List.forall_mem_nil _) (Fr.lst (by assumption) hl) ?_; walk_at "m fin")
  intro r h' tk' hK hP F'
  show Q _ _
  rw [hW] at hG
  have hgs : gb sg i (stopR sg j (Str.ofString "operator_expected")) = 2 * (sg.length - i) := by unfold stopR; rw [hj]; rfl
  exact hret _ _ _ (fun b o e n => hK _ _ (Fr.keep (by assumption) _ _ (hg b o e n)) (by simp)) (stop_fin N1 (by walk_at "m rest") hK hP hb2 (by walk_at "m ok") (hG.le (by rw [hgs]; simp only [gb] at hgb ⊢; omega)) hj)

set_option maxHeartbeats 4000000 in
theorem op_lp_stop (w : World) (sg : List Sg) (n : Nat) (wf : WF sg) (β : BA) (c : BC) (l : Addr) (vs : List Value) (i : Nat) (z : Int) (tk : Tok) (hz : z = i) (hi : i < sg.length) (hv : SgVals vs sg) (hn : 2 * (sg.length - i) + 1 ≤ n + 1) (hsz : c.size + 2 * (sg.length - i) < 99000) (hx : sg[i]? = some .lp) (hI : DoesWh w sg n) (st : Str × Nat) (hW : wholeS sg n (i + 1) = .inr st) :
  Does w 563 (n + 4) [.ref β.b, .ref l, .int z tk] (c.L w.params β) (fun h => c.Ok w h β ∧ h.IsList l vs.toArray ∧ l ∉ (c.L w.params β).map (·.1))
    (fun h h' r => ∃ c', c.Grow c' (gb sg i (.inr st)) ∧ Has h' (c'.L w.params β) ∧ c'.Ok w h' β ∧ RAt c'.texts c'.fns h h' r (.inr st)) := by
  walk_at "m fill"
  intro p loose mean mg mb A env outer A₀ base h₀ L m s Q E B F X N T hA hf hk hd hu hh hpre hret
  obtain ⟨ah, dp, fr, gd, un⟩ := A
  obtain rfl : fr = some (env :: outer) := hA
  obtain rfl : ah = none := hh
  replace hd : dp + _ < recursionLimit := hd
  replace hu : un + _ < cLine := hu
  obtain ⟨hok, hl0, hln⟩ := hpre
  obtain ⟨tx, hx'⟩ := hv.get hx
  have hw := wf.small
  subst hz
  change vs[_]? = some (Value.str (Str.ofString "(") tx) at hx'
  have hlt := wf.lt hx (by decide)
  have hgb := gb_le (i := i) (Nat.le_add_right i 1) ((descent_ok wf n).2.2 (i + 1) hlt)
  rw [hW] at hgb
  obtain ⟨kd, j⟩ := st
  refine wpAny_call ?_
  k_dflt (refine' enterD (binds := [(Str.ofString "book", .ref β.b), (Str.ofString "signs", .ref l), (Str.ofString "spot", .int i tk)]) ?k1 ?k2 ?k3 ?k4 ?k5 ?kA ?kF ?kK ?k6 ?k7 ?k8 ?k9 ?kB ?_ ?c2 ?c3 ?c4 ?c5; (case kA => walk_at "m frames"); (case kF => first | assumption | exact rfl); (case kK => first | assumption | exact rfl); (case k1 => k_asm); (case k2 => k_asm); (case k3 => k_asm); (case k4 => k_asm); (case k5 => k_asm); (case k6 => k_is); (case k7 => k_is); (case k8 => walk_at "m room"); (case k9 => first | exact BindsTo.of_eq rfl | exact binds_K (by k_in) rfl (by k_is) rfl rfl rfl); (case c5 => decide); (case kB => exact locs rfl); (case c2 => exact rfl); (case c3 => exact rfl); (case c4 => exact rfl); k_whole)
  intro g L' h₁ F' N' B' X' T' hg hgs
  k_fold
  have hl := list_base hl0 hg hln
  have okg := hok.keepT (keepT_of hg (fun p hp => (N p hp).1) (hok.noTup _))
  replace N' := rest_start N'
  k_steps
  have hb : ∀ a, _ → s.heap.get? a = none := fun a e => none_back (by assumption) (by assumption) hg (by walk_at "m there") e
  rename Fr g L' _ _ => F0
  k_dflt (refine' use_bk (own := [_]) (hI _ _ _ _ (i + 1) _ _ ?hz ?hlt hv ?hn ?hs) ?k1 ?k2 ?k3 ?k4 ?k5 ?kA ?kf ?kk ?kd ?ku ?kh ?ko ?kp ?kx ?_; (case k4 => k_asm); walk_at "m fin"; (case ko => walk_at "m ok"); (case kx => walk_at "m off"); (case kp => exact ⟨Fr.lst (by assumption) hl, off_base (own := [_]) (by assumption) hl⟩); (case hz => omega); (case hlt => omega); (case hn => omega); (case hs => omega))
  intro r h' tk' c' im' F' N' hIm hT hO hG hKT hR
  try dsimp only [List.nil_append] at N'
  rw [hW] at hR
  obtain ⟨tv, ⟨a, k, hr, ha, hnone⟩, ht⟩ := hR
  subst hr
  replace N' := news_add F0 N' ha hnone
  clear F0
  try dsimp only
  k_steps
  rename News g L' _ _ => N9
  show Q _ _
  rw [hW] at hG
  refine hret _ _ _ (fun b o e n => Fr.keep (by assumption) b o (hg b o e n)) (fin_stop N9 (by walk_at "m rest") hg (by walk_at "m ok") (hG.le (by omega)) (ht.keep (by walk_at "m keepT")))

set_option maxHeartbeats 4000000 in
theorem op_lp_ok (w : World) (sg : List Sg) (n : Nat) (wf : WF sg) (β : BA) (c : BC) (l : Addr) (vs : List Value) (i : Nat) (z : Int) (tk : Tok) (hz : z = i) (hi : i < sg.length) (hv : SgVals vs sg) (hn : 2 * (sg.length - i) + 1 ≤ n + 1) (hsz : c.size + 2 * (sg.length - i) < 99000) (hx : sg[i]? = some .lp) (hI : DoesWh w sg n) (t : T) (j : Nat) (hW : wholeS sg n (i + 1) = .inl (t, j)) (hj : sg[j]? = some .rp) :
  Does w 563 (n + 4) [.ref β.b, .ref l, .int z tk] (c.L w.params β) (fun h => c.Ok w h β ∧ h.IsList l vs.toArray ∧ l ∉ (c.L w.params β).map (·.1))
    (fun h h' r => ∃ c', c.Grow c' (gb sg i (.inl (t, j + 1))) ∧ Has h' (c'.L w.params β) ∧ c'.Ok w h' β ∧ RAt c'.texts c'.fns h h' r (.inl (t, j + 1))) := by
  walk_at "m fill"
  intro p loose mean mg mb A env outer A₀ base h₀ L m s Q E B F X N T hA hf hk hd hu hh hpre hret
  obtain ⟨ah, dp, fr, gd, un⟩ := A
  obtain rfl : fr = some (env :: outer) := hA
  obtain rfl : ah = none := hh
  replace hd : dp + _ < recursionLimit := hd
  replace hu : un + _ < cLine := hu
  obtain ⟨hok, hl0, hln⟩ := hpre
  obtain ⟨tx, hx'⟩ := hv.get hx
  have hw := wf.small
  subst hz
  change vs[_]? = some (Value.str (Str.ofString "(") tx) at hx'
  have hlt := wf.lt hx (by decide)
  have hgb := gb_le (i := i) (Nat.le_add_right i 1) ((descent_ok wf n).2.2 (i + 1) hlt)
  have hor := (descent_ok wf n).2.2 (i + 1) hlt
  rw [hW] at hgb hor
  obtain ⟨ho1, ho2⟩ : i + 1 < j ∧ j < sg.length := hor
  obtain ⟨tu, hu'⟩ := hv.get hj
  change vs[_]? = some (Value.str (Str.ofString ")") tu) at hu'
  refine wpAny_call ?_
  k_dflt (refine' enterD (binds := [(Str.ofString "book", .ref β.b), (Str.ofString "signs", .ref l), (Str.ofString "spot", .int i tk)]) ?k1 ?k2 ?k3 ?k4 ?k5 ?kA ?kF ?kK ?k6 ?k7 ?k8 ?k9 ?kB ?_ ?c2 ?c3 ?c4 ?c5; (case kA => walk_at "m frames"); (case kF => first | assumption | exact rfl); (case kK => first | assumption | exact rfl); (case k1 => k_asm); (case k2 => k_asm); (case k3 => k_asm); (case k4 => k_asm); (case k5 => k_asm); (case k6 => k_is); (case k7 => k_is); (case k8 => walk_at "m room"); (case k9 => first | exact BindsTo.of_eq rfl | exact binds_K (by k_in) rfl (by k_is) rfl rfl rfl); (case c5 => decide); (case kB => exact locs rfl); (case c2 => exact rfl); (case c3 => exact rfl); (case c4 => exact rfl); k_whole)
  intro g L' h₁ F' N' B' X' T' hg hgs
  k_fold
  have hl := list_base hl0 hg hln
  have okg := hok.keepT (keepT_of hg (fun p hp => (N p hp).1) (hok.noTup _))
  replace N' := rest_start N'
  k_steps
  have hb : ∀ a, _ → s.heap.get? a = none := fun a e => none_back (by assumption) (by assumption) hg (by walk_at "m there") e
  rename Fr g L' _ _ => F0
  k_dflt (refine' use_bk (own := [_]) (hI _ _ _ _ (i + 1) _ _ ?hz ?hlt hv ?hn ?hs) ?k1 ?k2 ?k3 ?k4 ?k5 ?kA ?kf ?kk ?kd ?ku ?kh ?ko ?kp ?kx ?_; (case k4 => k_asm); walk_at "m fin"; (case ko => walk_at "m ok"); (case kx => walk_at "m off"); (case kp => exact ⟨Fr.lst (by assumption) hl, off_base (own := [_]) (by assumption) hl⟩); (case hz => omega); (case hlt => omega); (case hn => omega); (case hs => omega))
  intro r h' tk' c' im' F' N' hIm hT hO hG hKT hR
  try dsimp only [List.nil_append] at N'
  rw [hW] at hR
  obtain ⟨tv, ⟨a, k, hr, ha, hnone⟩, ht⟩ := hR
  subst hr
  replace N' := news_add F0 N' ha hnone
  clear F0
  try dsimp only
  k_steps
  rename News g L' _ _ => N9
  show Q _ _
  rw [hW] at hG
  refine hret _ _ _ (fun b o e n => Fr.keep (by assumption) b o (hg b o e n)) (fin_term N9 (by walk_at "m rest") hg (by walk_at "m ok") (hG.le (by simp only [gb] at hgb ⊢; omega)) (by omega) ?_)
  exact TermAt.keep (List.prefix_refl _) (List.prefix_refl _) (by walk_at "m keepT") _ _ ht

set_option maxHeartbeats 4000000 in
theorem op_lp_no (w : World) (sg : List Sg) (n : Nat) (wf : WF sg) (β : BA) (c : BC) (l : Addr) (vs : List Value) (i : Nat) (z : Int) (tk : Tok) (hz : z = i) (hi : i < sg.length) (hv : SgVals vs sg) (hn : 2 * (sg.length - i) + 1 ≤ n + 1) (hsz : c.size + 2 * (sg.length - i) < 99000) (hx : sg[i]? = some .lp) (hI : DoesWh w sg n) (t : T) (j : Nat) (hW : wholeS sg n (i + 1) = .inl (t, j)) (u : Sg) (hj : sg[j]? = some u) (hjn : u ≠ .rp) :
  Does w 563 (n + 4) [.ref β.b, .ref l, .int z tk] (c.L w.params β) (fun h => c.Ok w h β ∧ h.IsList l vs.toArray ∧ l ∉ (c.L w.params β).map (·.1))
    (fun h h' r => ∃ c', c.Grow c' (gb sg i (stopR sg j (Str.ofString "operator_expected"))) ∧ Has h' (c'.L w.params β) ∧ c'.Ok w h' β ∧ RAt c'.texts c'.fns h h' r (stopR sg j (Str.ofString "operator_expected"))) := by
  walk_at "m fill"
  intro p loose mean mg mb A env outer A₀ base h₀ L m s Q E B F X N T hA hf hk hd hu hh hpre hret
  obtain ⟨ah, dp, fr, gd, un⟩ := A
  obtain rfl : fr = some (env :: outer) := hA
  obtain rfl : ah = none := hh
  replace hd : dp + _ < recursionLimit := hd
  replace hu : un + _ < cLine := hu
  obtain ⟨hok, hl0, hln⟩ := hpre
  obtain ⟨tx, hx'⟩ := hv.get hx
  have hw := wf.small
  subst hz
  change vs[_]? = some (Value.str (Str.ofString "(") tx) at hx'
  have hlt := wf.lt hx (by decide)
  have hgb := gb_le (i := i) (Nat.le_add_right i 1) ((descent_ok wf n).2.2 (i + 1) hlt)
  have hor := (descent_ok wf n).2.2 (i + 1) hlt
  rw [hW] at hgb hor
  obtain ⟨ho1, ho2⟩ : i + 1 < j ∧ j < sg.length := hor
  obtain ⟨tu, hu'⟩ := hv.get hj
  have hne2 : (u.str != Str.ofString ")") = true := sg_bne (y := .rp) hjn
  refine wpAny_call ?_
  k_dflt (refine' enterD (binds := [(Str.ofString "book", .ref β.b), (Str.ofString "signs", .ref l), (Str.ofString "spot", .int i tk)]) ?k1 ?k2 ?k3 ?k4 ?k5 ?kA ?kF ?kK ?k6 ?k7 ?k8 ?k9 ?kB ?_ ?c2 ?c3 ?c4 ?c5; (case kA => walk_at "m frames"); (case kF => first | assumption | exact rfl); (case kK => first | assumption | exact rfl); (case k1 => k_asm); (case k2 => k_asm); (case k3 => k_asm); (case k4 => k_asm); (case k5 => k_asm); (case k6 => k_is); (case k7 => k_is); (case k8 => walk_at "m room"); (case k9 => first | exact BindsTo.of_eq rfl | exact binds_K (by k_in) rfl (by k_is) rfl rfl rfl); (case c5 => decide); (case kB => exact locs rfl); (case c2 => exact rfl); (case c3 => exact rfl); (case c4 => exact rfl); k_whole)
  intro g L' h₁ F' N' B' X' T' hg hgs
  k_fold
  have hl := list_base hl0 hg hln
  have okg := hok.keepT (keepT_of hg (fun p hp => (N p hp).1) (hok.noTup _))
  replace N' := rest_start N'
  k_steps
  have hb : ∀ a, _ → s.heap.get? a = none := fun a e => none_back (by assumption) (by assumption) hg (by walk_at "m there") e
  rename Fr g L' _ _ => F0
  k_dflt (refine' use_bk (own := [_]) (hI _ _ _ _ (i + 1) _ _ ?hz ?hlt hv ?hn ?hs) ?k1 ?k2 ?k3 ?k4 ?k5 ?kA ?kf ?kk ?kd ?ku ?kh ?ko ?kp ?kx ?_; (case k4 => k_asm); walk_at "m fin"; (case ko => walk_at "m ok"); (case kx => walk_at "m off"); (case kp => exact ⟨Fr.lst (by assumption) hl, off_base (own := [_]) (by assumption) hl⟩); (case hz => omega); (case hlt => omega); (case hn => omega); (case hs => omega))
  intro r h' tk' c' im' F' N' hIm hT hO hG hKT hR
  try dsimp only [List.nil_append] at N'
  rw [hW] at hR
  obtain ⟨tv, ⟨a, k, hr, ha, hnone⟩, ht⟩ := hR
  subst hr
  replace N' := news_add F0 N' ha hnone
  clear F0
  try dsimp only
  k_steps
  have hb2 : ∀ a, _ → s.heap.get? a = none := fun a e => none_back (by assumption) (by assumption) hg (by walk_at "m there") e
  rename News g L' _ _ => N1
  k_dflt (refine' use_does (does_stop w l vs sg j _ _ _ _ (by omega) hv hj) ?k1 ?k2 ?k3 N1 ?k5 ?kA ?kf ?kk ?kd ?ku ?kh (List.forall_mem_nil _) (Fr.lst (by assumption) hl) ?_; walk_at "m fin")
  intro r h' tk' hK hP F'
  show Q _ _
  rw [hW] at hG
  have hgs : gb sg i (stopR sg j (Str.ofString "operator_expected")) = 2 * (sg.length - i) := by unfold stopR; rw [hj]; rfl
  exact hret _ _ _ (fun b o e n => hK _ _ (Fr.keep (by assumption) _ _ (hg b o e n)) (by simp)) (stop_fin N1 (by walk_at "m rest") hK hP hb2 (by walk_at "m ok") (hG.le (by rw [hgs]; simp only [gb] at hgb ⊢; omega)) hj)

set_option maxHeartbeats 4000000 in
theorem wh_stop (w : World) (sg : List Sg) (n : Nat) (wf : WF sg) (hO : DoesOp w sg n) (β : BA) (c : BC) (l : Addr) (vs : List Value) (i : Nat) (z : Int) (tk : Tok) (hz : z = i) (hi : i < sg.length) (hv : SgVals vs sg) (hn : 2 * (sg.length - i) + 1 ≤ n) (hsz : c.size + 2 * (sg.length - i) < 99000) (st : Str × Nat) (hW : operandS sg n i = .inr st) :
  Does w 570 (n + 4) [.ref β.b, .ref l, .int z tk] (c.L w.params β) (fun h => c.Ok w h β ∧ h.IsList l vs.toArray ∧ l ∉ (c.L w.params β).map (·.1))
    (fun h h' r => ∃ c', c.Grow c' (gb sg i (.inr st)) ∧ Has h' (c'.L w.params β) ∧ c'.Ok w h' β ∧ RAt c'.texts c'.fns h h' r (.inr st)) := by
  walk_at "m fill"
  intro p loose mean mg mb A env outer A₀ base h₀ L m s Q E B F X N T hA hf hk hd hu hh hpre hret
  obtain ⟨ah, dp, fr, gd, un⟩ := A
  obtain rfl : fr = some (env :: outer) := hA
  obtain rfl : ah = none := hh
  replace hd : dp + _ < recursionLimit := hd
  replace hu : un + _ < cLine := hu
  obtain ⟨hok, hl0, hln⟩ := hpre
  have hw := wf.small
  subst hz
  have hgb := gb_le (i := i) (Nat.le_refl i) ((descent_ok wf n).1 i hi)
  have hor := (descent_ok wf n).1 i hi
  rw [hW] at hgb hor
  obtain ⟨kd, j⟩ := st
  refine wpAny_call ?_
  k_dflt (refine' enterD (binds := [(Str.ofString "book", .ref β.b), (Str.ofString "signs", .ref l), (Str.ofString "spot", .int i tk)]) ?k1 ?k2 ?k3 ?k4 ?k5 ?kA ?kF ?kK ?k6 ?k7 ?k8 ?k9 ?kB ?_ ?c2 ?c3 ?c4 ?c5; (case kA => walk_at "m frames"); (case kF => first | assumption | exact rfl); (case kK => first | assumption | exact rfl); (case k1 => k_asm); (case k2 => k_asm); (case k3 => k_asm); (case k4 => k_asm); (case k5 => k_asm); (case k6 => k_is); (case k7 => k_is); (case k8 => walk_at "m room"); (case k9 => first | exact BindsTo.of_eq rfl | exact binds_K (by k_in) rfl (by k_is) rfl rfl rfl); (case c5 => decide); (case kB => exact locs rfl); (case c2 => exact rfl); (case c3 => exact rfl); (case c4 => exact rfl); k_whole)
  intro g L' h₁ F' N' B' X' T' hg hgs
  k_fold
  have hl := list_base hl0 hg hln
  have okg := hok.keepT (keepT_of hg (fun p hp => (N p hp).1) (hok.noTup _))
  replace N' := rest_start N'
  k_steps
  rename News g L' _ _ => N11
  repeat (replace N11 := news_tail N11)
  have hb1 : ∀ a, _ → s.heap.get? a = none := fun a e => none_back (by assumption) N11 hg (by walk_at "m there") e
  rename Fr g L' _ _ => F01
  k_dflt (refine' use_bk (own := []) (hO _ _ _ _ i _ _ ?hz ?hlt hv ?hn ?hs) ?k1 ?k2 ?k3 N11 ?k5 ?kA ?kf ?kk ?kd ?ku ?kh ?ko ?kp ?kx ?_; walk_at "m fin"; (case ko => walk_at "m ok"); (case kx => exact List.forall_mem_nil _); (case kp => exact ⟨Fr.lst (by assumption) hl, off_base (own := []) N11 hl⟩); (case hz => omega); (case hlt => omega); (case hn => omega); (case hs => omega))
  intro r1 h'1 tk'1 c'1 im'1 F' N' hIm1 hT1 hO1 hG1 hKT1 hR1
  try dsimp only [List.nil_append] at N'
  have hGs1 := BC.Grow.sz hG1
  rw [hW] at hR1 hG1 hGs1
  obtain ⟨tv1, ⟨a1, k1, hr1, ha1, hnone1⟩, ht1⟩ := hR1
  subst hr1
  replace N' := news_add F01 N' ha1 hnone1
  clear F01
  try dsimp only
  k_steps
  rename News g L' _ _ => N9
  show Q _ _
  exact hret _ _ _ (fun b o e n => Fr.keep (by assumption) b o (hg b o e n)) (fin_stop N9 (by walk_at "m rest") hg (by walk_at "m ok") (hG1.le (by omega)) (ht1.keep (by walk_at "m keepT")))

set_option maxHeartbeats 4000000 in
theorem wh_one (w : World) (sg : List Sg) (n : Nat) (wf : WF sg) (hO : DoesOp w sg n) (β : BA) (c : BC) (l : Addr) (vs : List Value) (i : Nat) (z : Int) (tk : Tok) (hz : z = i) (hi : i < sg.length) (hv : SgVals vs sg) (hn : 2 * (sg.length - i) + 1 ≤ n) (hsz : c.size + 2 * (sg.length - i) < 99000) (t : T) (j : Nat) (hW : operandS sg n i = .inl (t, j)) (u : Sg) (hj : sg[j]? = some u) (hjn : u ≠ .cma) :
  Does w 570 (n + 4) [.ref β.b, .ref l, .int z tk] (c.L w.params β) (fun h => c.Ok w h β ∧ h.IsList l vs.toArray ∧ l ∉ (c.L w.params β).map (·.1))
    (fun h h' r => ∃ c', c.Grow c' (gb sg i (.inl (t, j))) ∧ Has h' (c'.L w.params β) ∧ c'.Ok w h' β ∧ RAt c'.texts c'.fns h h' r (.inl (t, j))) := by
  walk_at "m fill"
  intro p loose mean mg mb A env outer A₀ base h₀ L m s Q E B F X N T hA hf hk hd hu hh hpre hret
  obtain ⟨ah, dp, fr, gd, un⟩ := A
  obtain rfl : fr = some (env :: outer) := hA
  obtain rfl : ah = none := hh
  replace hd : dp + _ < recursionLimit := hd
  replace hu : un + _ < cLine := hu
  obtain ⟨hok, hl0, hln⟩ := hpre
  have hw := wf.small
  subst hz
  have hgb := gb_le (i := i) (Nat.le_refl i) ((descent_ok wf n).1 i hi)
  have hor := (descent_ok wf n).1 i hi
  rw [hW] at hgb hor
  obtain ⟨ho1, ho2⟩ : i < j ∧ j < sg.length := hor
  obtain ⟨tu, hu'⟩ := hv.get hj
  have hne2 : (u.str != Str.ofString ",") = true := sg_bne (y := .cma) hjn
  refine wpAny_call ?_
  k_dflt (refine' enterD (binds := [(Str.ofString "book", .ref β.b), (Str.ofString "signs", .ref l), (Str.ofString "spot", .int i tk)]) ?k1 ?k2 ?k3 ?k4 ?k5 ?kA ?kF ?kK ?k6 ?k7 ?k8 ?k9 ?kB ?_ ?c2 ?c3 ?c4 ?c5; (case kA => walk_at "m frames"); (case kF => first | assumption | exact rfl); (case kK => first | assumption | exact rfl); (case k1 => k_asm); (case k2 => k_asm); (case k3 => k_asm); (case k4 => k_asm); (case k5 => k_asm); (case k6 => k_is); (case k7 => k_is); (case k8 => walk_at "m room"); (case k9 => first | exact BindsTo.of_eq rfl | exact binds_K (by k_in) rfl (by k_is) rfl rfl rfl); (case c5 => decide); (case kB => exact locs rfl); (case c2 => exact rfl); (case c3 => exact rfl); (case c4 => exact rfl); k_whole)
  intro g L' h₁ F' N' B' X' T' hg hgs
  k_fold
  have hl := list_base hl0 hg hln
  have okg := hok.keepT (keepT_of hg (fun p hp => (N p hp).1) (hok.noTup _))
  replace N' := rest_start N'
  k_steps
  rename News g L' _ _ => N11
  repeat (replace N11 := news_tail N11)
  have hb1 : ∀ a, _ → s.heap.get? a = none := fun a e => none_back (by assumption) N11 hg (by walk_at "m there") e
  rename Fr g L' _ _ => F01
  k_dflt (refine' use_bk (own := []) (hO _ _ _ _ i _ _ ?hz ?hlt hv ?hn ?hs) ?k1 ?k2 ?k3 N11 ?k5 ?kA ?kf ?kk ?kd ?ku ?kh ?ko ?kp ?kx ?_; walk_at "m fin"; (case ko => walk_at "m ok"); (case kx => exact List.forall_mem_nil _); (case kp => exact ⟨Fr.lst (by assumption) hl, off_base (own := []) N11 hl⟩); (case hz => omega); (case hlt => omega); (case hn => omega); (case hs => omega))
  intro r1 h'1 tk'1 c'1 im'1 F' N' hIm1 hT1 hO1 hG1 hKT1 hR1
  try dsimp only [List.nil_append] at N'
  have hGs1 := BC.Grow.sz hG1
  rw [hW] at hR1 hG1 hGs1
  obtain ⟨tv1, ⟨a1, k1, hr1, ha1, hnone1⟩, ht1⟩ := hR1
  subst hr1
  replace N' := news_add F01 N' ha1 hnone1
  clear F01
  try dsimp only
  k_steps
  rename News g L' _ _ => N9
  show Q _ _
  exact hret _ _ _ (fun b o e n => Fr.keep (by assumption) b o (hg b o e n)) (fin_term N9 (by walk_at "m rest") hg (by walk_at "m ok") (hG1.le (by omega)) (by omega) (TermAt.keep (List.prefix_refl _) (List.prefix_refl _) (by walk_at "m keepT") _ _ ht1))

set_option maxHeartbeats 4000000 in
theorem wh_two_stop (w : World) (sg : List Sg) (n : Nat) (wf : WF sg) (hO : DoesOp w sg n) (β : BA) (c : BC) (l : Addr) (vs : List Value) (i : Nat) (z : Int) (tk : Tok) (hz : z = i) (hi : i < sg.length) (hv : SgVals vs sg) (hn : 2 * (sg.length - i) + 1 ≤ n) (hsz : c.size + 2 * (sg.length - i) < 99000) (hH : DoesWh w sg n) (t : T) (j : Nat) (hW : operandS sg n i = .inl (t, j)) (hj : sg[j]? = some .cma) (st : Str × Nat) (hW2 : wholeS sg n (j + 1) = .inr st) :
  Does w 570 (n + 4) [.ref β.b, .ref l, .int z tk] (c.L w.params β) (fun h => c.Ok w h β ∧ h.IsList l vs.toArray ∧ l ∉ (c.L w.params β).map (·.1))
    (fun h h' r => ∃ c', c.Grow c' (gb sg i (.inr st)) ∧ Has h' (c'.L w.params β) ∧ c'.Ok w h' β ∧ RAt c'.texts c'.fns h h' r (.inr st)) := by
  walk_at "m fill"
  intro p loose mean mg mb A env outer A₀ base h₀ L m s Q E B F X N T hA hf hk hd hu hh hpre hret
  obtain ⟨ah, dp, fr, gd, un⟩ := A
  obtain rfl : fr = some (env :: outer) := hA
  obtain rfl : ah = none := hh
  replace hd : dp + _ < recursionLimit := hd
  replace hu : un + _ < cLine := hu
  obtain ⟨hok, hl0, hln⟩ := hpre
  have hw := wf.small
  subst hz
  have hgb := gb_le (i := i) (Nat.le_refl i) ((descent_ok wf n).1 i hi)
  have hor := (descent_ok wf n).1 i hi
  rw [hW] at hgb hor
  obtain ⟨ho1, ho2⟩ : i < j ∧ j < sg.length := hor
  obtain ⟨tu, hu'⟩ := hv.get hj
  change vs[_]? = some (Value.str (Str.ofString ",") tu) at hu'
  have hlt := wf.lt hj (by decide)
  have hgb2 := gb_le (i := i) (j := j + 1) (by omega) ((descent_ok wf n).2.2 (j + 1) hlt)
  rw [hW2] at hgb2
  obtain ⟨kd, q⟩ := st
  have hgs1 : gb sg i (.inl (t, j)) = 2 * (j - i) := rfl
  refine wpAny_call ?_
  k_dflt (refine' enterD (binds := [(Str.ofString "book", .ref β.b), (Str.ofString "signs", .ref l), (Str.ofString "spot", .int i tk)]) ?k1 ?k2 ?k3 ?k4 ?k5 ?kA ?kF ?kK ?k6 ?k7 ?k8 ?k9 ?kB ?_ ?c2 ?c3 ?c4 ?c5; (case kA => walk_at "m frames"); (case kF => first | assumption | exact rfl); (case kK => first | assumption | exact rfl); (case k1 => k_asm); (case k2 => k_asm); (case k3 => k_asm); (case k4 => k_asm); (case k5 => k_asm); (case k6 => k_is); (case k7 => k_is); (case k8 => walk_at "m room"); (case k9 => first | exact BindsTo.of_eq rfl | exact binds_K (by k_in) rfl (by k_is) rfl rfl rfl); (case c5 => decide); (case kB => exact locs rfl); (case c2 => exact rfl); (case c3 => exact rfl); (case c4 => exact rfl); k_whole)
  intro g L' h₁ F' N' B' X' T' hg hgs
  k_fold
  have hl := list_base hl0 hg hln
  have okg := hok.keepT (keepT_of hg (fun p hp => (N p hp).1) (hok.noTup _))
  replace N' := rest_start N'
  k_steps
  rename News g L' _ _ => N11
  repeat (replace N11 := news_tail N11)
  have hb1 : ∀ a, _ → s.heap.get? a = none := fun a e => none_back (by assumption) N11 hg (by walk_at "m there") e
  rename Fr g L' _ _ => F01
  k_dflt (refine' use_bk (own := []) (hO _ _ _ _ i _ _ ?hz ?hlt hv ?hn ?hs) ?k1 ?k2 ?k3 N11 ?k5 ?kA ?kf ?kk ?kd ?ku ?kh ?ko ?kp ?kx ?_; walk_at "m fin"; (case ko => walk_at "m ok"); (case kx => exact List.forall_mem_nil _); (case kp => exact ⟨Fr.lst (by assumption) hl, off_base (own := []) N11 hl⟩); (case hz => omega); (case hlt => omega); (case hn => omega); (case hs => omega))
  intro r1 h'1 tk'1 c'1 im'1 F' N' hIm1 hT1 hO1 hG1 hKT1 hR1
  try dsimp only [List.nil_append] at N'
  have hGs1 := BC.Grow.sz hG1
  rw [hW] at hR1 hG1 hGs1
  obtain ⟨tv1, ⟨a1, k1, hr1, ha1, hnone1⟩, ht1⟩ := hR1
  subst hr1
  replace N' := news_add F01 N' ha1 hnone1
  clear F01
  try dsimp only
  k_steps
  rename News g L' _ _ => N12
  repeat (replace N12 := news_tail N12)
  have hb2 : ∀ a, _ → s.heap.get? a = none := fun a e => none_back (by assumption) N12 hg (by walk_at "m there") e
  rename Fr g L' _ _ => F02
  have hkp2 := hIm1 _ _ F02 (fun p hp => (N12 p (rest_im p hp)).1)
  k_dflt (refine' use_bk (own := []) (hH _ _ _ _ (j + 1) _ _ ?hz ?hlt hv ?hn ?hs) ?k1 ?k2 ?k3 N12 ?k5 ?kA ?kf ?kk ?kd ?ku ?kh ?ko ?kp ?kx ?_; walk_at "m fin"; (case ko => walk_at "m ok"); (case kx => exact List.forall_mem_nil _); (case kp => exact ⟨Fr.lst (by assumption) hl, off_base (own := []) N12 hl⟩); (case hz => omega); (case hlt => omega); (case hn => omega); (case hs => omega))
  intro r2 h'2 tk'2 c'2 im'2 F' N' hIm2 hT2 hO2 hG2 hKT2 hR2
  try dsimp only [List.nil_append] at N'
  have hGs2 := BC.Grow.sz hG2
  rw [hW2] at hR2 hG2 hGs2
  obtain ⟨tv2, ⟨a2, k2, hr2, ha2, hnone2⟩, ht2⟩ := hR2
  subst hr2
  replace N' := news_add F02 N' ha2 hnone2
  clear F02
  try dsimp only
  k_steps
  rename News g L' _ _ => N9
  show Q _ _
  exact hret _ _ _ (fun b o e n => Fr.keep (by assumption) b o (hg b o e n)) (fin_stop N9 (by walk_at "m rest") hg (by walk_at "m ok") ((hG1.trans hG2).le (by omega)) (ht2.keep (by walk_at "m keepT")))

set_option maxHeartbeats 4000000 in
theorem wh_two (w : World) (sg : List Sg) (n : Nat) (wf : WF sg) (hO : DoesOp w sg n) (β : BA) (c : BC) (l : Addr) (vs : List Value) (i : Nat) (z : Int) (tk : Tok) (hz : z = i) (hi : i < sg.length) (hv : SgVals vs sg) (hn : 2 * (sg.length - i) + 1 ≤ n) (hsz : c.size + 2 * (sg.length - i) < 99000) (hH : DoesWh w sg n) (t : T) (j : Nat) (hW : operandS sg n i = .inl (t, j)) (hj : sg[j]? = some .cma) (u : T) (q : Nat) (hW2 : wholeS sg n (j + 1) = .inl (u, q)) :
  Does w 570 (n + 4) [.ref β.b, .ref l, .int z tk] (c.L w.params β) (fun h => c.Ok w h β ∧ h.IsList l vs.toArray ∧ l ∉ (c.L w.params β).map (·.1))
    (fun h h' r => ∃ c', c.Grow c' (gb sg i (.inl (.comma t u, q))) ∧ Has h' (c'.L w.params β) ∧ c'.Ok w h' β ∧ RAt c'.texts c'.fns h h' r (.inl (.comma t u, q))) := by
  walk_at "m fill"
  intro p loose mean mg mb A env outer A₀ base h₀ L m s Q E B F X N T hA hf hk hd hu hh hpre hret
  obtain ⟨ah, dp, fr, gd, un⟩ := A
  obtain rfl : fr = some (env :: outer) := hA
  obtain rfl : ah = none := hh
  replace hd : dp + _ < recursionLimit := hd
  replace hu : un + _ < cLine := hu
  obtain ⟨hok, hl0, hln⟩ := hpre
  have hw := wf.small
  subst hz
  have hgb := gb_le (i := i) (Nat.le_refl i) ((descent_ok wf n).1 i hi)
  have hor := (descent_ok wf n).1 i hi
  rw [hW] at hgb hor
  obtain ⟨ho1, ho2⟩ : i < j ∧ j < sg.length := hor
  obtain ⟨tu, hu'⟩ := hv.get hj
  change vs[_]? = some (Value.str (Str.ofString ",") tu) at hu'
  have hlt := wf.lt hj (by decide)
  have hgb2 := gb_le (i := i) (j := j + 1) (by omega) ((descent_ok wf n).2.2 (j + 1) hlt)
  rw [hW2] at hgb2
  have hgs1 : gb sg i (.inl (t, j)) = 2 * (j - i) := rfl
  have hgs2 : gb sg i (.inl (Mine.T.comma t u, q)) = gb sg i (.inl (u, q)) := rfl
  refine wpAny_call ?_
  k_dflt (refine' enterD (binds := [(Str.ofString "book", .ref β.b), (Str.ofString "signs", .ref l), (Str.ofString "spot", .int i tk)]) ?k1 ?k2 ?k3 ?k4 ?k5 ?kA ?kF ?kK ?k6 ?k7 ?k8 ?k9 ?kB ?_ ?c2 ?c3 ?c4 ?c5; (case kA => walk_at "m frames"); (case kF => first | assumption | exact rfl); (case kK => first | assumption | exact rfl); (case k1 => k_asm); (case k2 => k_asm); (case k3 => k_asm); (case k4 => k_asm); (case k5 => k_asm); (case k6 => k_is); (case k7 => k_is); (case k8 => walk_at "m room"); (case k9 => first | exact BindsTo.of_eq rfl | exact binds_K (by k_in) rfl (by k_is) rfl rfl rfl); (case c5 => decide); (case kB => exact locs rfl); (case c2 => exact rfl); (case c3 => exact rfl); (case c4 => exact rfl); k_whole)
  intro g L' h₁ F' N' B' X' T' hg hgs
  k_fold
  have hl := list_base hl0 hg hln
  have okg := hok.keepT (keepT_of hg (fun p hp => (N p hp).1) (hok.noTup _))
  replace N' := rest_start N'
  k_steps
  rename News g L' _ _ => N11
  repeat (replace N11 := news_tail N11)
  have hb1 : ∀ a, _ → s.heap.get? a = none := fun a e => none_back (by assumption) N11 hg (by walk_at "m there") e
  rename Fr g L' _ _ => F01
  k_dflt (refine' use_bk (own := []) (hO _ _ _ _ i _ _ ?hz ?hlt hv ?hn ?hs) ?k1 ?k2 ?k3 N11 ?k5 ?kA ?kf ?kk ?kd ?ku ?kh ?ko ?kp ?kx ?_; walk_at "m fin"; (case ko => walk_at "m ok"); (case kx => exact List.forall_mem_nil _); (case kp => exact ⟨Fr.lst (by assumption) hl, off_base (own := []) N11 hl⟩); (case hz => omega); (case hlt => omega); (case hn => omega); (case hs => omega))
  intro r1 h'1 tk'1 c'1 im'1 F' N' hIm1 hT1 hO1 hG1 hKT1 hR1
  try dsimp only [List.nil_append] at N'
  have hGs1 := BC.Grow.sz hG1
  rw [hW] at hR1 hG1 hGs1
  obtain ⟨tv1, ⟨a1, k1, hr1, ha1, hnone1⟩, ht1⟩ := hR1
  subst hr1
  replace N' := news_add F01 N' ha1 hnone1
  clear F01
  try dsimp only
  k_steps
  rename News g L' _ _ => N12
  repeat (replace N12 := news_tail N12)
  have hb2 : ∀ a, _ → s.heap.get? a = none := fun a e => none_back (by assumption) N12 hg (by walk_at "m there") e
  rename Fr g L' _ _ => F02
  have hkp2 := hIm1 _ _ F02 (fun p hp => (N12 p (rest_im p hp)).1)
  k_dflt (refine' use_bk (own := []) (hH _ _ _ _ (j + 1) _ _ ?hz ?hlt hv ?hn ?hs) ?k1 ?k2 ?k3 N12 ?k5 ?kA ?kf ?kk ?kd ?ku ?kh ?ko ?kp ?kx ?_; walk_at "m fin"; (case ko => walk_at "m ok"); (case kx => exact List.forall_mem_nil _); (case kp => exact ⟨Fr.lst (by assumption) hl, off_base (own := []) N12 hl⟩); (case hz => omega); (case hlt => omega); (case hn => omega); (case hs => omega))
  intro r2 h'2 tk'2 c'2 im'2 F' N' hIm2 hT2 hO2 hG2 hKT2 hR2
  try dsimp only [List.nil_append] at N'
  have hGs2 := BC.Grow.sz hG2
  rw [hW2] at hR2 hG2 hGs2
  obtain ⟨tv2, ⟨a2, k2, hr2, ha2, hnone2⟩, ht2⟩ := hR2
  subst hr2
  replace N' := news_add F02 N' ha2 hnone2
  clear F02
  try dsimp only
  k_steps
  rename News g L' _ _ => N9
  show Q _ _
  refine hret _ _ _ (fun b o e n => Fr.keep (by assumption) b o (hg b o e n)) (fin_term N9 (by walk_at "m rest") hg (by walk_at "m ok") ((hG1.trans hG2).le (by omega)) (by omega) ?_)
  rw [TermAt]
  have ht1' := TermAt.keep hG2.texts hG2.fns (KeepT.trans hkp2 hKT2) _ _ ht1
  exact ⟨_, _, _, _, _, _, rfl, News.isTup N9 (by k_mem), News.isTup N9 (by k_mem), TermAt.keep (List.prefix_refl _) (List.prefix_refl _) (by walk_at "m keepT") _ _ ht1', TermAt.keep (List.prefix_refl _) (List.prefix_refl _) (by walk_at "m keepT") _ _ ht2⟩


/-- a while whose turns raise nothing -/
def WStep (I : Nat → Shared → Prop) (Q : Flow → Shared → Prop) (n : Nat) (f : Flow) (s : Shared) : Prop := match f with
  | .next | .cont => ∃ m, m < n ∧ I m s
  | .brk => Q .next s
  | .ret v => Q (.ret v) s
theorem while_I {prog : Program} {w : World} {A : Around} {E : Value → Shared → Prop} {Q : Flow → Shared → Prop} {s : Shared} {env : Env} {test : Expr} {body : List Stmt} {pos : Pos} (I : Nat → Shared → Prop)
    (turn : ∀ n s, I n s → wpAny (model prog w) A (isTrue test env (eval test env)) (fun b s₂ => if b = true then wpAny (model prog w) A (execs body env) (WStep I Q n) (fun _ _ => False) s₂ else Q .next s₂) (fun _ _ => False) s)
    (n : Nat) (h : I n s) : wpAny (model prog w) A (exec (.While test body [] pos) env) Q E s := by
  refine wpAny_While (codeAny_whileLoop I (fun n s' hI => ?_) n h)
  refine wpAny_mono (turn n s' hI) (fun b s₂ h₂ => ?_) fun _ _ e => e.elim
  cases b with
  | false =>
    simp only [Bool.false_eq_true, if_false] at h₂ ⊢
    exact wpAny_execs_nil h₂
  | true =>
    simp only [if_true] at h₂ ⊢
    refine wpAny_mono h₂ (fun f s₃ h₃ => ?_) fun _ _ e => e.elim
    cases f <;> exact h₃
def WStepP (I : Nat → Shared → Prop) (P : Shared → Prop) (RQ : Value → Shared → Prop) (n : Nat) (f : Flow) (s : Shared) : Prop := match f with
  | .next | .cont => ∃ m, m < n ∧ I m s
  | .brk => P s
  | .ret v => RQ v s
theorem while_P {prog : Program} {w : World} {A : Around} {E : Value → Shared → Prop} {Q : Flow → Shared → Prop} {s : Shared} {env : Env} {test : Expr} {body : List Stmt} {pos : Pos} (P : Shared → Prop) (I : Nat → Shared → Prop)
    (turn : ∀ n s, I n s → wpAny (model prog w) A (isTrue test env (eval test env)) (fun b s₂ => if b = true then wpAny (model prog w) A (execs body env) (WStepP I P (fun v => Q (.ret v)) n) (fun _ _ => False) s₂ else P s₂) (fun _ _ => False) s)
    (aft : ∀ s, P s → Q .next s) (n : Nat) (h : I n s) : wpAny (model prog w) A (exec (.While test body [] pos) env) Q E s := by
  refine while_I I (fun n s' hI => wpAny_mono (turn n s' hI) (fun b s₂ h₂ => ?_) fun _ _ e => e) n h
  cases b with
  | false => simp only [Bool.false_eq_true, if_false] at h₂ ⊢; exact aft _ h₂
  | true =>
    simp only [if_true] at h₂ ⊢
    refine wpAny_mono h₂ (fun f s₃ h₃ => ?_) fun _ _ e => e
    cases f with
    | brk => exact aft _ h₃
    | next => exact h₃
    | cont => exact h₃
    | ret v => exact h₃

def mIt (β : BA) (l D : Addr) (x : Str) (tc : Tok) (rv : Value) (i : Nat) (t : Tok) (ov : Option Value) : Str → Option Value := fun y => if y = Str.ofString "one" then ov else
  List.lookup y [(Str.ofString "spot", .int i t), (Str.ofString "rest", rv), (Str.ofString "items", .ref D), (Str.ofString "book", .ref β.b), (Str.ofString "signs", .ref l), (Str.ofString "closing", .str x tc)]
structure ItAt (w : World) (sg : List Sg) (g : Heap) (L : Addr) (β : BA) (c0 : BC) (i0 : Nat) (l D : Addr) (rv : Value) (tc : Tok) (cl : Sg) (R0 : R) (n : Nat) (h : Heap) (i : Nat) (ts : List T) (itv : List Value) (k : Nat) (c : BC) (im : List (Addr × Obj)) (ov : Option Value) (t : Tok) : Prop where
  res : R0 = itemsS sg n i cl ts
  lo : i0 ≤ i
  hi : i < sg.length
  fuel : 2 * (sg.length - i) + 2 ≤ n
  fr : Fr g L h (mIt β l D cl.str tc rv i t ov)
  nw : News g L h ((D, listOf itv.toArray k) :: Rest w.params β c im)
  ok : c.Ok w h β
  gr : c0.Grow c (2 * (i - i0))
  tms : TermsAt c.texts c.fns h ts itv
  nl : TermAt c.texts c.fns h .nil rv
  len : itv.length ≤ i
structure ItDone (w : World) (sg : List Sg) (g : Heap) (L : Addr) (β : BA) (c0 : BC) (i0 : Nat) (l D : Addr) (tc : Tok) (cl : Sg) (R0 : R) (h : Heap) (i : Nat) (ts : List T) (r : T) (rv : Value) (itv : List Value) (k : Nat) (c : BC) (im : List (Addr × Obj)) (ov : Option Value) (t : Tok) : Prop where
  lo : i0 ≤ i
  hi : i < sg.length
  fr : Fr g L h (mIt β l D cl.str tc rv i t ov)
  nw : News g L h ((D, listOf itv.toArray k) :: Rest w.params β c im)
  ok : c.Ok w h β
  gr : c0.Grow c (2 * (i - i0))
  tms : TermsAt c.texts c.fns h ts itv
  rt : TermAt c.texts c.fns h r rv
  len : itv.length ≤ i
  r1 : cl = .rp → R0 = .inl (.f ts, i + 1)
  r2 : cl = .rb → R0 = .inl (dots ts r, i + 1)

theorem termsAt_last {tx : List Str} {fs : List (Int × Int)} {h : Heap} : ∀ {ts : List T} {vs : List Value}, TermsAt tx fs h ts vs → (ts = [] ∧ vs = []) ∨ ∃ ts0 t0 vs0 y, ts = ts0 ++ [t0] ∧ vs = vs0 ++ [y] ∧ TermsAt tx fs h ts0 vs0 ∧ TermAt tx fs h t0 y
  | [], vs, x => by rw [TermsAt] at x; exact .inl ⟨rfl, x⟩
  | t :: ts, vs, x => by
    rw [TermsAt] at x
    obtain ⟨v, rest, rfl, a, b⟩ := x
    right
    rcases termsAt_last b with ⟨rfl, rfl⟩ | ⟨ts0, t0, vs0, y, rfl, rfl, c, d⟩
    · exact ⟨[], t, [], v, rfl, rfl, by rw [TermsAt], a⟩
    · refine ⟨t :: ts0, t0, v :: vs0, y, rfl, rfl, ?_, d⟩
      rw [TermsAt]
      exact ⟨v, vs0, rfl, a, c⟩
theorem dots_last : ∀ (ts : List T) (t r : T), dots (ts ++ [t]) r = dots ts (.dot t r)
  | [], t, r => rfl
  | x :: ts, t, r => by show T.dot x (dots (ts ++ [t]) r) = T.dot x (dots ts (.dot t r)); rw [dots_last ts t r]
theorem List.toArray_append_one {α : Type} (l : List α) (x : α) : (l ++ [x]).toArray = l.toArray.push x := by simp

theorem tick10 {prog : Program} {w : World} {A : Around} {E : Value → Shared → Prop} {s : Shared} {env : Env} {Q : Flow → Shared → Prop} (h : Q .next s) : wpAny (model prog w) A (execs [] env) Q E s := by
  first | (walk1; exact h) | exact wpAny_execs_nil h
section
local macro_rules | `(tactic| k_all) => `(tactic| exact rest_off (by assumption) (by walk_at "m rest") (by k_mem) (list_noTup _ _) (by assumption) (by assumption))
local macro_rules | `(tactic| walk_at "call builtin:list.append") => `(tactic| (k_here; (with_reducible show wpAny _ _ (call (Value.builtin _) [Value.ref _, _]) _ _ _); k_dflt (refine' append_K ?k1 ?k2 ?k3 ?_ ?z; (case k1 => k_asm); (case k2 => k_asm); (case k3 => k_upd); (case z => (simp only [List.size_toArray]; rw [sizeLine_eq]; omega)); k_whole); intro h' F' N'; (try k_sweep)))

set_option maxHeartbeats 16000000 in
theorem does_items (w : World) (sg : List Sg) (n : Nat) (wf : WF sg) (hOp : ∀ m, m ≤ n → DoesOp w sg m) : DoesIt w sg (n + 1) := by
  intro β c l vs i z tkS tkC cl x hxc hcl hz hi hv hn hsz
  walk_at "m fill"
  intro p loose mean mg mb A env outer A₀ base h₀ L m s Q E B F X N T hA hf hk hd hu hh hpre hret
  obtain ⟨ah, dp, fr, gd, un⟩ := A
  obtain rfl : fr = some (env :: outer) := hA
  obtain rfl : ah = none := hh
  replace hd : dp + _ < recursionLimit := hd
  replace hu : un + _ < cLine := hu
  obtain ⟨hok, hl0, hln⟩ := hpre
  have hw := wf.small
  subst hz
  subst hxc
  refine wpAny_call ?_
  k_dflt (refine' enterD (binds := [(Str.ofString "book", .ref β.b), (Str.ofString "signs", .ref l), (Str.ofString "spot", .int i tkS), (Str.ofString "closing", .str cl.str tkC)]) ?k1 ?k2 ?k3 ?k4 ?k5 ?kA ?kF ?kK ?k6 ?k7 ?k8 ?k9 ?kB ?_ ?c2 ?c3 ?c4 ?c5; (case kA => walk_at "m frames"); (case kF => first | assumption | exact rfl); (case kK => first | assumption | exact rfl); (case k1 => k_asm); (case k2 => k_asm); (case k3 => k_asm); (case k4 => k_asm); (case k5 => k_asm); (case k6 => k_is); (case k7 => k_is); (case k8 => walk_at "m room"); (case k9 => first | exact BindsTo.of_eq rfl | exact binds_K (by k_in) rfl (by k_is) rfl rfl rfl); (case c5 => decide); (case kB => exact locs rfl); (case c2 => exact rfl); (case c3 => exact rfl); (case c4 => exact rfl); k_whole)
  intro g L' h₁ F' N' B' X' T' hg hgs
  k_fold
  generalize hRR : itemsS sg (n + 1) i cl [] = RR at hret
  have hl := list_base hl0 hg hln
  have okg := hok.keepT (keepT_of hg (fun p hp => (N p hp).1) (hok.noTup _))
  replace N' := rest_start N'
  k_steps
  rename_i D hh1 lD hh2 tk1 R0 hh3 lR hh4 F1 N1
  have hD : D ∉ (c.L w.params β).map (·.1) := off_rest (allLt_of lD)
  unfold Hold
  refine while_P (fun s' => ∃ h tk i' ts r rv itv k c' im ov t, s' = ⟨h, s.gens, s.drawn, tk, s.os⟩ ∧ ItDone w sg g L' β c i l D tkC cl RR h i' ts r rv itv k c' im ov t)
    (fun n1 s' => ∃ h tk i' ts itv k c' im ov t, s' = ⟨h, s.gens, s.drawn, tk, s.os⟩ ∧ n1 ≤ n + 1 ∧ ItAt w sg g L' β c i l D (.ref R0) tkC cl RR n1 h i' ts itv k c' im ov t) ?turn ?aft (n + 1) ⟨_, _, i, [], [], 0, c, [], none, tkS, rfl, Nat.le_refl _, ?_⟩
  rotate_left 2
  · refine ⟨hRR.symm, Nat.le_refl _, hi, hn, fr_congr F1 (fun y => ?_), news_tail N1, okg.keepT (.of_keep F1.keep), (BC.Grow.refl c).le (by omega), by rw [TermsAt], ?_, Nat.zero_le _⟩
    · unfold mIt
      simp only [lookup_if, List.reverse_cons, List.reverse_nil, List.nil_append, List.cons_append, List.lookup_nil]
      by_cases e0 : y = Str.ofString "one"
      · subst e0; rfl
      by_cases e1 : y = Str.ofString "spot"
      · subst e1; rfl
      by_cases e2 : y = Str.ofString "rest"
      · subst e2; rfl
      by_cases e3 : y = Str.ofString "items"
      · subst e3; rfl
      by_cases e4 : y = Str.ofString "book"
      · subst e4; rfl
      by_cases e5 : y = Str.ofString "signs"
      · subst e5; rfl
      by_cases e6 : y = Str.ofString "closing"
      · subst e6; rfl
      simp only [e0, e1, e2, e3, e4, e5, e6, if_false]
    · rw [TermAt]; exact ⟨_, _, _, rfl, News.isTup N1 (.head _)⟩
  · rintro n1 s' ⟨h, tk3, i', ts, itv, k, c', im, ov, t, rfl, hn1, res, lo, hi', fuel, fr, nw, ok, gr, tms, nl, len⟩
    obtain ⟨im2, nw2, hIm, hT⟩ := fresh_im (own := [_]) fr nw
    clear nw F1 N1
    obtain ⟨m, rfl⟩ : ∃ m, n1 = m + 1 := ⟨n1 - 1, by omega⟩
    have hmn : m ≤ n := by omega
    have grs := BC.Grow.sz gr
    have hor := (descent_ok wf m).1 i' hi'
    have hor2 := fun h => (descent_ok wf m).1 h
    rw [itemsS] at res
    k_steps
    rename News g L' _ _ => N11
    rename Fr g L' _ _ => F01
    have hkp1 := hIm _ _ F01 (fun p hp => (N11 p (.tail _ (rest_im p hp))).1)
    k_dflt (refine' use_bk (own := [_]) (hOp m hmn _ _ _ _ (i') _ _ ?hz ?hlt hv ?hn ?hs) ?k1 ?k2 ?k3 N11 ?k5 ?kA ?kf ?kk ?kd ?ku ?kh ?ko ?kp ?kx ?_; walk_at "m fin"; (case ko => exact ok.keepT hkp1); (case kx => (intro p hp; rw [List.mem_singleton.mp hp]; exact hD)); (case kp => exact ⟨Fr.lst F01 hl, off_base (own := [_]) N11 hl⟩); (case hz => omega); (case hlt => omega); (case hn => omega); (case hs => omega))
    intro r1 h1 tk1 c1 im1 F' N' hIm1 hT1 hO1 hG1 hKT1 hR1
    try dsimp only [List.nil_append, List.cons_append] at N'
    have hGs1 := BC.Grow.sz hG1
    rcases hW : operandS sg m i' with ⟨t', j⟩ | ⟨kd, j⟩
    · rw [hW] at hR1 hG1 hGs1 hor res
      dsimp only at res
      obtain ⟨hij, hjl⟩ : i' < j ∧ j < sg.length := hor
      simp only [gb] at hG1 hGs1
      obtain ⟨tv1, ⟨a1, k1, hr1, ha1, hnone1⟩, ht1⟩ := hR1
      subst hr1
      have hDa : @Ne Nat a1 D := fun e => by
        have q : _ = some _ := (N11 _ (.head _)).1
        dsimp only at q
        rw [← e, hnone1] at q
        cases q
      have tms1 := TermsAt.app (TermsAt.keep hG1.texts hG1.fns (hkp1.trans hKT1) _ _ tms) (TermsAt.one ht1)
      have nl1 := TermAt.keep hG1.texts hG1.fns (hkp1.trans hKT1) _ _ nl
      have gr1 := gr.trans hG1
      replace N' := news_add F01 N' ha1 hnone1
      clear F01 N11
      obtain ⟨u, hj⟩ : ∃ u, sg[j]? = some u := ⟨_, List.getElem?_eq_getElem hjl⟩
      obtain ⟨tu, hu'⟩ := hv.get hj
      try dsimp only
      by_cases hA : u = .bar ∧ cl = .rb
      · obtain ⟨rfl, rfl⟩ := hA
        rw [if_pos ⟨hj, rfl⟩] at res
        have hlt2 := wf.lt hj (by decide)
        have hor3 := hor2 (j + 1) hlt2
        k_steps
        rename News g L' _ _ => N12
        replace N12 := news_tail N12
        rename Fr g L' _ _ => F02
        have hkp2 := hIm1 _ _ F02 (fun p hp => (N12 p (.tail _ (rest_im p hp))).1)
        k_dflt (refine' use_bk (own := [_]) (hOp m hmn _ _ _ _ (j + 1) _ _ ?hz ?hlt hv ?hn ?hs) ?k1 ?k2 ?k3 N12 ?k5 ?kA ?kf ?kk ?kd ?ku ?kh ?ko ?kp ?kx ?_; walk_at "m fin"; (case ko => exact hO1.keepT hkp2); (case kx => (intro p hp; rw [List.mem_singleton.mp hp]; exact hD)); (case kp => exact ⟨Fr.lst F02 hl, off_base (own := [_]) N12 hl⟩); (case hz => omega); (case hlt => omega); (case hn => omega); (case hs => omega))
        intro r2 h2 tk2 c2 im2 F' N' hIm2 hT2 hO2 hG2 hKT2 hR2
        try dsimp only [List.nil_append, List.cons_append] at N'
        have hGs2 := BC.Grow.sz hG2
        rcases hW2 : operandS sg m (j + 1) with ⟨r, q⟩ | ⟨kd, q⟩
        · rw [hW2] at hR2 hG2 hGs2 hor3 res
          dsimp only at res
          obtain ⟨hq1, hq2⟩ : j + 1 < q ∧ q < sg.length := hor3
          simp only [gb] at hG2 hGs2
          obtain ⟨tv2, ⟨a2, k2, hr2, ha2, hnone2⟩, ht2⟩ := hR2
          subst hr2
          replace N' := news_add F02 N' ha2 hnone2
          clear F02 N12
          obtain ⟨u, hq⟩ : ∃ u, sg[q]? = some u := ⟨_, List.getElem?_eq_getElem hq2⟩
          obtain ⟨tu2, hu2'⟩ := hv.get hq
          try dsimp only
          by_cases hB : u = .rb
          · subst hB
            rw [if_pos hq] at res
            change vs[_]? = some (Value.str (Str.ofString "]") tu2) at hu2'
            k_steps
            rename News g L' _ _ => N9
            rename Fr g L' _ _ => F9
            show ∃ h tk i' ts r rv itv k c' im ov t, _
            refine ⟨_, _, q, _, r, _, itv ++ [tv1], k + 1, _, im2, some tv1, k2, rfl, ?_, ?_, fr_congr F9 (fun y => ?_), ?_, hO2.keepT (by walk_at "m keepT"), BC.Grow.le (gr1.trans hG2) ?_, TermsAt.keep hG2.texts hG2.fns (hkp2.trans (hKT2.trans (by walk_at "m keepT"))) _ _ tms1, TermAt.keep (List.prefix_refl _) (List.prefix_refl _) (by walk_at "m keepT") _ _ ht2, ?_, (fun e => nomatch e), fun _ => res⟩
            · omega
            · omega
            · unfold mIt
              simp only [lookup_if, List.reverse_cons, List.reverse_nil, List.nil_append, List.cons_append, List.lookup_nil]
              by_cases e0 : y = Str.ofString "one"
              · subst e0; rfl
              by_cases e1 : y = Str.ofString "spot"
              · subst e1; rfl
              by_cases e2 : y = Str.ofString "rest"
              · subst e2; rfl
              by_cases e3 : y = Str.ofString "items"
              · subst e3; rfl
              by_cases e4 : y = Str.ofString "book"
              · subst e4; rfl
              by_cases e5 : y = Str.ofString "signs"
              · subst e5; rfl
              by_cases e6 : y = Str.ofString "closing"
              · subst e6; rfl
              simp only [e0, e1, e2, e3, e4, e5, e6, if_false]
            · rw [List.toArray_append_one]; exact news_tail N9
            · omega
            · rw [List.length_append]; exact Nat.le_trans (Nat.succ_le_succ len) (by omega)

          · rw [if_neg (by rw [hq]; exact fun e => hB (Option.some.inj e))] at res
            have hne2 : (u.str != Str.ofString "]") = true := sg_bne (y := .rb) hB
            k_steps
            have hb2 : ∀ a, _ → s.heap.get? a = none := fun a e => none_back (by assumption) (by assumption) hg (by walk_at "m there") e
            rename News g L' _ _ => N1
            k_dflt (refine' use_does (does_stop w l vs sg q _ _ _ _ (by omega) hv hq) ?k1 ?k2 ?k3 N1 ?k5 ?kA ?kf ?kk ?kd ?ku ?kh (List.forall_mem_nil _) (Fr.lst (by assumption) hl) ?_; walk_at "m fin")
            intro r h' tk' hK hP F'
            show Q _ _
            rw [res] at hret
            have hgs : gb sg i (stopR sg q (Str.ofString "operator_expected")) = 2 * (sg.length - i) := by unfold stopR; rw [hq]; rfl
            exact hret _ _ _ (fun b o e n => hK _ _ (Fr.keep (by assumption) _ _ (hg b o e n)) (by simp)) (stop_fin N1 (by walk_at "m rest") hK hP hb2 (hO2.keepT (by walk_at "m keepT")) (BC.Grow.le (gr1.trans hG2) (by rw [hgs]; omega)) hq)

        · rw [hW2] at hR2 hG2 hGs2 hor3 res
          obtain ⟨tv2, ⟨a2, k2, hr2, ha2, hnone2⟩, ht2⟩ := hR2
          subst hr2
          replace N' := news_add F02 N' ha2 hnone2
          clear F02
          try dsimp only
          k_steps
          rename News g L' _ _ => N9
          show Q _ _
          rw [res] at hret
          exact hret _ _ _ (fun b o e n => Fr.keep (by assumption) b o (hg b o e n)) (fin_stop N9 (by walk_at "m rest") hg (hO2.keepT (by walk_at "m keepT")) ((gr1.trans hG2).le (by simp only [gb] at *; omega)) (ht2.keep (by walk_at "m keepT")))
      · rw [if_neg (by rw [hj]; exact fun e => hA ⟨Option.some.inj e.1, e.2⟩)] at res
        by_cases hB : u = cl
        · subst hB
          rw [if_pos hj] at res
          rcases hcl with rfl | rfl
          · change vs[_]? = some (Value.str (Str.ofString ")") tu) at hu'
            k_steps
            rename News g L' _ _ => N9
            rename Fr g L' _ _ => F9
            show ∃ h tk i' ts r rv itv k c' im ov t, _
            refine ⟨_, _, j, _, .nil, _, itv ++ [tv1], k + 1, _, im1, some tv1, k1, rfl, ?_, ?_, fr_congr F9 (fun y => ?_), ?_, hO1.keepT (by walk_at "m keepT"), BC.Grow.le (gr1) ?_, TermsAt.keep (List.prefix_refl _) (List.prefix_refl _) (by walk_at "m keepT") _ _ tms1, TermAt.keep (List.prefix_refl _) (List.prefix_refl _) (by walk_at "m keepT") _ _ nl1, ?_, (fun _ => res), (fun e => nomatch e)⟩
            · omega
            · omega
            · unfold mIt
              simp only [lookup_if, List.reverse_cons, List.reverse_nil, List.nil_append, List.cons_append, List.lookup_nil]
              by_cases e0 : y = Str.ofString "one"
              · subst e0; rfl
              by_cases e1 : y = Str.ofString "spot"
              · subst e1; rfl
              by_cases e2 : y = Str.ofString "rest"
              · subst e2; rfl
              by_cases e3 : y = Str.ofString "items"
              · subst e3; rfl
              by_cases e4 : y = Str.ofString "book"
              · subst e4; rfl
              by_cases e5 : y = Str.ofString "signs"
              · subst e5; rfl
              by_cases e6 : y = Str.ofString "closing"
              · subst e6; rfl
              simp only [e0, e1, e2, e3, e4, e5, e6, if_false]
            · rw [List.toArray_append_one]; exact news_tail N9
            · omega
            · rw [List.length_append]; exact Nat.le_trans (Nat.succ_le_succ len) (by omega)
          · change vs[_]? = some (Value.str (Str.ofString "]") tu) at hu'
            k_steps
            rename News g L' _ _ => N9
            rename Fr g L' _ _ => F9
            show ∃ h tk i' ts r rv itv k c' im ov t, _
            refine ⟨_, _, j, _, .nil, _, itv ++ [tv1], k + 1, _, im1, some tv1, k1, rfl, ?_, ?_, fr_congr F9 (fun y => ?_), ?_, hO1.keepT (by walk_at "m keepT"), BC.Grow.le (gr1) ?_, TermsAt.keep (List.prefix_refl _) (List.prefix_refl _) (by walk_at "m keepT") _ _ tms1, TermAt.keep (List.prefix_refl _) (List.prefix_refl _) (by walk_at "m keepT") _ _ nl1, ?_, (fun e => nomatch e), (fun _ => res)⟩
            · omega
            · omega
            · unfold mIt
              simp only [lookup_if, List.reverse_cons, List.reverse_nil, List.nil_append, List.cons_append, List.lookup_nil]
              by_cases e0 : y = Str.ofString "one"
              · subst e0; rfl
              by_cases e1 : y = Str.ofString "spot"
              · subst e1; rfl
              by_cases e2 : y = Str.ofString "rest"
              · subst e2; rfl
              by_cases e3 : y = Str.ofString "items"
              · subst e3; rfl
              by_cases e4 : y = Str.ofString "book"
              · subst e4; rfl
              by_cases e5 : y = Str.ofString "signs"
              · subst e5; rfl
              by_cases e6 : y = Str.ofString "closing"
              · subst e6; rfl
              simp only [e0, e1, e2, e3, e4, e5, e6, if_false]
            · rw [List.toArray_append_one]; exact news_tail N9
            · omega
            · rw [List.length_append]; exact Nat.le_trans (Nat.succ_le_succ len) (by omega)
        · rw [if_neg (by rw [hj]; exact fun e => hB (Option.some.inj e))] at res
          by_cases hC : u = .cma
          · subst hC
            rw [if_pos hj] at res
            rcases hcl with rfl | rfl
            · change vs[_]? = some (Value.str (Str.ofString ",") tu) at hu'
              k_steps
              rename News g L' _ _ => N9
              rename Fr g L' _ _ => F9
              show ∃ m', m' < m + 1 ∧ ∃ h tk i' ts itv k c' im ov t, _
              refine ⟨m, Nat.lt_succ_self _, _, _, j + 1, _, itv ++ [tv1], k + 1, _, im1, some tv1, tk + 1, rfl, by omega, res, ?_, ?_, ?_, fr_congr F9 (fun y => ?_), ?_, hO1.keepT (by walk_at "m keepT"), BC.Grow.le gr1 ?_, TermsAt.keep (List.prefix_refl _) (List.prefix_refl _) (by walk_at "m keepT") _ _ tms1, TermAt.keep (List.prefix_refl _) (List.prefix_refl _) (by walk_at "m keepT") _ _ nl1, ?_⟩
              · omega
              · exact wf.lt hj (by decide)
              · have := wf.lt hj (by decide); omega
              · unfold mIt
                simp only [lookup_if, List.reverse_cons, List.reverse_nil, List.nil_append, List.cons_append, List.lookup_nil]
                by_cases e0 : y = Str.ofString "spot"
                · subst e0; rfl
                by_cases e1 : y = Str.ofString "one"
                · subst e1; rfl
                by_cases e2 : y = Str.ofString "rest"
                · subst e2; rfl
                by_cases e3 : y = Str.ofString "items"
                · subst e3; rfl
                by_cases e4 : y = Str.ofString "book"
                · subst e4; rfl
                by_cases e5 : y = Str.ofString "signs"
                · subst e5; rfl
                by_cases e6 : y = Str.ofString "closing"
                · subst e6; rfl
                simp only [e0, e1, e2, e3, e4, e5, e6, if_false]
              · rw [List.toArray_append_one]; exact news_tail N9
              · omega
              · rw [List.length_append]; exact Nat.le_trans (Nat.succ_le_succ len) (by omega)
            · change vs[_]? = some (Value.str (Str.ofString ",") tu) at hu'
              k_steps
              rename News g L' _ _ => N9
              rename Fr g L' _ _ => F9
              show ∃ m', m' < m + 1 ∧ ∃ h tk i' ts itv k c' im ov t, _
              refine ⟨m, Nat.lt_succ_self _, _, _, j + 1, _, itv ++ [tv1], k + 1, _, im1, some tv1, tk + 1, rfl, by omega, res, ?_, ?_, ?_, fr_congr F9 (fun y => ?_), ?_, hO1.keepT (by walk_at "m keepT"), BC.Grow.le gr1 ?_, TermsAt.keep (List.prefix_refl _) (List.prefix_refl _) (by walk_at "m keepT") _ _ tms1, TermAt.keep (List.prefix_refl _) (List.prefix_refl _) (by walk_at "m keepT") _ _ nl1, ?_⟩
              · omega
              · exact wf.lt hj (by decide)
              · have := wf.lt hj (by decide); omega
              · unfold mIt
                simp only [lookup_if, List.reverse_cons, List.reverse_nil, List.nil_append, List.cons_append, List.lookup_nil]
                by_cases e0 : y = Str.ofString "spot"
                · subst e0; rfl
                by_cases e1 : y = Str.ofString "one"
                · subst e1; rfl
                by_cases e2 : y = Str.ofString "rest"
                · subst e2; rfl
                by_cases e3 : y = Str.ofString "items"
                · subst e3; rfl
                by_cases e4 : y = Str.ofString "book"
                · subst e4; rfl
                by_cases e5 : y = Str.ofString "signs"
                · subst e5; rfl
                by_cases e6 : y = Str.ofString "closing"
                · subst e6; rfl
                simp only [e0, e1, e2, e3, e4, e5, e6, if_false]
              · rw [List.toArray_append_one]; exact news_tail N9
              · omega
              · rw [List.length_append]; exact Nat.le_trans (Nat.succ_le_succ len) (by omega)
          · rw [if_neg (by rw [hj]; exact fun e => hC (Option.some.inj e))] at res
            rcases hcl with rfl | rfl
            · by_cases hD2 : u = .bar
              · subst hD2
                change vs[_]? = some (Value.str (Str.ofString "|") tu) at hu'
                k_steps
                have hb2 : ∀ a, _ → s.heap.get? a = none := fun a e => none_back (by assumption) (by assumption) hg (by walk_at "m there") e
                rename News g L' _ _ => N1
                k_dflt (refine' use_does (does_stop w l vs sg j _ _ _ _ (by omega) hv hj) ?k1 ?k2 ?k3 N1 ?k5 ?kA ?kf ?kk ?kd ?ku ?kh (List.forall_mem_nil _) (Fr.lst (by assumption) hl) ?_; walk_at "m fin")
                intro r h' tk' hK hP F'
                show Q _ _
                rw [res] at hret
                have hgs : gb sg i (stopR sg j (Str.ofString "operator_expected")) = 2 * (sg.length - i) := by unfold stopR; rw [hj]; rfl
                exact hret _ _ _ (fun b o e n => hK _ _ (Fr.keep (by assumption) _ _ (hg b o e n)) (by simp)) (stop_fin N1 (by walk_at "m rest") hK hP hb2 (hO1.keepT (by walk_at "m keepT")) (BC.Grow.le (gr1) (by rw [hgs]; omega)) hj)
              · have hne1 : (u.str == Str.ofString "|") = false := sg_ne (y := .bar) hD2
                have hne0 : (u.str == Sg.rp.str) = false := sg_ne (y := .rp) hB
                have hne2 : (u.str != Str.ofString ",") = true := sg_bne (y := .cma) hC
                k_steps
                have hb2 : ∀ a, _ → s.heap.get? a = none := fun a e => none_back (by assumption) (by assumption) hg (by walk_at "m there") e
                rename News g L' _ _ => N1
                k_dflt (refine' use_does (does_stop w l vs sg j _ _ _ _ (by omega) hv hj) ?k1 ?k2 ?k3 N1 ?k5 ?kA ?kf ?kk ?kd ?ku ?kh (List.forall_mem_nil _) (Fr.lst (by assumption) hl) ?_; walk_at "m fin")
                intro r h' tk' hK hP F'
                show Q _ _
                rw [res] at hret
                have hgs : gb sg i (stopR sg j (Str.ofString "operator_expected")) = 2 * (sg.length - i) := by unfold stopR; rw [hj]; rfl
                exact hret _ _ _ (fun b o e n => hK _ _ (Fr.keep (by assumption) _ _ (hg b o e n)) (by simp)) (stop_fin N1 (by walk_at "m rest") hK hP hb2 (hO1.keepT (by walk_at "m keepT")) (BC.Grow.le (gr1) (by rw [hgs]; omega)) hj)
            · have hne1 : (u.str == Str.ofString "|") = false := sg_ne (y := .bar) (fun e => hA ⟨e, rfl⟩)
              have hne0 : (u.str == Sg.rb.str) = false := sg_ne (y := .rb) hB
              have hne2 : (u.str != Str.ofString ",") = true := sg_bne (y := .cma) hC
              k_steps
              have hb2 : ∀ a, _ → s.heap.get? a = none := fun a e => none_back (by assumption) (by assumption) hg (by walk_at "m there") e
              rename News g L' _ _ => N1
              k_dflt (refine' use_does (does_stop w l vs sg j _ _ _ _ (by omega) hv hj) ?k1 ?k2 ?k3 N1 ?k5 ?kA ?kf ?kk ?kd ?ku ?kh (List.forall_mem_nil _) (Fr.lst (by assumption) hl) ?_; walk_at "m fin")
              intro r h' tk' hK hP F'
              show Q _ _
              rw [res] at hret
              have hgs : gb sg i (stopR sg j (Str.ofString "operator_expected")) = 2 * (sg.length - i) := by unfold stopR; rw [hj]; rfl
              exact hret _ _ _ (fun b o e n => hK _ _ (Fr.keep (by assumption) _ _ (hg b o e n)) (by simp)) (stop_fin N1 (by walk_at "m rest") hK hP hb2 (hO1.keepT (by walk_at "m keepT")) (BC.Grow.le (gr1) (by rw [hgs]; omega)) hj)
    · rw [hW] at hR1 hG1 hGs1 hor res
      obtain ⟨tv1, ⟨a1, k1, hr1, ha1, hnone1⟩, ht1⟩ := hR1
      subst hr1
      replace N' := news_add F01 N' ha1 hnone1
      clear F01
      try dsimp only
      k_steps
      rename News g L' _ _ => N9
      show Q _ _
      rw [res] at hret
      exact hret _ _ _ (fun b o e n => Fr.keep (by assumption) b o (hg b o e n)) (fin_stop N9 (by walk_at "m rest") hg (hO1.keepT (by walk_at "m keepT")) ((gr.trans hG1).le (by simp only [gb] at *; omega)) (ht1.keep (by walk_at "m keepT")))
  · rintro s' ⟨h, tk3, i', ts, r, rv, itv, k, c', im, ov, t, rfl, lo, hi', fr, nw, ok, gr, tms, rt, len, r1, r2⟩
    obtain ⟨im2, nw2, hIm, hT⟩ := fresh_im (own := [_]) fr nw
    clear nw F1 N1
    dsimp only [List.nil_append, List.cons_append] at nw2
    have grs := BC.Grow.sz gr
    show wpAny _ _ _ _ _ _
    rcases hcl with rfl | rfl
    · k_steps
      rename News g L' _ _ => N9
      show Q _ _
      rw [r1 rfl] at hret
      have hlen : ((itv.toArray.size : Nat) : Int) = (ts.length : Int) := by rw [List.size_toArray, tms.length]
      rename BC.Grow _ _ 2 => hG9
      rename KeepT _ _ => hKT9
      refine hret _ _ _ (fun b o e n => Fr.keep (by assumption) b o (hg b o e n)) (fin_term N9 (by walk_at "m rest") hg (by walk_at "m ok") ((gr.trans hG9).le (by simp only [gb]; omega)) (by omega) ?_)
      rename (_ : Option (Int × Int)) = some _ => hx9
      rename (_ : Option Str) = some (Str.ofString "f") => hy9
      rw [hlen] at hx9
      rw [TermAt]
      exact ⟨_, _, _, _, _, _, _, rfl, News.isTup N9 (by k_mem), News.isTup N9 (by k_mem), hx9, hy9, TermsAt.keep hG9.texts hG9.fns (hKT9.trans (by walk_at "m keepT")) _ _ tms⟩
    · k_steps
      unfold Hold
      refine while_I (fun n2 s' => ∃ h tk ts r rv itv k im, s' = ⟨h, s.gens, s.drawn, tk, s.os⟩ ∧ itv.length = n2 ∧ ItDone w sg g L' β c i l D tkC .rb RR h i' ts r rv itv k c' im ov t) ?_ itv.length ⟨_, _, ts, r, rv, itv, k, im2, rfl, rfl, lo, hi', fr, nw2, ok, gr, tms, rt, len, r1, r2⟩
      clear fr nw2 hIm hT
      rintro n2 s' ⟨h, tk4, ts, r, rv, itv, k, im, rfl, hlen2, lo, hi', fr, nw, ok, gr, tms, rt, len, r1, r2⟩
      obtain ⟨im2, nw2, hIm, hT⟩ := fresh_im (own := [_]) fr nw
      clear nw
      dsimp only [List.nil_append, List.cons_append] at nw2
      rcases termsAt_last tms with ⟨rfl, rfl⟩ | ⟨ts0, t0, itv0, y, rfl, rfl, tms0, ty⟩
      · k_steps
        rename News g L' _ _ => N9
        show Q _ _
        rw [r2 rfl] at hret
        exact hret _ _ _ (fun b o e n => Fr.keep (by assumption) b o (hg b o e n)) (fin_term N9 (by walk_at "m rest") hg (by walk_at "m ok") (gr.le (by simp only [gb]; omega)) (by omega) (TermAt.keep (List.prefix_refl _) (List.prefix_refl _) (by walk_at "m keepT") _ _ rt))
      · rw [List.length_append] at len
        k_steps
        rename News g L' _ _ => N9
        rename Fr g L' _ _ => F9
        rename_i d9 h8 l9 h9
        show ∃ m', m' < n2 ∧ ∃ h tk ts r rv itv k im, _
        refine ⟨itv0.length, ?_, _, _, ts0, .dot t0 r, .ref d9, itv0, k + 1, im2, rfl, rfl, lo, hi', fr_congr F9 (fun y => ?_), news_tail (news_tail (news_tail N9)), ok.keepT (by walk_at "m keepT"), gr, TermsAt.keep (List.prefix_refl _) (List.prefix_refl _) (by walk_at "m keepT") _ _ tms0, ?_, ?_, (fun e => nomatch e), fun e => (r2 e).trans (by rw [dots_last])⟩
        · rw [← hlen2, List.length_append]; exact Nat.lt_succ_self _
        · unfold mIt
          simp only [lookup_if, List.reverse_cons, List.reverse_nil, List.nil_append, List.cons_append, List.lookup_nil]
          by_cases e0 : y = Str.ofString "rest"
          · subst e0; rfl
          by_cases e1 : y = Str.ofString "one"
          · subst e1; rfl
          by_cases e2 : y = Str.ofString "spot"
          · subst e2; rfl
          by_cases e3 : y = Str.ofString "items"
          · subst e3; rfl
          by_cases e4 : y = Str.ofString "book"
          · subst e4; rfl
          by_cases e5 : y = Str.ofString "signs"
          · subst e5; rfl
          by_cases e6 : y = Str.ofString "closing"
          · subst e6; rfl
          simp only [e0, e1, e2, e3, e4, e5, e6, if_false]
        · rw [TermAt]
          exact ⟨_, _, _, _, _, _, rfl, News.isTup N9 (by k_mem), News.isTup N9 (by k_mem), TermAt.keep (List.prefix_refl _) (List.prefix_refl _) (by walk_at "m keepT") _ _ ty, TermAt.keep (List.prefix_refl _) (List.prefix_refl _) (by walk_at "m keepT") _ _ rt⟩
        · exact Nat.le_trans (Nat.le_add_right _ _) len
end

abbrev DPost (w : World) (β : BA) (c : BC) (k : Nat) (r : R) (h h' : Heap) (v : Value) : Prop := ∃ c', c.Grow c' k ∧ Has h' (c'.L w.params β) ∧ c'.Ok w h' β ∧ RAt c'.texts c'.fns h h' v r
theorem dpost {w : World} {β : BA} {c : BC} {k k' : Nat} {r r' : R} (e : r = r') (l : k ≤ k') : ∀ a b v, DPost w β c k r a b v → DPost w β c k' r' a b v := by
  subst e
  rintro a b v ⟨c', g, x⟩
  exact ⟨c', g.le l, x⟩

theorem op_all (w : World) (sg : List Sg) (n : Nat) (wf : WF sg) (hI : DoesIt w sg n) (hW : DoesWh w sg n) : DoesOp w sg (n + 1) := by
  intro β c l vs i z tk hz hi hv hn hsz
  obtain ⟨x, hx⟩ : ∃ x, sg[i]? = some x := ⟨_, List.getElem?_eq_getElem hi⟩
  have g1 : ∀ {r : R}, r = operandS sg (n + 1) i → ∀ {k}, k ≤ gb sg i r → k ≤ gb sg i (operandS sg (n + 1) i) := fun e _ h => e ▸ h
  have nx : ∀ y : Sg, x = y → y ≠ .dot → i + 1 < sg.length := fun y e ne => wf.lt hx (e ▸ ne)
  have stp : ∀ (k : Nat), k = 2 → k ≤ gb sg i (.inr (Str.ofString "unexpected_token", i)) := fun k e => by simp only [gb]; omega
  cases x with
  | atm => exact (op_atm w sg n wf β c l vs i z tk hz hi hv hsz hx).post (dpost (by rw [operandS, hx]) (g1 (by rw [operandS, hx]) (by simp only [gb]; omega)))
  | num => exact (op_num w sg n wf β c l vs i z tk hz hi hv hsz hx).post (dpost (by rw [operandS, hx]) (g1 (by rw [operandS, hx]) (by simp only [gb]; omega)))
  | rp => exact (op_rp w sg n wf β c l vs i z tk hz hi hv hsz hx).post (dpost (by rw [operandS, hx]) (g1 (by rw [operandS, hx]) (stp _ rfl)))
  | rb => exact (op_rb w sg n wf β c l vs i z tk hz hi hv hsz hx).post (dpost (by rw [operandS, hx]) (g1 (by rw [operandS, hx]) (stp _ rfl)))
  | rc => exact (op_rc w sg n wf β c l vs i z tk hz hi hv hsz hx).post (dpost (by rw [operandS, hx]) (g1 (by rw [operandS, hx]) (stp _ rfl)))
  | cma => exact (op_cma w sg n wf β c l vs i z tk hz hi hv hsz hx).post (dpost (by rw [operandS, hx]) (g1 (by rw [operandS, hx]) (stp _ rfl)))
  | bar => exact (op_bar w sg n wf β c l vs i z tk hz hi hv hsz hx).post (dpost (by rw [operandS, hx]) (g1 (by rw [operandS, hx]) (stp _ rfl)))
  | dot => exact (op_dot w sg n wf β c l vs i z tk hz hi hv hsz hx).post (dpost (by rw [operandS, hx]) (g1 (by rw [operandS, hx]) (stp _ rfl)))
  | fp => exact (op_fp w sg n wf β c l vs i z tk hz hi hv hn hsz hx hI).post (dpost (by rw [operandS, hx]) (g1 (by rw [operandS, hx]) (Nat.le_refl _)))
  | lb =>
    obtain ⟨y, hy⟩ : ∃ y, sg[i + 1]? = some y := ⟨_, List.getElem?_eq_getElem (nx _ rfl (by decide))⟩
    by_cases e : y = .rb
    · subst e
      exact (op_lb1 w sg n wf β c l vs i z tk hz hi hv hn hsz hx hy).post (dpost (by rw [operandS, hx]; dsimp only; rw [if_pos hy]) (g1 (r := .inl (.nil, i + 2)) (by rw [operandS, hx]; dsimp only; rw [if_pos hy]) (by simp only [gb]; omega)))
    · have ne : ¬ sg[i + 1]? = some .rb := fun q => e (Option.some.inj (hy.symm.trans q))
      exact (op_lb2 w sg n wf β c l vs i z tk hz hi hv hn hsz hx y hy e hI).post (dpost (by rw [operandS, hx]; dsimp only; rw [if_neg ne]) (g1 (by rw [operandS, hx]; dsimp only; rw [if_neg ne]) (Nat.le_refl _)))
  | lc =>
    obtain ⟨y, hy⟩ : ∃ y, sg[i + 1]? = some y := ⟨_, List.getElem?_eq_getElem (nx _ rfl (by decide))⟩
    by_cases e : y = .rc
    · subst e
      exact (op_lc1 w sg n wf β c l vs i z tk hz hi hv hn hsz hx hy).post (dpost (by rw [operandS, hx]; dsimp only; rw [if_pos hy]) (g1 (r := .inl (.curl, i + 2)) (by rw [operandS, hx]; dsimp only; rw [if_pos hy]) (by simp only [gb]; omega)))
    · have ne : ¬ sg[i + 1]? = some .rc := fun q => e (Option.some.inj (hy.symm.trans q))
      rcases hq : wholeS sg n (i + 1) with ⟨t, j⟩ | st
      · have ok := (descent_ok wf n).2.2 (i + 1) (nx _ rfl (by decide))
        rw [hq] at ok
        obtain ⟨a, b⟩ : i + 1 < j ∧ j < sg.length := ok
        obtain ⟨u, hu⟩ : ∃ u, sg[j]? = some u := ⟨_, List.getElem?_eq_getElem b⟩
        by_cases e2 : u = .rc
        · subst e2
          exact (op_lc_ok w sg n wf β c l vs i z tk hz hi hv hn hsz hx y hy e hW t j hq hu).post (dpost (by rw [operandS, hx]; dsimp only; rw [if_neg ne, hq]; dsimp only; rw [if_pos hu]) (g1 (r := .inl (.brace t, j + 1)) (by rw [operandS, hx]; dsimp only; rw [if_neg ne, hq]; dsimp only; rw [if_pos hu]) (Nat.le_refl _)))
        · have ne2 : ¬ sg[j]? = some .rc := fun q => e2 (Option.some.inj (hu.symm.trans q))
          exact (op_lc_no w sg n wf β c l vs i z tk hz hi hv hn hsz hx y hy e hW t j hq u hu e2).post (dpost (by rw [operandS, hx]; dsimp only; rw [if_neg ne, hq]; dsimp only; rw [if_neg ne2]) (g1 (by rw [operandS, hx]; dsimp only; rw [if_neg ne, hq]; dsimp only; rw [if_neg ne2]) (Nat.le_refl _)))
      · exact (op_lc_stop w sg n wf β c l vs i z tk hz hi hv hn hsz hx y hy e hW st hq).post (dpost (by rw [operandS, hx]; dsimp only; rw [if_neg ne, hq]) (g1 (by rw [operandS, hx]; dsimp only; rw [if_neg ne, hq]) (Nat.le_refl _)))
  | lp =>
      rcases hq : wholeS sg n (i + 1) with ⟨t, j⟩ | st
      · have ok := (descent_ok wf n).2.2 (i + 1) (nx _ rfl (by decide))
        rw [hq] at ok
        obtain ⟨a, b⟩ : i + 1 < j ∧ j < sg.length := ok
        obtain ⟨u, hu⟩ : ∃ u, sg[j]? = some u := ⟨_, List.getElem?_eq_getElem b⟩
        by_cases e2 : u = .rp
        · subst e2
          exact (op_lp_ok w sg n wf β c l vs i z tk hz hi hv hn hsz hx hW t j hq hu).post (dpost (by rw [operandS, hx]; dsimp only; rw [hq]; dsimp only; rw [if_pos hu]) (g1 (r := .inl (t, j + 1)) (by rw [operandS, hx]; dsimp only; rw [hq]; dsimp only; rw [if_pos hu]) (Nat.le_refl _)))
        · have ne2 : ¬ sg[j]? = some .rp := fun q => e2 (Option.some.inj (hu.symm.trans q))
          exact (op_lp_no w sg n wf β c l vs i z tk hz hi hv hn hsz hx hW t j hq u hu e2).post (dpost (by rw [operandS, hx]; dsimp only; rw [hq]; dsimp only; rw [if_neg ne2]) (g1 (by rw [operandS, hx]; dsimp only; rw [hq]; dsimp only; rw [if_neg ne2]) (Nat.le_refl _)))
      · exact (op_lp_stop w sg n wf β c l vs i z tk hz hi hv hn hsz hx hW st hq).post (dpost (by rw [operandS, hx]; dsimp only; rw [hq]) (g1 (by rw [operandS, hx]; dsimp only; rw [hq]) (Nat.le_refl _)))

theorem wh_all (w : World) (sg : List Sg) (n : Nat) (wf : WF sg) (hO : DoesOp w sg n) (hW : DoesWh w sg n) : DoesWh w sg (n + 1) := by
  intro β c l vs i z tk hz hi hv hn hsz
  have hn' : 2 * (sg.length - i) + 1 ≤ n := by omega
  have g1 : ∀ {r : R}, r = wholeS sg (n + 1) i → ∀ {k}, k ≤ gb sg i r → k ≤ gb sg i (wholeS sg (n + 1) i) := fun e _ h => e ▸ h
  rcases hq : operandS sg n i with ⟨t, j⟩ | st
  · have ok := (descent_ok wf n).1 i hi
    rw [hq] at ok
    obtain ⟨a, b⟩ : i < j ∧ j < sg.length := ok
    obtain ⟨u, hu⟩ : ∃ u, sg[j]? = some u := ⟨_, List.getElem?_eq_getElem b⟩
    by_cases e : u = .cma
    · subst e
      rcases hq2 : wholeS sg n (j + 1) with ⟨t2, q⟩ | st
      · exact (wh_two w sg n wf hO β c l vs i z tk hz hi hv hn' hsz hW t j hq hu t2 q hq2).post (dpost (by rw [wholeS, hq]; dsimp only; rw [if_pos hu, hq2]) (g1 (by rw [wholeS, hq]; dsimp only; rw [if_pos hu, hq2]) (Nat.le_refl _)))
      · exact (wh_two_stop w sg n wf hO β c l vs i z tk hz hi hv hn' hsz hW t j hq hu st hq2).post (dpost (by rw [wholeS, hq]; dsimp only; rw [if_pos hu, hq2]) (g1 (by rw [wholeS, hq]; dsimp only; rw [if_pos hu, hq2]) (Nat.le_refl _)))
    · have ne : ¬ sg[j]? = some .cma := fun q => e (Option.some.inj (hu.symm.trans q))
      exact (wh_one w sg n wf hO β c l vs i z tk hz hi hv hn' hsz t j hq u hu e).post (dpost (by rw [wholeS, hq]; dsimp only; rw [if_neg ne]) (g1 (by rw [wholeS, hq]; dsimp only; rw [if_neg ne]) (Nat.le_refl _)))
  · exact (wh_stop w sg n wf hO β c l vs i z tk hz hi hv hn' hsz st hq).post (dpost (by rw [wholeS, hq]) (g1 (by rw [wholeS, hq]) (Nat.le_refl _)))

theorem descent_does (w : World) (sg : List Sg) (wf : WF sg) : ∀ n : Nat, (∀ m, m ≤ n → DoesOp w sg m) ∧ DoesIt w sg n ∧ DoesWh w sg n
  | 0 => by
    refine ⟨fun m hm => ?_, ?_, ?_⟩
    · obtain rfl : m = 0 := Nat.le_zero.mp hm
      intro β c l vs i z tk hz hi hv hn; omega
    · intro β c l vs i z tk tk' cl x hx hcl hz hi hv hn; omega
    · intro β c l vs i z tk hz hi hv hn; omega
  | n + 1 => by
    obtain ⟨h1, h2, h3⟩ := descent_does w sg wf n
    refine ⟨fun m hm => ?_, does_items w sg n wf h1, wh_all w sg n wf (h1 n (Nat.le_refl _)) h3⟩
    rcases Nat.lt_or_ge n m with h | h
    · obtain rfl : m = n + 1 := by omega
      exact op_all w sg n wf h2 h3
    · exact h1 m h

def FStepP (I : Nat → Shared → Prop) (P : Shared → Prop) (RQ : Value → Shared → Prop) (n : Nat) (f : Flow) (s : Shared) : Prop := match f with
  | .next | .cont => ∃ m, m < n ∧ I m s
  | .brk => P s
  | .ret v => RQ v s
theorem for_P {prog : Program} {w : World} {A : Around} {Q : Flow → Shared → Prop} {Er : PySem.Value → Shared → Prop} {s : Shared} {env : Env} {x : Str} {px : Pos} {it : Value} {body : List Stmt} (P : Shared → Prop) (I : Nat → Shared → Prop)
    (turn : ∀ n s, I n s → wpAny (model prog w) A (pyNext it) (fun r s₁ => match r with
      | none => P s₁
      | some v => wpAny (model prog w) A (storeName env x v) (fun _ s₂ => wpAny (model prog w) A (execs body env) (FStepP I P (fun v => Q (.ret v)) n) (fun _ _ => False) s₂) (fun _ _ => False) s₁) (fun _ _ => False) s)
    (aft : ∀ s, P s → Q .next s) (n : Nat) (h : I n s) : codeAny (model prog w) A (.forLoop (.Name x px) it body [] env) (fun r s' => match r with | .ok f => Q f s' | .error e => Er e s') s := by
  refine for_I I (fun n s' hI => wpAny_mono (turn n s' hI) (fun r s₁ h₁ => ?_) fun _ _ e => e) n h
  cases r with
  | none => exact aft _ h₁
  | some v =>
    refine wpAny_mono h₁ (fun _ s₂ h₂ => wpAny_mono h₂ (fun f s₃ h₃ => ?_) fun _ _ e => e) fun _ _ e => e
    cases f with
    | brk => exact aft _ h₃
    | next => exact h₃
    | cont => exact h₃
    | ret v => exact h₃
def mFig (sc l : Addr) (tk : Tok) (vc vr : Option Value) : Str → Option Value := fun y => if y = Str.ofString "rest" then vr else if y = Str.ofString "cell" then vc else if y = Str.ofString "row" then some (.ref l) else List.lookup y [(Str.ofString "script", Value.ref sc), (Str.ofString "wanted", Value.int 15 tk)].reverse
theorem ints_get {vs : List Value} {ns : List Int} (h : IntsAre vs ns) {i : Nat} (hi : i < vs.length) : ∃ n t, vs[i]? = some (.int n t) := by
  obtain ⟨n, t, e, _⟩ := h.at i vs[i] (List.getElem?_eq_getElem hi)
  exact ⟨n, t, by rw [List.getElem?_eq_getElem hi, e]⟩
theorem fm_pos (a : Int) {b : Int} (hb : 0 < b) : 0 ≤ a.fmod b ∧ a.fmod b < b := by
  rw [Int.fmod_eq_emod_of_nonneg a (Int.le_of_lt hb)]
  exact ⟨Int.emod_nonneg a (Int.ne_of_gt hb), Int.emod_lt_of_pos a hb⟩
theorem fd_step {r : Int} {j : Nat} (h0 : 0 ≤ r) (h : r < 96 ^ (j + 1)) : 0 ≤ r.fdiv 96 ∧ r.fdiv 96 < 96 ^ j := by
  rw [Int.fdiv_eq_ediv_of_nonneg r (by decide)]
  refine ⟨Int.ediv_nonneg h0 (by decide), Int.ediv_lt_of_lt_mul (by decide) ?_⟩
  rw [Int.pow_succ] at h
  exact h
theorem fd_lt {r : Int} (h0 : 0 < r) : (r.fdiv 96).toNat < r.toNat := by
  rw [Int.fdiv_eq_ediv_of_nonneg r (by decide)]
  omega
theorem fs_add {fs : List Int} {x : Int} (h : ∀ f ∈ fs, 0 ≤ f ∧ f < 96) (hx : 0 ≤ x ∧ x < 96) : ∀ f ∈ fs ++ [x], 0 ≤ f ∧ f < 96 := fun f hf => by
  rcases List.mem_append.mp hf with q | q
  · exact h f q
  · rw [List.mem_singleton] at q; exact q ▸ hx
theorem ints_add {vs : List Value} {fs : List Int} {x : Int} {t : Tok} (h : IntsAre vs fs) : IntsAre (vs ++ [.int x t]) (fs ++ [x]) := h.append (IntsAre.cons _ _ IntsAre.nil)
theorem tick11 {prog : Program} {w : World} {A : Around} {E : Value → Shared → Prop} {s : Shared} {env : Env} {Q : Flow → Shared → Prop} (h : Q .next s) : wpAny (model prog w) A (execs [] env) Q E s := by
  first | (walk1; exact h) | exact wpAny_execs_nil h
section
local macro_rules | `(tactic| walk_at "exec For Name Subscript cons nil") => `(tactic| refine hold ?_)
local macro_rules | `(tactic| walk_at "m fmap") => `(tactic| (intro y; (unfold mFig); (by_cases e0 : y = Str.ofString "rest"; · (subst e0; rfl)); (by_cases e1 : y = Str.ofString "cell"; · (subst e1; rfl)); (simp only [e0, e1, if_false])))
local macro_rules | `(tactic| walk_at "exec For") => `(tactic| refine hold ?_)
local macro_rules | `(tactic| walk_at "call ref") => `(tactic| refine hold ?_)
local macro_rules | `(tactic| walk_at "call builtin:list.append") => `(tactic| (k_here; (with_reducible show wpAny _ _ (call (Value.builtin _) [Value.ref _, _]) _ _ _); k_dflt (refine' append_K ?k1 ?k2 ?k3 ?_ ?z; (case k1 => k_asm); (case k2 => k_asm); (case k3 => k_upd); (case z => (simp only [List.size_toArray]; rw [sizeLine_eq]; omega)); k_whole); intro h' F' N'; (try k_sweep)))
set_option maxHeartbeats 4000000 in
theorem does_figures (w : World) (sc : Addr) (cells : List Value) (ns : List Int) (tkw : Tok) (hi : IntsAre cells ns) (hlen : ns.length ≤ 63) :
    Does w 528 1 [.ref sc, .int 15 tkw] [] (fun h => h.IsList sc cells.toArray) (fun h h' r => ∃ (a : Addr) (n : Nat) (vs : List Value) (fs : List Int), r = .ref a ∧ h'.get? a = some (listOf vs.toArray n) ∧ h.get? a = none ∧ IntsAre vs fs ∧ fs.length = 15 ∧ ∀ f ∈ fs, 0 ≤ f ∧ f < 96) := by
  walk_at "m fill"
  intro p loose mean mg mb A env outer A₀ base h₀ L m s Q E B F X N T hA hf hk hd hu hh hpre hret
  obtain ⟨ah, dp, fr, gd, un⟩ := A
  obtain rfl : fr = some (env :: outer) := hA
  obtain rfl : ah = none := hh
  replace hd : dp + _ < recursionLimit := hd
  replace hu : un + _ < cLine := hu
  refine wpAny_call ?_
  k_dflt (refine' enterD (binds := [(Str.ofString "script", .ref sc), (Str.ofString "wanted", .int 15 tkw)]) ?k1 ?k2 ?k3 ?k4 ?k5 ?kA ?kF ?kK ?k6 ?k7 ?k8 ?k9 ?kB ?_ ?c2 ?c3 ?c4 ?c5; (case kA => walk_at "m frames"); (case kF => first | assumption | exact rfl); (case kK => first | assumption | exact rfl); (case k1 => k_asm); (case k2 => k_asm); (case k3 => k_asm); (case k4 => k_asm); (case k5 => k_asm); (case k6 => k_is); (case k7 => k_is); (case k8 => walk_at "m room"); (case k9 => first | exact BindsTo.of_eq rfl | exact binds_K (by k_in) rfl (by k_is) rfl rfl rfl); (case c5 => decide); (case kB => exact locs rfl); (case c2 => exact rfl); (case c3 => exact rfl); (case c4 => exact rfl); k_whole)
  intro g L' h₁ F' N' B' X' T' hg hgs
  k_fold
  have hl : g.IsList sc cells.toArray := by obtain ⟨o, ho, r⟩ := hpre; exact ⟨o, hg _ _ ho (by simp), r⟩
  k_steps
  unfold Hold
  refine wpAny_For ?_
  k_steps
  rename News g L' _ _ => N1
  rename Fr g L' _ _ => F1
  rename_i l h1 _ h2 D ws h3 hI hC hL hlD
  refine iter_list F1 N1 (News.isList N1 (.head _)) ?_
  intro it o h4 ho F4 N4 l4
  have q1 : @LT.lt Nat _ D it := l4 _ (.head _)
  have q2 : @LT.lt Nat _ l it := l4 _ (.tail _ (.head _))
  have q3 : @LT.lt Nat _ l D := hlD
  have hwl : ws.length ≤ 15 := by rw [hI.length, hC]; omega
  refine for_P (fun s' => ∃ h tk9 vs k fs vc vr, s' = ⟨h, s.gens, s.drawn, tk9, s.os⟩ ∧ Fr g L' h (mFig sc l tkw vc vr) ∧ News g L' h [(D, listOf ws.toArray 0), (l, listOf vs.toArray k)] ∧ IntsAre vs fs ∧ (∀ f ∈ fs, 0 ≤ f ∧ f < 96) ∧ fs.length ≤ 40)
    (fun n s' => ∃ i h tk9 vs k fs vc vr o, s' = ⟨h, s.gens, s.drawn, tk9, s.os⟩ ∧ n = ws.length - i ∧ i ≤ ws.length ∧ IterL o D i ∧ Fr g L' h (mFig sc l tkw vc vr) ∧ News g L' h [(it, o), (D, listOf ws.toArray 0), (l, listOf vs.toArray k)] ∧ IntsAre vs fs ∧ (∀ f ∈ fs, 0 ≤ f ∧ f < 96) ∧ fs.length ≤ 14) ?_ ?_ ws.length
    ⟨0, _, _, [], 0, [], none, none, o, rfl, rfl, Nat.zero_le _, ho, fr_congr F4 (fun y => ?_), N4, .nil, (fun _ q => nomatch q), by decide⟩
  · rintro n s' ⟨i, h, tk9, vs, k, fs, vc, vr, o, rfl, rfl, hi2, ho, F, N, hV, hR, hfl⟩
    have hne : ∀ p ∈ [((D : Nat), listOf ws.toArray 0), (l, listOf vs.toArray k)], p.1 ≠ it := by
      intro p hp
      simp only [List.mem_cons, List.mem_nil_iff, or_false] at hp
      rcases hp with rfl | rfl
      · exact Nat.ne_of_lt q1
      · exact Nat.ne_of_lt q2
    have hvl := hV.length
    rcases Nat.lt_or_ge i ws.length with hlt | hge
    · obtain ⟨nn, t, hv⟩ := ints_get hI hlt
      refine next_list F N ho (News.isList N (.tail _ (.head _))) (by simpa using hv) hne ?_
      intro o' h5 ho' F5 N5
      dsimp only
      k_steps
      unfold Hold
      rename News g L' _ _ => N6
      rename Fr g L' _ _ => F6
      rw [List.push_toArray] at N6
      obtain ⟨tr0, F7⟩ : ∃ tr0, Fr g L' _ (mFig sc l tkw (some (.int nn t)) (some (.int ((nn.fmod (96 ^ Int.toNat 24)).fdiv 96) tr0))) := ⟨_, fr_congr F6 (by walk_at "m fmap")⟩
      clear F6
      refine while_P (fun s' => Hold (∃ h tk9 vs k fs vr, s' = ⟨h, s.gens, s.drawn, tk9, s.os⟩ ∧ Fr g L' h (mFig sc l tkw (some (.int nn t)) vr) ∧ News g L' h [(it, o'), (D, listOf ws.toArray 0), (l, listOf vs.toArray k)] ∧ IntsAre vs fs ∧ (∀ f ∈ fs, 0 ≤ f ∧ f < 96) ∧ fs.length ≤ 40))
        (fun n s' => ∃ h tk9 vs k fs r tr j, s' = ⟨h, s.gens, s.drawn, tk9, s.os⟩ ∧ n = r.toNat ∧ 0 ≤ r ∧ r < 96 ^ j ∧ fs.length + j ≤ 40 ∧ Fr g L' h (mFig sc l tkw (some (.int nn t)) (some (.int r tr))) ∧ News g L' h [(it, o'), (D, listOf ws.toArray 0), (l, listOf vs.toArray k)] ∧ IntsAre vs fs ∧ (∀ f ∈ fs, 0 ≤ f ∧ f < 96)) ?_ ?_ ((nn.fmod (96 ^ Int.toNat 24)).fdiv 96).toNat
        ⟨_, _, _, _, _, (nn.fmod (96 ^ Int.toNat 24)).fdiv 96, _, 23, rfl, rfl, (fd_step (j := 23) (fm_pos nn (by decide +kernel)).1 (fm_pos nn (by decide +kernel)).2).1, (fd_step (j := 23) (fm_pos nn (by decide +kernel)).1 (fm_pos nn (by decide +kernel)).2).2, ?_, F7, N6, ints_add hV, fs_add hR (fm_pos _ (by decide))⟩
      · clear N6 F7 N F ho' ho hne hvl hV hR hfl hv
        rintro n s' ⟨h, tk9, vs, k, fs, r, tr, j, rfl, rfl, hr0, hrj, hfl, F, N, hV, hR⟩
        have hvl := hV.length
        k_steps
        · rename News g L' _ _ => N8
          rename Fr g L' _ _ => F8
          rw [List.push_toArray] at N8
          have hj : ∃ i, j = i + 1 := by
            cases j with
            | zero => rw [Int.pow_zero] at hrj; omega
            | succ i => exact ⟨i, rfl⟩
          obtain ⟨i, rfl⟩ := hj
          obtain ⟨tr0, F7⟩ : ∃ tr0, Fr g L' _ (mFig sc l tkw (some (.int nn t)) (some (.int (r.fdiv 96) tr0))) := ⟨_, fr_congr F8 (by walk_at "m fmap")⟩
          have h96 := fd_step hr0 hrj
          show ∃ m, m < r.toNat ∧ _
          exact ⟨(r.fdiv 96).toNat, fd_lt (by omega), _, _, _, _, _, r.fdiv 96, _, i, rfl, rfl, h96.1, h96.2, (by simp only [List.length_append, List.length_cons, List.length_nil]; omega), F7, N8, ints_add hV, fs_add hR (fm_pos _ (by decide))⟩
        · show Hold _
          unfold Hold
          exact ⟨_, _, _, _, _, _, rfl, F, N, hV, hR, by omega⟩
      · rintro s' ⟨h, tk9, vs, k, fs, vr, rfl, F, N, hV, hR, hfl⟩
        have hvl := hV.length
        k_steps
        · show ∃ h tk9 vs k fs vc vr, _
          exact ⟨_, _, _, _, _, _, _, rfl, F, news_tail N, hV, hR, hfl⟩
        · show ∃ m, m < _ ∧ _
          exact ⟨ws.length - (i + 1), by omega, i + 1, _, _, _, _, _, _, _, _, rfl, rfl, hlt, ho', F, N, hV, hR, by rename_i hsz; rw [List.size_toArray] at hsz; omega⟩
      · simp only [List.length_append, List.length_cons, List.length_nil]; omega
    · refine end_list F N ho (News.isList N (.tail _ (.head _))) (by simp; omega) hne rfl ?_
      intro h5 F5 N5
      dsimp only
      exact ⟨_, _, _, _, _, _, _, rfl, F5, N5, hV, hR, by omega⟩
  · clear F1 F4 N1 N4 ho
    rintro s' ⟨h, tk9, vs, k, fs, vc, vr, rfl, F, N, hV, hR, hfl⟩
    have hvl := hV.length
    dsimp only
    k_steps
    rename News g L' _ _ => N9
    rename IntsAre _ (List.take 15 _) => hI9
    show Q _ _
    refine hret _ _ _ (fun b o e n => Fr.keep (by assumption) b o (hg b o e n)) ⟨_, _, _, _, rfl, News.get N9 (.head _), new_of (News.fresh N9 (.head _)) hg, hI9, by simp, fun f hf => ?_⟩
    rcases List.mem_append.mp (List.mem_of_mem_take hf) with q | q
    · exact hR f q
    · have : f = 0 := by simpa using q
      rw [this]; decide
  · revert y; walk_at "m fmap"
end

theorem slot_iadd : Slot "list" "__iadd__" "list.__iadd__" :=
  .of (owner := "list") (n := "__iadd__") (by rw [typeLookup_type, builtinLookup_eq_fast]; kernel_rfl) (by decide +kernel) (by decide +kernel) (by decide +kernel)
    (by first | exact .inl (by decide +kernel) | exact .inr (by decide +kernel)) (by rw [isSubtype_type]; kernel_rfl)
theorem args_iadd (a b : Value) : argsOk "list.__iadd__" ⟨[a, b], []⟩ := by
  unfold argsOk; rw [signature?_of (id := "list.__iadd__") (n := ['_', '_', 'd', 'd', 'a', 'i', '_', '_']) (o := ['t', 's', 'i', 'l']) (by kernel_rfl) PySem.F.owner_list]; kernel_rfl
theorem entry_iadd : entryFor table "list.__iadd__" = some Builtin.«list.__iadd__» := entryFor_of_fast (by kernel_rfl)
theorem fillsI : fillsInplaceSlot (.type "list") "add" (Operator.Add == .Add) = pure false := by
  unfold fillsInplaceSlot
  show (typeLookup (.type "list") (dunderI "add") >>= fun fi => pure (fi.isSome && !isSeqSlot fi)) = pure false
  rw [show dunderI "add" = Str.ofString "__iadd__" from by decide +kernel, slot_iadd.lookup]
  show (pure (true && !isSeqSlot (some (Value.builtin "list.__iadd__"))) : Sem Bool) = pure false
  rw [show isSeqSlot (some (Value.builtin "list.__iadd__")) = true from by decide +kernel]
  rfl
theorem seqI : seqSlot? (.type "list") (dunderI "add") = pure (some (.builtin "list.__iadd__")) := PySem.seqSlot_of (by rw [show dunderI "add" = Str.ofString "__iadd__" from by decide +kernel]; exact slot_iadd.lookup) (by decide +kernel)
theorem fillsN : fillsNumberSlot (.type "list") "add" = pure false := by first | exact noFill_list_add | exact PySem.F.noFill_list_add | exact PySem.P.noFill_list_add
theorem tick12 {prog : Program} {w : World} {A : Around} {E : Value → Shared → Prop} {s : Shared} {env : Env} {Q : Flow → Shared → Prop} (h : Q .next s) : wpAny (model prog w) A (execs [] env) Q E s := by
  first | (walk1; exact h) | exact wpAny_execs_nil h
section
variable {prog : Program} {w : World} {A : Around} {E : Value → Shared → Prop} {s : Shared} {L : Addr} {h₀ : Heap} {m : Str → Option Value} {news : List (Addr × Obj)}
theorem iadd_K {D b : Addr} {its its2 : Array Value} {n n2 : Nat} {g : Obj → List (Addr × Obj)} {Q : Value → Shared → Prop} (F : Fr h₀ L s.heap m) (N : News h₀ L s.heap news) (U : UpdF D (listOf its n) news g) (hb : (b, listOf its2 n2) ∈ news) (hz : its.size + its2.size < 10000)
    (h : ∀ h' n', Fr h₀ L h' m → News h₀ L h' (g (listOf (its ++ its2) n')) → Q (.ref D) { s with heap := h' }) :
    wpAny (model prog w) A (inplaceOp .Add (.ref D) (.ref b)) Q E s := by
  obtain ⟨pre, post, rfl, hg, a, c⟩ := U.split
  have z := N (D, listOf its n) (List.mem_append_right _ (.head _))
  have zb := N _ hb
  unfold inplaceOp
  refine wpAny_holding ?_
  refine wpAny_bind (wpAny_typeOf (T := "list") ⟨_, z.1, rfl⟩ (wpAny_bind (wpAny_of_eq fillsI ?_)))
  show wpAny _ A (if false = true then _ else _) Q E s
  rw [if_neg Bool.false_ne_true]
  refine wpAny_bind (wpAny_binaryOp1_none (nm := "add") (T := "list") ⟨_, z.1, rfl⟩ ⟨_, zb.1, rfl⟩ fillsN ?_)
  refine wpAny_bind (wpAny_of_eq seqI ?_)
  refine wpAny_bind (wpAny_rule ?_)
  refine call_meets (T := "list") (self := .ref D) (rest := [.ref b]) slot_iadd ⟨_, z.1, rfl⟩ entry_iadd (args_iadd _ _) (PySem.AutoSeq1.list___iadd___list_list_0 D its n b its2 n2 (by simp [Builtin.List.listTooLong, sizeLine_eq]; intro _; omega) (by simp [sizeLine_eq]; omega) (by simp [sizeLine_eq]; omega)) ⟨z.1, zb.1, ?_⟩
  have e : ∃ n', Obj.mapSeq (fun x => x ++ its2) (listOf its n) = listOf (its ++ its2) n' := ⟨_, by
    show Obj.mk _ _ (Data.seq (its ++ its2) _) _ = _
    rfl⟩
  obtain ⟨n', e⟩ := e
  have hs : Heap.SameBut D s.heap (s.heap.update D (Obj.mapSeq fun x => x ++ its2)) := Heap.SameBut.update ..
  have ho : (s.heap.update D (Obj.mapSeq fun x => x ++ its2)).get? D = some (listOf (its ++ its2) n') := by
    rw [← e]
    exact Heap.get?_update_self _ z.1 rfl
  exact h _ n' (F.change hs z.2.1 z.2.2) (hg _ ▸ N.setIn a c hs ho)
theorem reverse_K {D : Addr} {its : List Value} {n : Nat} {news' : List (Addr × Obj)} {Q : Value → Shared → Prop} (F : Fr h₀ L s.heap m) (N : News h₀ L s.heap news) (U : Upd D (listOf its.toArray n) (listOf its.reverse.toArray n) news news') (hz : its.length < 10000)
    (h : ∀ h', Fr h₀ L h' m → News h₀ L h' news' → Q .none { s with heap := h' }) : wpAny (model prog w) A (call (.builtin "list.reverse") [.ref D]) Q E s :=
  kl_reverse F N (by simp) U (by simp [sizeLine_eq]; omega) h
end

abbrev rngIt (x left step : Int) : Obj := { cls := .type "range_iterator", dict := none, data := .fields #[rawInt x, rawInt left, rawInt step], slots := #[] }
theorem tick13 {prog : Program} {w : World} {A : Around} {E : Value → Shared → Prop} {s : Shared} {env : Env} {Q : Flow → Shared → Prop} (h : Q .next s) : wpAny (model prog w) A (execs [] env) Q E s := by
  first | (walk1; exact h) | exact wpAny_execs_nil h
section
variable {prog : Program} {w : World} {A : Around} {E : Value → Shared → Prop} {s : Shared} {L : Addr} {h₀ : Heap} {m : Str → Option Value} {news : List (Addr × Obj)}
theorem iter_rng {r : Addr} {n : Nat} {t u v : Tok} {Q : Value → Shared → Prop} (F : Fr h₀ L s.heap m) (N : News h₀ L s.heap news) (hr : IsRange s.heap r 0 n 1 t u v) (hn : n < 1000)
    (h : ∀ (it : Nat) h', Fr h₀ L h' m → News h₀ L h' ((it, rngIt 0 n 1) :: news) → (∀ p ∈ news, p.1 < it) → Q (.ref it) { s with heap := h' }) : wpAny (model prog w) A (pyIter (.ref r)) Q E s := by
  refine wpAny_pyIter_range hr (small_one (by omega) (by omega) (by omega) (by omega)) ?_
  have e : Builtin.Range.rangeSize 0 (n : Int) 1 = (n : Int) := by rw [rangeSize_one]; split <;> omega
  rw [e]
  exact h _ _ (F.push _) (N.push F _) fun p hp => Heap.lt_size (N p hp).1
theorem next_rng {it : Addr} {x left : Int} {Q : Option Value → Shared → Prop} (F : Fr h₀ L s.heap m) (N : News h₀ L s.heap ((it, rngIt x left 1) :: news)) (hl : 0 < left) (hn : ∀ p ∈ news, p.1 ≠ it)
    (h : ∀ h', Fr h₀ L h' m → News h₀ L h' ((it, rngIt (x + 1) (left - 1) 1) :: news) → Q (some (.int x s.toks)) { s with heap := h', toks := s.toks + 1 }) : wpAny (model prog w) A (pyNext (.ref it)) Q E s := by
  have z := N _ (.head _)
  refine wpAny_pyNext_range_item z.1 hl fun h' hi hs => ?_
  exact h h' (F.change hs z.2.1 z.2.2) (news_set (pre := []) N (fun _ q => nomatch q) hn hs hi)
theorem end_rng {it : Addr} {x left : Int} {Q : Option Value → Shared → Prop} (F : Fr h₀ L s.heap m) (N : News h₀ L s.heap ((it, rngIt x left 1) :: news)) (hl : left ≤ 0) (hn : ∀ p ∈ news, p.1 ≠ it) (hh : A.handled = none)
    (h : ∀ h', Fr h₀ L h' m → News h₀ L h' news → Q none { s with heap := h' }) : wpAny (model prog w) A (pyNext (.ref it)) Q E s := by
  have z := N _ (.head _)
  refine wpAny_pyNext_range_end hh z.1 hl fun h' hs => ?_
  exact h h' (fr_ext F hs z.2.1 z.2.2) fun p hp => ⟨hs _ _ (hn p hp) (N p (.tail _ hp)).1, (N p (.tail _ hp)).2⟩
end
/-- a body in two halves, the first of which raises and leaves nothing -/
theorem execs_app {M : Model} {A : Around} {E : Value → Shared → Prop} {env : Env} {Q : Flow → Shared → Prop} (P : Shared → Prop) (b₂ : List Stmt) (h2 : ∀ s', P s' → wpAny M A (execs b₂ env) Q E s') (Γ : Ctx) (hΓ : Γ.In A) :
    ∀ (b₁ : List Stmt) (p : Pos) (s : Shared), Sem.wp M Γ (execs b₁ env) (fun f _ s' => f = .next ∧ P s') (fun _ _ _ => False) p s → Sem.wp M Γ (execs (b₁ ++ b₂) env) (fun f _ s' => Q f s') (fun e _ s' => E e s') p s
  | [], p, s, h => h2 _ (show Flow.next = Flow.next ∧ P s from h).2 Γ p hΓ
  | st :: b₁, p, s, h => by
    rw [List.cons_append, execs_cons, Sem.wp_bind']
    rw [execs_cons, Sem.wp_bind'] at h
    refine Sem.wp_mono M Γ _ (fun f p' s' h' => ?_) (fun _ _ _ h' => h'.elim) _ _ h
    cases f with
    | next => exact execs_app P b₂ h2 Γ hΓ b₁ p' s' h'
    | cont => exact absurd (show Flow.cont = Flow.next ∧ P s' from h').1 (by intro q; cases q)
    | brk => exact absurd (show Flow.brk = Flow.next ∧ P s' from h').1 (by intro q; cases q)
    | ret v => exact absurd (show Flow.ret v = Flow.next ∧ P s' from h').1 (by intro q; cases q)
theorem execs_at {M : Model} {A : Around} {E : Value → Shared → Prop} {s : Shared} {env : Env} {Q : Flow → Shared → Prop} (k : Nat) (P : Shared → Prop) {b : List Stmt} (h1 : wpAny M A (execs (b.take k) env) (fun f s' => f = .next ∧ P s') (fun _ _ => False) s)
    (h2 : ∀ s', P s' → wpAny M A (execs (b.drop k) env) Q E s') : wpAny M A (execs b env) Q E s := by
  intro Γ p hΓ
  have := execs_app P (b.drop k) h2 Γ hΓ (b.take k) p s (h1 Γ p hΓ)
  rwa [List.take_append_drop] at this
theorem StrVals.app : ∀ {vs us : List Value} {xs ys : List Str}, StrVals vs xs → StrVals us ys → StrVals (vs ++ us) (xs ++ ys)
  | [], _, [], _, _, h => h
  | _ :: _, _, _ :: _, _, a, h => ⟨a.1, StrVals.app a.2 h⟩
theorem StrVals.one {x : Str} {t : Tok} : StrVals [.str x t] [x] := ⟨⟨t, rfl⟩, True.intro⟩
theorem StrVals.rev : ∀ {vs : List Value} {xs : List Str}, StrVals vs xs → StrVals vs.reverse xs.reverse
  | [], [], _ => True.intro
  | v :: vs, x :: xs, h => by
    rw [List.reverse_cons, List.reverse_cons]
    obtain ⟨t, rfl⟩ := h.1
    exact StrVals.app (StrVals.rev h.2) StrVals.one
theorem StrVals.last {vs : List Value} {xs : List Str} (h : StrVals vs xs) : (vs = [] ∧ xs = []) ∨ ∃ vs0 xs0 x t, vs = vs0 ++ [.str x t] ∧ xs = xs0 ++ [x] ∧ StrVals vs0 xs0 := by
  have r := StrVals.rev h
  rcases hv : vs.reverse with _ | ⟨v, us⟩
  · rw [hv] at r
    left
    have : vs = [] := by simpa using hv
    subst this
    cases xs with
    | nil => exact ⟨rfl, rfl⟩
    | cons y ys => exact h.elim
  · rw [hv] at r
    right
    rcases hx : xs.reverse with _ | ⟨x, ys⟩
    · rw [hx] at r; exact r.elim
    · rw [hx] at r
      obtain ⟨t, rfl⟩ := r.1
      refine ⟨us.reverse, ys.reverse, x, t, ?_, ?_, StrVals.rev r.2⟩
      · rw [← List.reverse_cons, ← hv, List.reverse_reverse]
      · rw [← List.reverse_cons, ← hx, List.reverse_reverse]
abbrev SgAre (vs : List Value) (xs : List Sg) : Prop := StrVals vs (xs.map Sg.str)
theorem SgAre.vals {vs : List Value} {xs : List Sg} (h : SgAre vs xs) : SgVals vs xs :=
  ⟨by rw [StrVals.len h, List.length_map], fun i x e => StrVals.get h (by rw [List.getElem?_map, e]; rfl)⟩
theorem sg_pick {vs : List Value} {xs : List Sg} (h : SgAre vs xs) {k : Nat} (hk : k < xs.length) : ∃ x t, x ∈ xs ∧ vs[k]? = some (.str x.str t) := by
  obtain ⟨t, e⟩ := (SgAre.vals h).2 k xs[k] (List.getElem?_eq_getElem hk)
  exact ⟨xs[k], t, List.getElem_mem hk, e⟩
theorem item_Sg {prog : Program} {w : World} {A : Around} {E : Value → Shared → Prop} {s : Shared} {value slice : PySem.Expr} {l : Addr} {vs : List Value} {k : Int} {u : Tok} {Q : Value → Shared → Prop} (xs : List Sg)
    (hl : s.heap.IsList l vs.toArray) (hv : SgAre vs xs) (h0 : 0 ≤ k) (hk : k < xs.length) (hx : xs.length < 100) (h : ∀ x t, x ∈ xs → Q (.str x.str t) s)
    (hs : subscripted slice false (.ref l) (.int k u) = operate [.ref l, .int k u] (getItem (.ref l) (.int k u)) := by with_unfolding_all rfl) :
    wpAny (model prog w) A (subscriptTail value slice (.ref l) (.int k u)) Q E s := by
  obtain ⟨x, t, hm, e⟩ := sg_pick hv (k := k.toNat) (by omega)
  exact item_L hl h0 (by omega) e (h x t hm) hs
theorem SgAre.last {vs : List Value} {xs : List Sg} (h : SgAre vs xs) : (vs = [] ∧ xs = []) ∨ ∃ vs0 xs0 x t, vs = vs0 ++ [.str (Sg.str x) t] ∧ xs = xs0 ++ [x] ∧ SgAre vs0 xs0 := by
  rcases StrVals.last h with ⟨a, b⟩ | ⟨vs0, ys0, y, t, a, b, c⟩
  · exact .inl ⟨a, by simpa using b⟩
  · right
    obtain ⟨l1, l2, e1, e2, e3⟩ := List.map_eq_append_iff.mp b
    obtain ⟨x, e4, e5⟩ := List.map_eq_singleton_iff.mp e3
    exact ⟨vs0, l1, x, t, by rw [a, ← e5], by rw [e1, e4], by unfold SgAre; rw [e2]; exact c⟩
theorem item_last {prog : Program} {w : World} {A : Around} {E : Value → Shared → Prop} {s : Shared} {value slice : PySem.Expr} {l : Addr} {vs : List Value} {v : Value} {u : Tok} {Q : Value → Shared → Prop}
    (hl : s.heap.IsList l (vs ++ [v]).toArray) (h : Q v s)
    (hs : subscripted slice false (.ref l) (.int (-1) u) = operate [.ref l, .int (-1) u] (getItem (.ref l) (.int (-1) u)) := by with_unfolding_all rfl) :
    wpAny (model prog w) A (subscriptTail value slice (.ref l) (.int (-1) u)) Q E s :=
  tail_any hl.typeIs slot_list_getitem.lookup (wpAny_getItem_list_neg hl (by decide) (by simp; omega) (by decide) (by
    have : ((-1 : Int) + ((vs ++ [v]).toArray.size : Nat)).toNat = vs.length := by simp; omega
    rw [this]; simp) h) hs
theorem SgAre.snoc {vs : List Value} {xs : List Sg} (h : SgAre vs xs) (x : Sg) (t : Tok) : SgAre (vs ++ [.str (Sg.str x) t]) (xs ++ [x]) := by
  unfold SgAre
  rw [List.map_append]
  exact StrVals.app h ⟨⟨t, rfl⟩, True.intro⟩
theorem all_snoc {α : Type} {P : α → Prop} {xs : List α} {x : α} (h : ∀ y ∈ xs, P y) (hx : P x) : ∀ y ∈ xs ++ [x], P y := fun y hy => by
  rcases List.mem_append.mp hy with q | q
  · exact h y q
  · rw [List.mem_singleton] at q; exact q ▸ hx

def mSgn (fl sl ol : Addr) (b : Bool) (v1 v2 v3 : Option Value) : Str → Option Value := fun y => if y = Str.ofString "sign" then v3 else if y = Str.ofString "figure" then v2 else if y = Str.ofString "step" then v1 else if y = Str.ofString "waiting" then some (.bool b) else if y = Str.ofString "opened" then some (.ref ol) else if y = Str.ofString "signs" then some (.ref sl) else List.lookup y [(Str.ofString "figures", Value.ref fl)].reverse
def Cls (x : Sg) : Prop := x = .rp ∨ x = .rb ∨ x = .rc
theorem tick14 {prog : Program} {w : World} {A : Around} {E : Value → Shared → Prop} {s : Shared} {env : Env} {Q : Flow → Shared → Prop} (h : Q .next s) : wpAny (model prog w) A (execs [] env) Q E s := by
  first | (walk1; exact h) | exact wpAny_execs_nil h
section
local macro_rules | `(tactic| walk_at "m fmap") => `(tactic| (intro y; (try unfold mSgn); (by_cases e3 : y = Str.ofString "sign"; · (subst e3; rfl)); (by_cases e0 : y = Str.ofString "figure"; · (subst e0; rfl)); (by_cases e1 : y = Str.ofString "step"; · (subst e1; rfl)); (by_cases e2 : y = Str.ofString "waiting"; · (subst e2; rfl)); (by_cases e4 : y = Str.ofString "opened"; · (subst e4; rfl)); (by_cases e5 : y = Str.ofString "signs"; · (subst e5; rfl)); (simp only [e0, e1, e2, e3, e4, e5, if_false])))
theorem mSgn_set {g h : Heap} {L fl sl ol : Addr} {w : Bool} {v1 v2 v3 a b c : Option Value} (F : Fr g L h (fun y => if y = Str.ofString "sign" then a else if y = Str.ofString "figure" then b else if y = Str.ofString "step" then c else mSgn fl sl ol w v1 v2 v3 y)) : Fr g L h (mSgn fl sl ol w c b a) :=
  fr_congr F (by walk_at "m fmap")
theorem mSgn_set2 {g h : Heap} {L fl sl ol : Addr} {w : Bool} {v1 v2 v3 a a' b c : Option Value} (F : Fr g L h (fun y => if y = Str.ofString "sign" then a else if y = Str.ofString "sign" then a' else if y = Str.ofString "figure" then b else if y = Str.ofString "step" then c else mSgn fl sl ol w v1 v2 v3 y)) : Fr g L h (mSgn fl sl ol w c b a) :=
  fr_congr F (by walk_at "m fmap")
theorem mSgn_wait {g h : Heap} {L fl sl ol : Addr} {w w' : Bool} {a b c : Option Value} (F : Fr g L h (fun y => if y = Str.ofString "waiting" then some (.bool w') else mSgn fl sl ol w c b a y)) : Fr g L h (mSgn fl sl ol w' c b a) :=
  fr_congr F (by walk_at "m fmap")
local macro_rules | `(tactic| walk_at "exec For") => `(tactic| refine hold ?_)
local macro_rules | `(tactic| walk_at "exec For Name Call cons nil") => `(tactic| refine hold ?_)
local macro_rules | `(tactic| walk_at "call ref") => `(tactic| refine hold ?_)
local macro_rules | `(tactic| walk_at "call type:range") => `(tactic| refine hold ?_)
local macro_rules | `(tactic| walk_at "pyIter ref") => `(tactic| refine hold ?_)
local macro_rules | `(tactic| walk_at "call builtin:list.append") => `(tactic| (k_here; (with_reducible show wpAny _ _ (call (Value.builtin _) [Value.ref _, _]) _ _ _); k_dflt (refine' append_K ?k1 ?k2 ?k3 ?_ ?z; (case k1 => k_asm); (case k2 => k_asm); (case k3 => k_upd); (case z => (simp only [List.size_toArray]; rw [sizeLine_eq]; omega)); k_whole); intro h' F' N'; (try k_sweep)))
def l12 : List Sg := [.atm, .num, .lp, .fp, .lb, .lc, .rp, .rb, .rc, .cma, .bar, .cma]
def l7 : List Sg := [.atm, .num, .lp, .fp, .lb, .lc, .fp]
def l4 : List Sg := [.bar, .rc, .rp, .cma]
theorem l12_nd : ∀ x ∈ l12, x ≠ .dot := by decide
theorem l7_nd : ∀ x ∈ l7, x ≠ .dot := by decide
theorem l4_nd : ∀ x ∈ l4, x ≠ .dot := by decide
local macro_rules | `(tactic| walk_at "m sg") => `(tactic| ((simp only [SgAre, l12, l7, l4, List.map_cons, List.map_nil, StrVals, and_true]); (repeat (first | exact ⟨_, rfl⟩ | refine ⟨⟨_, rfl⟩, ?_⟩))))
local macro_rules | `(tactic| walk_at "subscriptTail List cons BinOp ref int") => `(tactic| (k_here; (with_reducible show wpAny _ _ (subscriptTail _ _ (Value.ref _) (Value.int _ _)) _ _ _); (first
  | (with_unfolding_all refine' item_Sg l12 ?k1 ?k2 ?k3 ?k4 ?k5 ?_ ?k6; (case k1 => exact News.isList (by assumption) (by k_mem)); (case k2 => walk_at "m sg"); (case k3 => omega); (case k4 => (show _ < ((12 : Nat) : Int)); omega); (case k5 => decide); (case k6 => with_unfolding_all rfl); k_whole; intro xs ts hxs; replace hxs := l12_nd _ hxs)
  | (with_unfolding_all refine' item_Sg l7 ?k1 ?k2 ?k3 ?k4 ?k5 ?_ ?k6; (case k1 => exact News.isList (by assumption) (by k_mem)); (case k2 => walk_at "m sg"); (case k3 => omega); (case k4 => (show _ < ((7 : Nat) : Int)); omega); (case k5 => decide); (case k6 => with_unfolding_all rfl); k_whole; intro xs ts hxs; replace hxs := l7_nd _ hxs)
  | (with_unfolding_all refine' item_Sg l4 ?k1 ?k2 ?k3 ?k4 ?k5 ?_ ?k6; (case k1 => exact News.isList (by assumption) (by k_mem)); (case k2 => walk_at "m sg"); (case k3 => omega); (case k4 => (show _ < ((4 : Nat) : Int)); omega); (case k5 => decide); (case k6 => with_unfolding_all rfl); k_whole; intro xs ts hxs; replace hxs := l4_nd _ hxs))))
local macro_rules | `(tactic| walk_at "subscriptTail Name BinOp ref int") => `(tactic| (k_here; (with_reducible show wpAny _ _ (subscriptTail _ _ (Value.ref _) (Value.int _ _)) _ _ _); (with_unfolding_all refine' item_L ?k1 ?k2 ?k3 ?k4 ?_ ?k6; (case k1 => exact Fr.lst (by assumption) (by assumption)); (case k2 => omega); (case k3 => omega); (case k4 => assumption); (case k6 => with_unfolding_all rfl); k_whole)))
local macro_rules | `(tactic| walk_at "subscriptTail Name UnaryOp ref int") => `(tactic| (k_here; (with_reducible show wpAny _ _ (subscriptTail _ _ (Value.ref _) (Value.int _ _)) _ _ _); (with_unfolding_all refine' item_last ?k1 ?_ ?k6; (case k1 => exact News.isList (by assumption) (by k_mem)); (case k6 => with_unfolding_all rfl); k_whole)))
local macro_rules | `(tactic| walk_at "call builtin:list.reverse") => `(tactic| (k_here; (with_reducible show wpAny _ _ (call (Value.builtin _) [Value.ref _]) _ _ _); k_dflt (refine' reverse_K ?k1 ?k2 ?k3 ?z ?_; (case k1 => k_asm); (case k2 => k_asm); (case k3 => k_upd); (case z => omega); k_whole); intro h' F' N'; (try k_sweep)))
local macro_rules | `(tactic| walk_at "inplaceOp Add ref ref") => `(tactic| (k_here; (with_reducible show wpAny _ _ (inplaceOp _ (Value.ref _) (Value.ref _)) _ _ _); k_dflt (refine' iadd_K ?k1 ?k2 ?k3 ?k4 ?z ?_; (case k1 => k_asm); (case k2 => k_asm); (case k3 => k_updF); (case k4 => k_mem); (case z => (simp only [List.size_toArray, Array.size_push, List.length_reverse]; omega)); k_whole); intro h' n' F' N'; (try dsimp only at N'); (try k_sweep)))
local macro_rules | `(tactic| walk_at "binaryOp Add ref ref") => `(tactic| (k_here; (with_reducible show wpAny _ _ (binaryOp _ (Value.ref _) (Value.ref _)) _ _ _); k_dflt (refine' add_arrays ?k1 ?k2 ?k3 ?k4 ?_ ?z; (case k1 => k_asm); (case k2 => k_asm); (case k3 => walk_at "m list"); (case k4 => walk_at "m list"); (case z => (simp only [Array.size_append, List.size_toArray, Array.size_push, List.length_reverse, List.length_cons, List.length_nil, sizeLine_eq]; omega)); k_whole); intro h' F' N'; (try k_sweep)))
theorem wf_end {ys : List Sg} (h : ∀ x ∈ ys, x ≠ .dot) (hl : ys.length < 99) : WF (ys ++ [.dot]) := by
  have e : (ys ++ [Sg.dot]).length = ys.length + 1 := by simp
  refine ⟨by omega, fun i hi => ?_, fun i hi => ?_, by omega⟩
  · obtain rfl : i = ys.length := by omega
    simp
  · rw [List.getElem?_append_left (by omega)]
    intro q
    exact h _ (List.mem_of_getElem? q) rfl
theorem SgAre.rev {vs : List Value} {xs : List Sg} (h : SgAre vs xs) : SgAre vs.reverse xs.reverse := by
  unfold SgAre
  rw [List.map_reverse]
  exact StrVals.rev h
theorem SgAre.app {vs us : List Value} {xs ys : List Sg} (h : SgAre vs xs) (q : SgAre us ys) : SgAre (vs ++ us) (xs ++ ys) := by
  unfold SgAre
  rw [List.map_append]
  exact StrVals.app h q
theorem sgn_fin {svs ovs ws : List Value} {xs ops : List Sg} {t : Tok} (a b : Bool) {ta : Tok} (hV : SgAre svs xs) (hX : ∀ x ∈ xs, x ≠ .dot) (hxl : xs.length ≤ 12) (hO : SgAre ovs ops) (hC : ∀ x ∈ ops, Cls x) (hol : ops.length ≤ 12)
    (e : ws = svs ++ (if a then [.str (Str.ofString "a") ta] else []) ++ (if b then ovs.reverse else []) ++ [.str (Str.ofString ".") t]) : ∃ sg, SgAre ws sg ∧ WF sg := by
  subst e
  have h1 : SgAre (if a then [.str (Str.ofString "a") ta] else []) (if a then [.atm] else []) := by cases a <;> simp [SgAre, StrVals, Sg.str]
  have h2 : SgAre (if b then ovs.reverse else []) (if b then ops.reverse else []) := by
    cases b
    · exact True.intro
    · exact hO.rev
  refine ⟨_, (((hV.app h1).app h2).snoc .dot t), wf_end (fun x hx => ?_) ?_⟩
  · rcases List.mem_append.mp hx with hx | hx
    · rcases List.mem_append.mp hx with hx | hx
      · exact hX x hx
      · cases a <;> simp at hx
        rw [hx]; decide
    · cases b
      · simp at hx
      · simp at hx
        rcases hC x hx with rfl | rfl | rfl <;> decide
  · simp only [List.length_append]
    have : (if a then [Sg.atm] else []).length ≤ 1 := by cases a <;> simp
    have : (if b then ops.reverse else []).length ≤ 12 := by cases b <;> simp; exact hol
    omega
set_option maxHeartbeats 4000000 in
theorem does_signs (w : World) (fl : Addr) (fvs : List Value) (fs : List Int) (hI : IntsAre fvs fs) (hlen : fs.length = 15) (hR : ∀ f ∈ fs, 0 ≤ f ∧ f < 96) :
    Does w 535 1 [.ref fl] [] (fun h => h.IsList fl fvs.toArray) (fun h h' r => ∃ (a : Addr) (n : Nat) (vs : List Value) (sg : List Sg), r = .ref a ∧ h'.get? a = some (listOf vs.toArray n) ∧ h.get? a = none ∧ SgAre vs sg ∧ WF sg) := by
  walk_at "m fill"
  intro p loose mean mg mb A env outer A₀ base h₀ L m s Q E B F X N T hA hf hk hd hu hh hpre hret
  obtain ⟨ah, dp, fr, gd, un⟩ := A
  obtain rfl : fr = some (env :: outer) := hA
  obtain rfl : ah = none := hh
  replace hd : dp + _ < recursionLimit := hd
  replace hu : un + _ < cLine := hu
  have hvl := hI.length
  obtain ⟨n0, t0, hv0, hn0⟩ := hI.at 0 fvs[0] (List.getElem?_eq_getElem (by omega))
  have hx0 : fvs[(Int.toNat 0)]? = some (.int n0 t0) := by rw [← hv0]; exact List.getElem?_eq_getElem (by omega)
  obtain ⟨n13, t13, hv13, _⟩ := hI.at 13 fvs[13] (List.getElem?_eq_getElem (by omega))
  have hx13 : fvs[(Int.toNat 13)]? = some (.int n13 t13) := by rw [← hv13]; exact List.getElem?_eq_getElem (by omega)
  obtain ⟨n14, t14, hv14, _⟩ := hI.at 14 fvs[14] (List.getElem?_eq_getElem (by omega))
  have hx14 : fvs[(Int.toNat 14)]? = some (.int n14 t14) := by rw [← hv14]; exact List.getElem?_eq_getElem (by omega)
  refine wpAny_call ?_
  k_dflt (refine' enterD (binds := [(Str.ofString "figures", .ref fl)]) ?k1 ?k2 ?k3 ?k4 ?k5 ?kA ?kF ?kK ?k6 ?k7 ?k8 ?k9 ?kB ?_ ?c2 ?c3 ?c4 ?c5; (case kA => walk_at "m frames"); (case kF => first | assumption | exact rfl); (case kK => first | assumption | exact rfl); (case k1 => k_asm); (case k2 => k_asm); (case k3 => k_asm); (case k4 => k_asm); (case k5 => k_asm); (case k6 => k_is); (case k7 => k_is); (case k8 => walk_at "m room"); (case k9 => first | exact BindsTo.of_eq rfl | exact binds_K (by k_in) rfl (by k_is) rfl rfl rfl); (case c5 => decide); (case kB => exact locs rfl); (case c2 => exact rfl); (case c3 => exact rfl); (case c4 => exact rfl); k_whole)
  intro g L' h₁ F' N' B' X' T' hg hgs
  k_fold
  have hl : g.IsList fl fvs.toArray := by obtain ⟨o, ho, r⟩ := hpre; exact ⟨o, hg _ _ ho (by simp), r⟩
  k_steps
  unfold Hold
  refine wpAny_For ?_
  k_steps
  unfold Hold
  rename News g L' _ _ => N1
  rename Fr g L' _ _ => F1
  rename_i sl h1 _ _ _ ol h2 lt1 _ h3
  have q3 : @LT.lt Nat _ sl ol := lt1
  obtain ⟨nt, hnt, ent⟩ : ∃ nt : Nat, nt ≤ 12 ∧ 1 + n0.fmod 12 = (nt : Int) := by
    have := fm_pos n0 (b := 12) (by decide)
    exact ⟨(1 + n0.fmod 12).toNat, by omega, by omega⟩
  rw [ent]
  refine range1_rows F1 N1 ?_
  intro h4 tk4 _ _ _ hRg F4 N4 _
  k_steps
  unfold Hold
  refine iter_rng F4 N4 hRg (by omega) ?_
  intro it h5 F5 N5 l5
  have q1 : @LT.lt Nat _ sl it := l5 _ (.tail _ (.head _))
  have q2 : @LT.lt Nat _ ol it := l5 _ (.head _)
  clear hRg
  refine for_P (fun s' => Hold (∃ h tk9 svs k ovs k' xs ops b v1 v2 v3, s' = ⟨h, s.gens, s.drawn, tk9, s.os⟩ ∧ Fr g L' h (mSgn fl sl ol b v1 v2 v3) ∧ News g L' h [(ol, listOf ovs.toArray k'), (sl, listOf svs.toArray k)] ∧ SgAre svs xs ∧ (∀ x ∈ xs, x ≠ .dot) ∧ xs.length ≤ 12 ∧ SgAre ovs ops ∧ (∀ x ∈ ops, Cls x) ∧ ops.length ≤ 12))
    (fun n s' => ∃ i h tk9 svs k ovs k' xs ops b v1 v2 v3 ra rb, s' = ⟨h, s.gens, s.drawn, tk9, s.os⟩ ∧ n = nt - i ∧ i ≤ nt ∧ Fr g L' h (mSgn fl sl ol b v1 v2 v3) ∧ ra = (i : Int) ∧ rb = (nt : Int) - i ∧ News g L' h [(it, rngIt ra rb 1), (ol, listOf ovs.toArray k'), (sl, listOf svs.toArray k)] ∧ SgAre svs xs ∧ (∀ x ∈ xs, x ≠ .dot) ∧ xs.length = i ∧ SgAre ovs ops ∧ (∀ x ∈ ops, Cls x) ∧ ops.length ≤ i) ?_ ?_ nt
    ⟨0, _, _, [], 0, [], 0, [], [], true, none, none, none, _, _, rfl, rfl, Nat.zero_le _, fr_congr F5 (by walk_at "m fmap"), rfl, (by omega), N5, True.intro, (fun _ q => nomatch q), rfl, True.intro, (fun _ q => nomatch q), Nat.le_refl _⟩
  · clear N1 F1 N4 F4 N5 F5 l5
    rintro n s' ⟨i, h, tk9, svs, k, ovs, k', xs, ops, b, v1, v2, v3, ra, rb, rfl, rfl, hi2, F, rfl, rfl, N, hV, hX, hxl, hO, hC, hol⟩
    have hne : ∀ p ∈ [((ol : Nat), listOf ovs.toArray k'), (sl, listOf svs.toArray k)], p.1 ≠ it := by
      intro p hp
      simp only [List.mem_cons, List.mem_nil_iff, or_false] at hp
      rcases hp with rfl | rfl
      · exact Nat.ne_of_lt q2
      · exact Nat.ne_of_lt q1
    have hsl := StrVals.len hV
    have hol2 := StrVals.len hO
    rw [List.length_map] at hsl hol2
    rcases Nat.lt_or_ge i nt with hlt | hge
    · refine next_rng F N (by omega) hne ?_
      intro h6 F6 N6
      dsimp only
      refine stN F6 N6 (fun h7 F7 N7 => ?_) rfl rfl
      clear F6 N6 F N
      obtain ⟨nf, tf, hf1⟩ := ints_get hI (i := 1 + i) (by omega)
      have hx1 : fvs[Int.toNat (1 + (i : Int))]? = some (.int nf tf) := by rw [← hf1]; congr 1
      have hfr : 0 ≤ nf ∧ nf < 96 := by
        obtain ⟨a, b, e1, e2⟩ := hI.at _ _ hf1
        cases e1
        exact hR _ (List.mem_of_getElem? e2)
      have hfr1 := hfr.1
      have hfr2 := hfr.2
      obtain ⟨hm71, hm72⟩ := fm_pos nf (b := 7) (by decide)
      obtain ⟨hm41, hm42⟩ := fm_pos (nf.fdiv 3) (b := 4) (by decide)
      refine execs_at 2 (fun s' => Hold (∃ h tk9 v2 x t tks, s' = ⟨h, s.gens, s.drawn, tk9, s.os⟩ ∧ Fr g L' h (mSgn fl sl ol b (some (.int i tks)) v2 (some (.str (Sg.str x) t))) ∧ x ≠ .dot ∧ News g L' h ((it, rngIt (i + 1) (nt - i - 1) 1) ::[(ol, listOf ovs.toArray k'), (sl, listOf svs.toArray k)]))) ?_ ?_
      · simp only [List.take_succ_cons, List.take_zero]
        cases b with
        | true =>
          k_steps
          all_goals
            rename News g L' _ _ => N8
            rename Fr g L' _ _ => F8
            exact ⟨_, _, _, _, _, _, rfl, mSgn_set F8, by assumption, news_tail N8⟩
        | false =>
          rcases SgAre.last hO with ⟨rfl, hx⟩ | ⟨ovs0, xs0, xz, tz, rfl, hx, hO2⟩
          · k_steps
            all_goals
              rename News g L' _ _ => N8
              rename Fr g L' _ _ => F8
              first
              | exact ⟨_, _, _, _, _, _, rfl, mSgn_set F8, by assumption, news_tail N8⟩
              | exact ⟨_, _, _, .cma, _, _, rfl, mSgn_set F8, by decide, N8⟩
              | exact ⟨_, _, _, _, _, _, rfl, mSgn_set F8, by assumption, news_tail (news_tail N8)⟩
          · have hzd : xz ≠ .dot := by
              rcases hC xz (by rw [hx]; simp) with rfl | rfl | rfl <;> decide
            k_steps
            all_goals
              rename News g L' _ _ => N8
              rename Fr g L' _ _ => F8
              first
              | exact ⟨_, _, _, _, _, _, rfl, mSgn_set F8, by assumption, news_tail N8⟩
              | exact ⟨_, _, _, .cma, _, _, rfl, mSgn_set F8, by decide, N8⟩
              | exact ⟨_, _, _, _, _, _, rfl, mSgn_set F8, by assumption, N8⟩
              | exact ⟨_, _, _, _, _, _, rfl, mSgn_set F8, by assumption, news_tail (news_tail N8)⟩
              | exact ⟨_, _, _, .bar, _, _, rfl, mSgn_set2 F8, by decide, news_tail N8⟩
      · clear F7 N7 v2 v3
        rintro s' ⟨h, tk9, v2, x, t, tks, rfl, F, hxd, N⟩
        simp only [List.drop_succ_cons, List.drop_zero]
        cases x with
        | dot => exact absurd rfl hxd
        | atm =>
          k_steps
          rename News g L' _ _ => N8
          rename Fr g L' _ _ => F8
          simp only [List.push_toArray] at N8
          replace N8 := news_tail (news_tail (news_tail N8))
          show ∃ m, m < nt - i ∧ _
          exact ⟨nt - (i + 1), by omega, i + 1, _, _, _, _, _, _, xs ++ [.atm], _, _, _, _, _, _, _, rfl, rfl, hlt, mSgn_wait F8, by omega, by omega, N8, hV.snoc _ _, all_snoc hX (by decide), (by simp only [List.length_append, List.length_cons, List.length_nil]; omega), hO, hC, (by first | omega | (simp only [hx, List.length_nil]; omega))⟩
        | num =>
          k_steps
          rename News g L' _ _ => N8
          rename Fr g L' _ _ => F8
          simp only [List.push_toArray] at N8
          replace N8 := news_tail (news_tail (news_tail N8))
          show ∃ m, m < nt - i ∧ _
          exact ⟨nt - (i + 1), by omega, i + 1, _, _, _, _, _, _, xs ++ [.num], _, _, _, _, _, _, _, rfl, rfl, hlt, mSgn_wait F8, by omega, by omega, N8, hV.snoc _ _, all_snoc hX (by decide), (by simp only [List.length_append, List.length_cons, List.length_nil]; omega), hO, hC, (by first | omega | (simp only [hx, List.length_nil]; omega))⟩
        | lp =>
          k_steps
          rename News g L' _ _ => N8
          rename Fr g L' _ _ => F8
          simp only [List.push_toArray] at N8
          replace N8 := news_tail (news_tail N8)
          show ∃ m, m < nt - i ∧ _
          exact ⟨nt - (i + 1), by omega, i + 1, _, _, _, _, _, _, xs ++ [.lp], _, _, _, _, _, _, _, rfl, rfl, hlt, mSgn_wait F8, by omega, by omega, N8, hV.snoc _ _, all_snoc hX (by decide), (by simp only [List.length_append, List.length_cons, List.length_nil]; omega), hO.snoc .rp _, all_snoc hC (by unfold Cls; decide), by simp only [List.length_append, List.length_cons, List.length_nil]; omega⟩
        | fp =>
          k_steps
          rename News g L' _ _ => N8
          rename Fr g L' _ _ => F8
          simp only [List.push_toArray] at N8
          replace N8 := news_tail (news_tail N8)
          show ∃ m, m < nt - i ∧ _
          exact ⟨nt - (i + 1), by omega, i + 1, _, _, _, _, _, _, xs ++ [.fp], _, _, _, _, _, _, _, rfl, rfl, hlt, mSgn_wait F8, by omega, by omega, N8, hV.snoc _ _, all_snoc hX (by decide), (by simp only [List.length_append, List.length_cons, List.length_nil]; omega), hO.snoc .rp _, all_snoc hC (by unfold Cls; decide), by simp only [List.length_append, List.length_cons, List.length_nil]; omega⟩
        | lb =>
          k_steps
          rename News g L' _ _ => N8
          rename Fr g L' _ _ => F8
          simp only [List.push_toArray] at N8
          replace N8 := news_tail (news_tail N8)
          show ∃ m, m < nt - i ∧ _
          exact ⟨nt - (i + 1), by omega, i + 1, _, _, _, _, _, _, xs ++ [.lb], _, _, _, _, _, _, _, rfl, rfl, hlt, mSgn_wait F8, by omega, by omega, N8, hV.snoc _ _, all_snoc hX (by decide), (by simp only [List.length_append, List.length_cons, List.length_nil]; omega), hO.snoc .rb _, all_snoc hC (by unfold Cls; decide), by simp only [List.length_append, List.length_cons, List.length_nil]; omega⟩
        | lc =>
          k_steps
          rename News g L' _ _ => N8
          rename Fr g L' _ _ => F8
          simp only [List.push_toArray] at N8
          replace N8 := news_tail (news_tail N8)
          show ∃ m, m < nt - i ∧ _
          exact ⟨nt - (i + 1), by omega, i + 1, _, _, _, _, _, _, xs ++ [.lc], _, _, _, _, _, _, _, rfl, rfl, hlt, mSgn_wait F8, by omega, by omega, N8, hV.snoc _ _, all_snoc hX (by decide), (by simp only [List.length_append, List.length_cons, List.length_nil]; omega), hO.snoc .rc _, all_snoc hC (by unfold Cls; decide), by simp only [List.length_append, List.length_cons, List.length_nil]; omega⟩
        | rp =>
          rcases SgAre.last hO with ⟨rfl, hx⟩ | ⟨ovs0, xs0, xz, tz, rfl, hx, hO2⟩
          · k_steps
            rename News g L' _ _ => N8
            rename Fr g L' _ _ => F8
            simp only [List.push_toArray] at N8
            replace N8 := news_tail (news_tail (news_tail (news_tail N8)))
            show ∃ m, m < nt - i ∧ _
            exact ⟨nt - (i + 1), by omega, i + 1, _, _, _, _, _, _, xs ++ [.rp], _, _, _, _, _, _, _, rfl, rfl, hlt, mSgn_wait F8, by omega, by omega, N8, hV.snoc _ _, all_snoc hX (by decide), (by simp only [List.length_append, List.length_cons, List.length_nil]; omega), hO, hC, (by first | omega | (simp only [hx, List.length_nil]; omega))⟩
          · rw [hx] at hol hC
            rw [List.length_append] at hol
            have hp0 := StrVals.len hO2
            rw [List.length_map] at hp0
            k_steps
            rename News g L' _ _ => N8
            rename Fr g L' _ _ => F8
            simp only [List.push_toArray] at N8
            replace N8 := news_tail (news_tail (news_tail (news_tail N8)))
            show ∃ m, m < nt - i ∧ _
            exact ⟨nt - (i + 1), by omega, i + 1, _, _, _, _, _, _, xs ++ [.rp], _, _, _, _, _, _, _, rfl, rfl, hlt, mSgn_wait F8, by omega, by omega, N8, hV.snoc _ _, all_snoc hX (by decide), (by simp only [List.length_append, List.length_cons, List.length_nil]; omega), hO2, (fun y hy => hC y (List.mem_append_left _ hy)), (by omega)⟩
        | rb =>
          rcases SgAre.last hO with ⟨rfl, hx⟩ | ⟨ovs0, xs0, xz, tz, rfl, hx, hO2⟩
          · k_steps
            rename News g L' _ _ => N8
            rename Fr g L' _ _ => F8
            simp only [List.push_toArray] at N8
            replace N8 := news_tail (news_tail (news_tail (news_tail N8)))
            show ∃ m, m < nt - i ∧ _
            exact ⟨nt - (i + 1), by omega, i + 1, _, _, _, _, _, _, xs ++ [.rb], _, _, _, _, _, _, _, rfl, rfl, hlt, mSgn_wait F8, by omega, by omega, N8, hV.snoc _ _, all_snoc hX (by decide), (by simp only [List.length_append, List.length_cons, List.length_nil]; omega), hO, hC, (by first | omega | (simp only [hx, List.length_nil]; omega))⟩
          · rw [hx] at hol hC
            rw [List.length_append] at hol
            have hp0 := StrVals.len hO2
            rw [List.length_map] at hp0
            k_steps
            rename News g L' _ _ => N8
            rename Fr g L' _ _ => F8
            simp only [List.push_toArray] at N8
            replace N8 := news_tail (news_tail (news_tail (news_tail N8)))
            show ∃ m, m < nt - i ∧ _
            exact ⟨nt - (i + 1), by omega, i + 1, _, _, _, _, _, _, xs ++ [.rb], _, _, _, _, _, _, _, rfl, rfl, hlt, mSgn_wait F8, by omega, by omega, N8, hV.snoc _ _, all_snoc hX (by decide), (by simp only [List.length_append, List.length_cons, List.length_nil]; omega), hO2, (fun y hy => hC y (List.mem_append_left _ hy)), (by omega)⟩
        | rc =>
          rcases SgAre.last hO with ⟨rfl, hx⟩ | ⟨ovs0, xs0, xz, tz, rfl, hx, hO2⟩
          · k_steps
            rename News g L' _ _ => N8
            rename Fr g L' _ _ => F8
            simp only [List.push_toArray] at N8
            replace N8 := news_tail (news_tail (news_tail (news_tail N8)))
            show ∃ m, m < nt - i ∧ _
            exact ⟨nt - (i + 1), by omega, i + 1, _, _, _, _, _, _, xs ++ [.rc], _, _, _, _, _, _, _, rfl, rfl, hlt, mSgn_wait F8, by omega, by omega, N8, hV.snoc _ _, all_snoc hX (by decide), (by simp only [List.length_append, List.length_cons, List.length_nil]; omega), hO, hC, (by first | omega | (simp only [hx, List.length_nil]; omega))⟩
          · rw [hx] at hol hC
            rw [List.length_append] at hol
            have hp0 := StrVals.len hO2
            rw [List.length_map] at hp0
            k_steps
            rename News g L' _ _ => N8
            rename Fr g L' _ _ => F8
            simp only [List.push_toArray] at N8
            replace N8 := news_tail (news_tail (news_tail (news_tail N8)))
            show ∃ m, m < nt - i ∧ _
            exact ⟨nt - (i + 1), by omega, i + 1, _, _, _, _, _, _, xs ++ [.rc], _, _, _, _, _, _, _, rfl, rfl, hlt, mSgn_wait F8, by omega, by omega, N8, hV.snoc _ _, all_snoc hX (by decide), (by simp only [List.length_append, List.length_cons, List.length_nil]; omega), hO2, (fun y hy => hC y (List.mem_append_left _ hy)), (by omega)⟩
        | cma =>
          k_steps
          rename News g L' _ _ => N8
          rename Fr g L' _ _ => F8
          simp only [List.push_toArray] at N8
          replace N8 := news_tail (news_tail (news_tail N8))
          show ∃ m, m < nt - i ∧ _
          exact ⟨nt - (i + 1), by omega, i + 1, _, _, _, _, _, _, xs ++ [.cma], _, _, _, _, _, _, _, rfl, rfl, hlt, mSgn_wait F8, by omega, by omega, N8, hV.snoc _ _, all_snoc hX (by decide), (by simp only [List.length_append, List.length_cons, List.length_nil]; omega), hO, hC, (by first | omega | (simp only [hx, List.length_nil]; omega))⟩
        | bar =>
          k_steps
          rename News g L' _ _ => N8
          rename Fr g L' _ _ => F8
          simp only [List.push_toArray] at N8
          replace N8 := news_tail (news_tail (news_tail N8))
          show ∃ m, m < nt - i ∧ _
          exact ⟨nt - (i + 1), by omega, i + 1, _, _, _, _, _, _, xs ++ [.bar], _, _, _, _, _, _, _, rfl, rfl, hlt, mSgn_wait F8, by omega, by omega, N8, hV.snoc _ _, all_snoc hX (by decide), (by simp only [List.length_append, List.length_cons, List.length_nil]; omega), hO, hC, (by first | omega | (simp only [hx, List.length_nil]; omega))⟩
    · refine end_rng F N (by omega) hne rfl ?_
      intro h6 F6 N6
      dsimp only
      exact ⟨_, _, _, _, _, _, _, _, _, _, _, _, rfl, F6, N6, hV, hX, by omega, hO, hC, by omega⟩
  · clear N1 F1 N4 F4 N5 F5 l5
    rintro s' ⟨h, tk9, svs, k, ovs, k', xs, ops, b, v1, v2, v3, rfl, F, N, hV, hX, hxl, hO, hC, hol⟩
    have hsl := StrVals.len hV
    have hol2 := StrVals.len hO
    rw [List.length_map] at hsl hol2
    dsimp only
    have fin : ∀ {h h' : Heap} {rest : List (Addr × Obj)} {a : Addr} {ws : List Value} {t ta : Tok} {n} (p q : Bool), News g L' h' ((a, listOf ws.toArray n) :: rest) → ws = svs ++ (if p then [.str (Str.ofString "a") ta] else []) ++ (if q then ovs.reverse else []) ++ [.str (Str.ofString ".") t] →
        ∃ (a' : Addr) (n : Nat) (vs : List Value) (sg : List Sg), Value.ref a = .ref a' ∧ h'.get? a' = some (listOf vs.toArray n) ∧ s.heap.get? a' = none ∧ SgAre vs sg ∧ WF sg := by
      intro h h' rest a ws t ta n p q N e
      obtain ⟨sg, h1, h2⟩ := sgn_fin p q hV hX hxl hO hC hol e
      exact ⟨a, n, ws, sg, rfl, News.get N (.head _), new_of (News.fresh N (.head _)) hg, h1, h2⟩
    cases b with
    | true =>
      k_steps
      all_goals (rename News g L' _ _ => N9; show Q _ _)
      · exact hret _ _ _ (fun b o e n => Fr.keep (by assumption) b o (hg b o e n)) (fin (n := 0) (h := h) true true N9 (by simp; exact ⟨rfl, rfl⟩))
      · exact hret _ _ _ (fun b o e n => Fr.keep (by assumption) b o (hg b o e n)) (fin (n := 0) (h := h) (ta := 0) false true N9 (by simp; rfl))
      · exact hret _ _ _ (fun b o e n => Fr.keep (by assumption) b o (hg b o e n)) (fin (n := 0) (h := h) (ta := 0) false false N9 (by simp; rfl))
    | false =>
      k_steps
      all_goals (rename News g L' _ _ => N9; show Q _ _)
      · exact hret _ _ _ (fun b o e n => Fr.keep (by assumption) b o (hg b o e n)) (fin (n := 0) (h := h) (ta := 0) false true N9 (by simp; rfl))
      · exact hret _ _ _ (fun b o e n => Fr.keep (by assumption) b o (hg b o e n)) (fin (n := 0) (h := h) (ta := 0) false false N9 (by simp; rfl))
end

inductive TK where
  | namA | namF | int7 | opn | opc | pun (x : Sg) | fin
  deriving DecidableEq
namespace TK
def kind : TK → Str
  | namA => Str.ofString "name"
  | namF => Str.ofString "name"
  | int7 => Str.ofString "int"
  | opn => Str.ofString "open"
  | opc => Str.ofString "open_ct"
  | pun _ => Str.ofString "punct"
  | fin => Str.ofString "end"
def val : TK → Tok → Value
  | namA, t => .str (Str.ofString "a") t
  | namF, t => .str (Str.ofString "f") t
  | int7, t => .int 7 t
  | opn, t => .str (Str.ofString "(") t
  | opc, t => .str (Str.ofString "(") t
  | pun x, t => .str x.str t
  | fin, t => .str (Str.ofString ".") t
end TK
def tkOf : Sg → Nat → List (TK × Nat)
  | .atm, a => [(.namA, a)]
  | .num, a => [(.int7, a)]
  | .lp, a => [(.opn, a)]
  | .fp, a => [(.namF, a), (.opc, a + 1)]
  | .dot, a => [(.fin, a)]
  | x, a => [(.pun x, a)]
def toksOf : List Sg → Nat → List (TK × Nat)
  | [], _ => []
  | x :: xs, i => tkOf x (3 * i) ++ toksOf xs (i + 1)
theorem toksOf_snoc : ∀ (l : List Sg) (x : Sg) (k : Nat), toksOf (l ++ [x]) k = toksOf l k ++ tkOf x (3 * (k + l.length))
  | [], x, k => by simp [toksOf]
  | y :: l, x, k => by
    rw [List.cons_append, toksOf, toksOf, toksOf_snoc l x (k + 1), List.append_assoc, List.length_cons]
    congr 3; omega
def TokAt (h : Heap) (v : Value) (d : TK × Nat) : Prop := ∃ (q : Addr) (k1 k2 k3 : Tok) (z : Int), v = .ref q ∧ z = (d.2 : Int) ∧ h.get? q = some (tupOf [.str d.1.kind k1, d.1.val k2, .int z k3])
def TksAt (h : Heap) : List Value → List (TK × Nat) → Prop
  | [], [] => True
  | v :: vs, d :: ds => TokAt h v d ∧ TksAt h vs ds
  | _, _ => False
theorem TokAt.keep {h h' : Heap} (k : KeepT h h') {v : Value} {d : TK × Nat} (x : TokAt h v d) : TokAt h' v d := by
  obtain ⟨q, k1, k2, k3, z, a, b, c⟩ := x
  exact ⟨q, k1, k2, k3, z, a, b, k _ _ c (isTup_of _)⟩
theorem TksAt.keep {h h' : Heap} (k : KeepT h h') : ∀ {vs : List Value} {ds : List (TK × Nat)}, TksAt h vs ds → TksAt h' vs ds
  | [], [], _ => True.intro
  | _ :: _, _ :: _, x => ⟨x.1.keep k, TksAt.keep k x.2⟩
theorem TksAt.app {h : Heap} : ∀ {vs us : List Value} {ds es : List (TK × Nat)}, TksAt h vs ds → TksAt h us es → TksAt h (vs ++ us) (ds ++ es)
  | [], _, [], _, _, y => y
  | _ :: _, _, _ :: _, _, x, y => ⟨x.1, TksAt.app x.2 y⟩
theorem TksAt.len {h : Heap} : ∀ {vs : List Value} {ds : List (TK × Nat)}, TksAt h vs ds → vs.length = ds.length
  | [], [], _ => rfl
  | _ :: _, _ :: _, x => congrArg (· + 1) (TksAt.len x.2)
theorem TksAt.get {h : Heap} : ∀ {vs : List Value} {ds : List (TK × Nat)}, TksAt h vs ds → ∀ {i : Nat} {d : TK × Nat}, ds[i]? = some d → ∃ v, vs[i]? = some v ∧ TokAt h v d
  | [], [], _, _, _, q => by simp at q
  | v :: vs, e :: ds, x, 0, d, q => by
    simp only [List.getElem?_cons_zero, Option.some.injEq] at q
    subst q
    exact ⟨v, rfl, x.1⟩
  | v :: vs, e :: ds, x, i + 1, d, q => by
    simp only [List.getElem?_cons_succ] at q ⊢
    exact TksAt.get x.2 q
theorem toks_len : ∀ (l : List Sg) (k : Nat), (toksOf l k).length ≤ 2 * l.length
  | [], k => Nat.le_refl _
  | x :: l, k => by
    rw [toksOf, List.length_append, List.length_cons]
    have := toks_len l (k + 1)
    have : (tkOf x (3 * k)).length ≤ 2 := by cases x <;> simp [tkOf]
    omega
theorem fresh_tups {g h : Heap} {L : Addr} {m : Str → Option Value} {own im : List (Addr × Obj)} (F : Fr g L h m) (N : News g L h (own ++ im)) : ∃ im', News g L h (own ++ im') ∧ ImK g L h im' ∧ ∀ p ∈ im', isTup p.2 := by
  refine ⟨tupsAt g h, fun p hp => ?_, tups_imK F, fun p hp => (mem_tups.mp hp).2.1⟩
  rcases List.mem_append.mp hp with hp | hp
  · exact N p (List.mem_append_left _ hp)
  · obtain ⟨a, b, c⟩ := mem_tups.mp hp
    exact ⟨a, fun q => frame_noTup F (q ▸ a) b, c⟩
theorem rngIt_noTup (a b c : Int) : ¬ isTup (rngIt a b c) := by
  rintro ⟨e, _⟩
  exact absurd (show Value.type "range_iterator" = Value.type "tuple" from e) (by decide)
def Pun (x : Sg) : Prop := x = .lb ∨ x = .lc ∨ x = .rp ∨ x = .rb ∨ x = .rc ∨ x = .cma ∨ x = .bar
theorem tkOf_pun {x : Sg} (h : Pun x) {a : Nat} : tkOf x a = [(.pun x, a)] := by
  rcases h with rfl | rfl | rfl | rfl | rfl | rfl | rfl <;> rfl
theorem sg_cases (x : Sg) : x = .atm ∨ x = .num ∨ x = .lp ∨ x = .fp ∨ x = .dot ∨ Pun x := by
  cases x <;> simp [Pun]
def mTks (sl tl : Addr) (v1 v2 v3 : Option Value) : Str → Option Value := fun y => if y = Str.ofString "at" then v3 else if y = Str.ofString "sign" then v2 else if y = Str.ofString "step" then v1 else if y = Str.ofString "tokens" then some (.ref tl) else List.lookup y [(Str.ofString "signs", Value.ref sl)].reverse
theorem tick15 {prog : Program} {w : World} {A : Around} {E : Value → Shared → Prop} {s : Shared} {env : Env} {Q : Flow → Shared → Prop} (h : Q .next s) : wpAny (model prog w) A (execs [] env) Q E s := by
  first | (walk1; exact h) | exact wpAny_execs_nil h
section
local macro_rules | `(tactic| walk_at "m fmap") => `(tactic| (intro y; (try unfold mTks); (by_cases e3 : y = Str.ofString "at"; · (subst e3; rfl)); (by_cases e0 : y = Str.ofString "sign"; · (subst e0; rfl)); (by_cases e1 : y = Str.ofString "step"; · (subst e1; rfl)); (by_cases e2 : y = Str.ofString "tokens"; · (subst e2; rfl)); (simp only [e0, e1, e2, e3, if_false])))
theorem mTks_set {g h : Heap} {L sl tl : Addr} {v1 v2 v3 a b c : Option Value} (F : Fr g L h (fun y => if y = Str.ofString "at" then a else if y = Str.ofString "sign" then b else if y = Str.ofString "step" then c else mTks sl tl v1 v2 v3 y)) : Fr g L h (mTks sl tl c b a) :=
  fr_congr F (by walk_at "m fmap")
local macro_rules | `(tactic| k_all) => `(tactic| exact tups_off (by assumption) (by walk_at "m rest") (by assumption) (by k_mem) (list_noTup _ _))
local macro_rules | `(tactic| walk_at "exec For") => `(tactic| refine hold ?_)
local macro_rules | `(tactic| walk_at "exec For Name Call cons nil") => `(tactic| refine hold ?_)
local macro_rules | `(tactic| walk_at "call type:range") => `(tactic| refine hold ?_)
local macro_rules | `(tactic| walk_at "pyIter ref") => `(tactic| refine hold ?_)
local macro_rules | `(tactic| walk_at "call builtin:list.append") => `(tactic| (k_here; (with_reducible show wpAny _ _ (call (Value.builtin _) [Value.ref _, _]) _ _ _); k_dflt (refine' append_K ?k1 ?k2 ?k3 ?_ ?z; (case k1 => k_asm); (case k2 => k_asm); (case k3 => k_upd); (case z => (simp only [List.size_toArray, Array.size_push]; rw [sizeLine_eq]; omega)); k_whole); intro h' F' N'; (try k_sweep)))
set_option maxHeartbeats 4000000 in
theorem does_tokens (w : World) (sl : Addr) (svs : List Value) (sg : List Sg) (hS : SgAre svs sg) (wf : WF sg) :
    Does w 542 1 [.ref sl] [] (fun h => h.IsList sl svs.toArray) (fun h h' r => ∃ (a : Addr) (n : Nat) (tvs : List Value), r = .ref a ∧ h'.get? a = some (listOf tvs.toArray n) ∧ h.get? a = none ∧ TksAt h' tvs (toksOf sg 0)) := by
  walk_at "m fill"
  intro p loose mean mg mb A env outer A₀ base h₀ L m s Q E B F X N T hA hf hk hd hu hh hpre hret
  obtain ⟨ah, dp, fr, gd, un⟩ := A
  obtain rfl : fr = some (env :: outer) := hA
  obtain rfl : ah = none := hh
  replace hd : dp + _ < recursionLimit := hd
  replace hu : un + _ < cLine := hu
  have hsl := StrVals.len hS
  rw [List.length_map] at hsl
  have hsm := wf.small
  refine wpAny_call ?_
  k_dflt (refine' enterD (binds := [(Str.ofString "signs", .ref sl)]) ?k1 ?k2 ?k3 ?k4 ?k5 ?kA ?kF ?kK ?k6 ?k7 ?k8 ?k9 ?kB ?_ ?c2 ?c3 ?c4 ?c5; (case kA => walk_at "m frames"); (case kF => first | assumption | exact rfl); (case kK => first | assumption | exact rfl); (case k1 => k_asm); (case k2 => k_asm); (case k3 => k_asm); (case k4 => k_asm); (case k5 => k_asm); (case k6 => k_is); (case k7 => k_is); (case k8 => walk_at "m room"); (case k9 => first | exact BindsTo.of_eq rfl | exact binds_K (by k_in) rfl (by k_is) rfl rfl rfl); (case c5 => decide); (case kB => exact locs rfl); (case c2 => exact rfl); (case c3 => exact rfl); (case c4 => exact rfl); k_whole)
  intro g L' h₁ F' N' B' X' T' hg hgs
  k_fold
  have hl : g.IsList sl svs.toArray := by obtain ⟨o, ho, r⟩ := hpre; exact ⟨o, hg _ _ ho (by simp), r⟩
  k_steps
  unfold Hold
  refine wpAny_For ?_
  k_steps
  unfold Hold
  rename News g L' _ _ => N1
  rename Fr g L' _ _ => F1
  rename_i tl h1 lt1 h2
  rw [show ((svs.toArray.size : Nat) : Int) = ((sg.length : Nat) : Int) from by rw [List.size_toArray, hsl]]
  refine range1_rows F1 N1 ?_
  intro h4 tk4 _ _ _ hRg F4 N4 _
  k_steps
  unfold Hold
  refine iter_rng F4 N4 hRg (by omega) ?_
  intro it h5 F5 N5 l5
  have q1 : @LT.lt Nat _ tl it := l5 _ (.head _)
  clear hRg
  refine for_P (fun s' => Hold (∃ h tk9 tvs k v1 v2 v3 im, s' = ⟨h, s.gens, s.drawn, tk9, s.os⟩ ∧ Fr g L' h (mTks sl tl v1 v2 v3) ∧ News g L' h ((tl, listOf tvs.toArray k) :: im) ∧ TksAt h tvs (toksOf sg 0)))
    (fun n s' => ∃ i h tk9 tvs k v1 v2 v3 ra rb im, s' = ⟨h, s.gens, s.drawn, tk9, s.os⟩ ∧ n = sg.length - i ∧ i ≤ sg.length ∧ Fr g L' h (mTks sl tl v1 v2 v3) ∧ ra = (i : Int) ∧ rb = (sg.length : Int) - i ∧ News g L' h ((it, rngIt ra rb 1) :: (tl, listOf tvs.toArray k) :: im) ∧ TksAt h tvs (toksOf (sg.take i) 0)) ?_ ?_ sg.length
    ⟨0, _, _, [], 0, none, none, none, _, _, [], rfl, rfl, Nat.zero_le _, fr_congr F5 (by walk_at "m fmap"), rfl, (by omega), N5, True.intro⟩
  · clear N1 F1 N4 F4 N5 F5 l5
    rintro n s' ⟨i, h, tk9, tvs, k, v1, v2, v3, ra, rb, im, rfl, rfl, hi2, F, rfl, rfl, N, hT⟩
    obtain ⟨im2, N2, hIm, hTup⟩ := fresh_tups (own := [_, _]) F N
    dsimp only [List.nil_append, List.cons_append] at N2
    have hne : ∀ p ∈ ((tl : Nat), listOf tvs.toArray k) :: im2, p.1 ≠ it := List.forall_mem_cons.mpr ⟨Nat.ne_of_lt q1, tups_off N2 (by walk_at "m rest") hTup (.head _) (rngIt_noTup _ _ _)⟩
    have htl := TksAt.len hT
    have htk := toks_len (sg.take i) 0
    rw [List.length_take] at htk
    have hoff : ∀ p ∈ im2, @Ne Nat p.1 tl := tups_off N2 (by walk_at "m rest") hTup (.tail _ (.head _)) (list_noTup _ _)
    rcases Nat.lt_or_ge i sg.length with hlt | hge
    · refine next_rng F N2 (by omega) hne ?_
      intro h6 F6 N6
      dsimp only
      obtain ⟨x, hx⟩ : ∃ x, sg[i]? = some x := ⟨_, List.getElem?_eq_getElem hlt⟩
      obtain ⟨tx, hv⟩ := (SgAre.vals hS).2 i x hx
      have hx' : svs[Int.toNat (i : Int)]? = some (.str x.str tx) := hv
      have htake : sg.take (i + 1) = sg.take i ++ [x] := by rw [List.take_add_one, hx]; rfl
      have fin9 : ∀ {h8 : Heap} {tk8 : Nat} {us : List Value} {n8 : Nat} {c b a : Option Value} {im8 : List (Addr × Obj)} {ra rb : Int}, ra = ((i + 1 : Nat) : Int) → rb = (sg.length : Int) - ((i + 1 : Nat) : Int) → Fr g L' h8 (mTks sl tl c b a) → News g L' h8 ((it, rngIt ra rb 1) :: (tl, listOf (tvs ++ us).toArray n8) :: im8) → KeepT h h8 → TksAt h8 us (tkOf x (3 * i)) →
          ∃ m, m < sg.length - i ∧ ∃ i h tk9 tvs k v1 v2 v3 ra rb im, (⟨h8, s.gens, s.drawn, tk8, s.os⟩ : Shared) = ⟨h, s.gens, s.drawn, tk9, s.os⟩ ∧ m = sg.length - i ∧ i ≤ sg.length ∧ Fr g L' h (mTks sl tl v1 v2 v3) ∧ ra = (i : Int) ∧ rb = (sg.length : Int) - i ∧ News g L' h ((it, rngIt ra rb 1) :: (tl, listOf tvs.toArray k) :: im) ∧ TksAt h tvs (toksOf (sg.take i) 0) := by
        intro h8 tk8 us n8 c b a im8 ra rb e1 e2 F8 N8 hk8 ht8
        refine ⟨sg.length - (i + 1), by omega, i + 1, _, _, _, _, _, _, _, _, _, _, rfl, rfl, hlt, F8, e1, e2, N8, ?_⟩
        rw [htake, toksOf_snoc]
        refine TksAt.app (hT.keep hk8) ?_
        rw [List.length_take, Nat.min_eq_left hi2, Nat.zero_add]
        exact ht8
      rcases sg_cases x with hq | hq | hq | hq | hq | hq
      · subst hq
        k_steps
        rename News g L' _ _ => N8
        rename Fr g L' _ _ => F8
        have hk8 : KeepT h _ := hIm _ _ F8 (fun p hp => (N8 p ((by walk_at "m rest" : ∀ p ∈ im2, p ∈ _) p hp)).1)
        have t1 : TokAt _ _ (TK.namA, 3 * i) := ⟨_, _, _, _, _, rfl, by simp, News.get N8 (.head _)⟩
        simp only [List.push_toArray] at N8
        exact fin9 (by omega) (by omega) (mTks_set F8) (news_tail N8) hk8 (by  exact ⟨t1, True.intro⟩)
      · subst hq
        k_steps
        rename News g L' _ _ => N8
        rename Fr g L' _ _ => F8
        have hk8 : KeepT h _ := hIm _ _ F8 (fun p hp => (N8 p ((by walk_at "m rest" : ∀ p ∈ im2, p ∈ _) p hp)).1)
        have t1 : TokAt _ _ (TK.int7, 3 * i) := ⟨_, _, _, _, _, rfl, by simp, News.get N8 (.head _)⟩
        simp only [List.push_toArray] at N8
        exact fin9 (by omega) (by omega) (mTks_set F8) (news_tail N8) hk8 (by  exact ⟨t1, True.intro⟩)
      · subst hq
        k_steps
        rename News g L' _ _ => N8
        rename Fr g L' _ _ => F8
        have hk8 : KeepT h _ := hIm _ _ F8 (fun p hp => (N8 p ((by walk_at "m rest" : ∀ p ∈ im2, p ∈ _) p hp)).1)
        have t1 : TokAt _ _ (TK.opn, 3 * i) := ⟨_, _, _, _, _, rfl, by simp, News.get N8 (.head _)⟩
        simp only [List.push_toArray] at N8
        exact fin9 (by omega) (by omega) (mTks_set F8) (news_tail N8) hk8 (by  exact ⟨t1, True.intro⟩)
      · subst hq
        k_steps
        rename News g L' _ _ => N8
        rename Fr g L' _ _ => F8
        have hk8 : KeepT h _ := hIm _ _ F8 (fun p hp => (N8 p ((by walk_at "m rest" : ∀ p ∈ im2, p ∈ _) p hp)).1)
        have t1 : TokAt _ _ (TK.namF, 3 * i) := ⟨_, _, _, _, _, rfl, by simp, News.get N8 (.tail _ (.head _))⟩
        have t2 : TokAt _ _ (TK.opc, 3 * i + 1) := ⟨_, _, _, _, _, rfl, by simp, News.get N8 (.head _)⟩
        simp only [List.push_toArray, List.append_assoc, List.cons_append, List.nil_append] at N8
        exact fin9 (by omega) (by omega) (mTks_set F8) (news_tail (news_tail N8)) hk8 ⟨t1, t2, True.intro⟩
      · subst hq
        k_steps
        rename News g L' _ _ => N8
        rename Fr g L' _ _ => F8
        have hk8 : KeepT h _ := hIm _ _ F8 (fun p hp => (N8 p ((by walk_at "m rest" : ∀ p ∈ im2, p ∈ _) p hp)).1)
        have t1 : TokAt _ _ (TK.fin, 3 * i) := ⟨_, _, _, _, _, rfl, by simp, News.get N8 (.head _)⟩
        simp only [List.push_toArray] at N8
        exact fin9 (by omega) (by omega) (mTks_set F8) (news_tail N8) hk8 (by  exact ⟨t1, True.intro⟩)
      · have p1 : (x.str == Str.ofString "a") = false := by rcases hq with rfl | rfl | rfl | rfl | rfl | rfl | rfl <;> decide +kernel
        have p2 : (x.str == Str.ofString "7") = false := by rcases hq with rfl | rfl | rfl | rfl | rfl | rfl | rfl <;> decide +kernel
        have p3 : (x.str == Str.ofString "(") = false := by rcases hq with rfl | rfl | rfl | rfl | rfl | rfl | rfl <;> decide +kernel
        have p4 : (x.str == Str.ofString "f(") = false := by rcases hq with rfl | rfl | rfl | rfl | rfl | rfl | rfl <;> decide +kernel
        have p5 : (x.str == Str.ofString ".") = false := by rcases hq with rfl | rfl | rfl | rfl | rfl | rfl | rfl <;> decide +kernel
        k_steps
        rename News g L' _ _ => N8
        rename Fr g L' _ _ => F8
        have hk8 : KeepT h _ := hIm _ _ F8 (fun p hp => (N8 p ((by walk_at "m rest" : ∀ p ∈ im2, p ∈ _) p hp)).1)
        have t1 : TokAt _ _ (TK.pun x, 3 * i) := ⟨_, _, _, _, _, rfl, by simp, News.get N8 (.head _)⟩
        simp only [List.push_toArray] at N8
        exact fin9 (by omega) (by omega) (mTks_set F8) (news_tail N8) hk8 (by rw [tkOf_pun hq]; exact ⟨t1, True.intro⟩)
    · refine end_rng F N2 (by omega) hne rfl ?_
      intro h6 F6 N6
      dsimp only
      have e : sg.take i = sg := List.take_of_length_le hge
      rw [e] at hT
      exact ⟨_, _, _, _, _, _, _, _, rfl, F6, N6, hT.keep (hIm _ _ F6 (fun p hp => (N6 p (.tail _ hp)).1))⟩
  · clear N1 F1 N4 F4 N5 F5 l5
    rintro s' ⟨h, tk9, tvs, k, v1, v2, v3, im, rfl, F, N, hT⟩
    dsimp only
    k_steps
    show Q _ _
    exact hret _ _ _ (fun b o e n => Fr.keep (by assumption) b o (hg b o e n)) ⟨_, _, _, rfl, News.get N (.head _), new_of (News.fresh N (.head _)) hg, hT⟩
end

/-- where the parser lies -/
structure PA where
  p : Nat
  pd : Nat
  o : Nat
  tl : Nat
  fl : Nat
  k1 : Tok
  k2 : Tok
  k3 : Tok
  k4 : Tok
  k5 : Tok
  k6 : Tok
  k7 : Tok
  k8 : Tok
  k9 : Tok
  k10 : Tok
  k11 : Tok
  k12 : Tok
  k13 : Tok
  km : Tok
  nu : Value
  na : Value
  co : Value
  nx : Value
abbrev key (P : Params) (x : String) (k : Tok) (v : Value) : DictEntry := ⟨PyData.keyHash P (Str.ofString x), .str (Str.ofString x) k, v⟩
abbrev PD (P : Params) (β : BA) (π : PA) (pl : Int) (kp : Tok) (lim : Int) (kl : Tok) (tm : Value) (pr : Int) (kr : Tok) : Obj := dictOf [⟨PyData.keyHash P (Str.ofString "symbols"), .str (Str.ofString "symbols") π.k1, .ref β.b⟩,
  ⟨PyData.keyHash P (Str.ofString "operators"), .str (Str.ofString "operators") π.k2, .ref π.o⟩,
  ⟨PyData.keyHash P (Str.ofString "mode"), .str (Str.ofString "mode") π.k3, .str (Str.ofString "codes") π.km⟩,
  ⟨PyData.keyHash P (Str.ofString "tokens"), .str (Str.ofString "tokens") π.k4, .ref π.tl⟩,
  ⟨PyData.keyHash P (Str.ofString "place"), .str (Str.ofString "place") π.k5, .int pl kp⟩,
  ⟨PyData.keyHash P (Str.ofString "frames"), .str (Str.ofString "frames") π.k6, .ref π.fl⟩,
  ⟨PyData.keyHash P (Str.ofString "limit"), .str (Str.ofString "limit") π.k7, .int lim kl⟩,
  ⟨PyData.keyHash P (Str.ofString "term"), .str (Str.ofString "term") π.k8, tm⟩,
  ⟨PyData.keyHash P (Str.ofString "priority"), .str (Str.ofString "priority") π.k9, .int pr kr⟩,
  ⟨PyData.keyHash P (Str.ofString "numbers"), .str (Str.ofString "numbers") π.k10, π.nu⟩,
  ⟨PyData.keyHash P (Str.ofString "names"), .str (Str.ofString "names") π.k11, π.na⟩,
  ⟨PyData.keyHash P (Str.ofString "counts"), .str (Str.ofString "counts") π.k12, π.co⟩,
  ⟨PyData.keyHash P (Str.ofString "next_number"), .str (Str.ofString "next_number") π.k13, π.nx⟩] 13
abbrev PL (P : Params) (β : BA) (π : PA) (pl : Int) (kp : Tok) (lim : Int) (kl : Tok) (tm : Value) (pr : Int) (kr : Tok) : List (Addr × Obj) := [(π.p, instObj 517 π.pd), (π.pd, PD P β π pl kp lim kl tm pr kr)]

local macro_rules | `(tactic| walk_at "m enterK") => `(tactic| (refine' code_def ?k1 ?k2 ?k3 ?k4 ?k5 ?kA ?kF ?kK ?k6 ?k7 ?k8 ?k9 ?kB ?_ ?c2 ?c3 ?c4 ?c5; (case kA => walk_at "m frames"); (case kF => exact rfl); (case kK => exact rfl); (case k1 => k_asm); (case k2 => k_asm); (case k3 => k_asm); (case k4 => k_asm); (case k5 => k_asm); (case k6 => k_is); (case k7 => k_is); (case k8 => walk_at "m room"); (case k9 => first | exact BindsTo.of_eq rfl | exact binds_K (by k_in) rfl (by k_is) rfl rfl rfl); (case c5 => decide); (case kB => exact locs rfl); (case c2 => exact rfl); (case c3 => exact rfl); (case c4 => exact rfl); k_whole; intro g' L' h' FG' F' N' B' X' T'; (try dsimp only); (try k_lift B'); (try k_fold)))
local macro_rules | `(tactic| walk_at "call ref") => `(tactic| (k_here; k_dflt (first
  | (refine' call_cls ?k1 ?k2 ?k3 ?k4 ?k5 ?k6 ?_; (case k1 => k_asm); (case k2 => k_asm); (case k3 => k_asm); (case k4 => k_is); (case k5 => k_is); (case k6 => k_is); k_whole; intro x' d' h' F' N' l1 l2; (try k_lt l1); (try k_lt2 l2); (try k_sweep); walk_at "m enterK")
  | (refine wpAny_call ?_; walk_at "m enterK"))))
local macro_rules | `(tactic| walk_at "m listC") => `(tactic| first | exact Fr.lst (by assumption) (by assumption) | exact Fr.lst (by assumption) (Fr.lst (by assumption) (by assumption)) | exact Fr.lst (by assumption) (Fr.lst (by assumption) (Fr.lst (by assumption) (by assumption))))
local macro_rules | `(tactic| walk_at "m tupC") => `(tactic| first | exact Fr.tup (by assumption) (by assumption) | exact Fr.tup (by assumption) (Fr.tup (by assumption) (by assumption)) | exact Fr.tup (by assumption) (Fr.tup (by assumption) (Fr.tup (by assumption) (by assumption))) | exact News.isTup (by assumption) (by k_mem))
local macro_rules | `(tactic| walk_at "subscriptTail Attribute Name Attribute") => `(tactic| (k_here; (with_reducible show wpAny _ _ (subscriptTail _ _ (Value.ref _) (Value.int _ _)) _ _ _); (with_unfolding_all refine' item_L ?k1 ?k2 ?k3 ?k4 ?_ ?k6; (case k1 => walk_at "m listC"); (case k2 => omega); (case k3 => omega); (case k4 => assumption); (case k6 => with_unfolding_all rfl); k_whole)))
local macro_rules | `(tactic| walk_at "subscriptTail Name Constant ref int") => `(tactic| (k_here; (with_reducible show wpAny _ _ (subscriptTail _ _ (Value.ref _) (Value.int _ _)) _ _ _); (with_unfolding_all refine' item_tupleT ?k1 ?k2 ?k3 ?k4 ?k5 ?_ ?k6; (case k1 => walk_at "m tupC"); (case k2 => decide); (case k3 => decide); (case k4 => rfl); (case k5 => rfl); (case k6 => with_unfolding_all rfl); k_whole)))


/-- where the operator table lies, and what it bears: the comma alone -/
structure OA where
  od : Nat
  pf : Nat
  nf : Nat
  qf : Nat
  ct : Nat
  opf : Obj
  onf : Obj
  oqf : Obj
  m1 : Tok
  m2 : Tok
  m3 : Tok
  m4 : Tok
  t1 : Tok
  t2 : Tok
abbrev OL (P : Params) (β : BA) (o : Nat) (ω : OA) : List (Addr × Obj) := [(o, instObj 286 ω.od), (ω.od, dictOf [⟨PyData.keyHash P (Str.ofString "symbols"), .str (Str.ofString "symbols") ω.m1, .ref β.b⟩,
  ⟨PyData.keyHash P (Str.ofString "prefixes"), .str (Str.ofString "prefixes") ω.m2, .ref ω.pf⟩,
  ⟨PyData.keyHash P (Str.ofString "infixes"), .str (Str.ofString "infixes") ω.m3, .ref ω.nf⟩,
  ⟨PyData.keyHash P (Str.ofString "postfixes"), .str (Str.ofString "postfixes") ω.m4, .ref ω.qf⟩] 4),
  (ω.pf, ω.opf), (ω.nf, ω.onf), (ω.qf, ω.oqf)]
structure OOk (w : World) (ω : OA) : Prop where
  d1 : ω.opf.IsDictOf (intKind PR w) []
  d2 : ω.onf.IsDictOf (intKind PR w) [(7, .ref ω.ct)]
  d3 : ω.oqf.IsDictOf (intKind PR w) []
  lo : (ω.pf == sysModules) = false ∧ (ω.nf == sysModules) = false ∧ (ω.qf == sysModules) = false
theorem comma_none {a : Int} {v : Value} (h : a ≠ 7) : valueAt [((7 : Int), v)] a = none := by
  unfold valueAt
  rw [List.find?_eq_none.mpr]
  · rfl
  · intro x hx
    rw [List.mem_singleton.mp hx]
    simp
    exact fun q => h q.symm
theorem comma_noneS {a : Int} {v : Value} (h : a ≠ 7) : (valueAt [((7 : Int), v)] a).isSome = false := by rw [comma_none h]; rfl
theorem dict_noTup (es : List DictEntry) (n : Nat) : ¬ isTup (dictOf es n) := by rintro ⟨e, _⟩; simp at e
theorem inst_noTup (C d : Addr) : ¬ isTup (instObj C d) := by rintro ⟨e, _⟩; cases e
/-- what lies before another list of names in the ledger -/
theorem rest_start' {g h : Heap} {L : Addr} {P : Params} {β : BA} {c : BC} {own : List (Addr × Obj)} (N : News g L h (own ++ c.L P β)) : News g L h (own ++ Rest P β c []) := by rw [rest_eq, List.append_nil]; exact N
theorem a_ne7 {c : BC} {w : World} {h : Heap} {β : BA} {i : Nat} {x : Str} (ok : c.Ok w h β) (h7 : c.texts[7]? = some (Str.ofString ",")) (hx : c.texts[i]? = some x) (ne : x ≠ Str.ofString ",") : (i : Int) ≠ 7 := fun q => by
  have : i = 7 := by omega
  rw [this, h7] at hx
  exact ne (Option.some.inj hx).symm
theorem OOk.noTup {w : World} {ω : OA} (x : OOk w ω) (P : Params) (β : BA) (o : Nat) : NoTup (OL P β o ω) := by
  obtain ⟨⟨es, ep, ha, _⟩, ⟨es', ep', hb, _⟩, ⟨es'', ep'', hc, _⟩, _⟩ := x
  intro p hp
  simp only [OL, List.mem_cons, List.mem_nil_iff, or_false] at hp
  rcases hp with rfl | rfl | rfl | rfl | rfl
  · exact inst_noTup _ _
  · exact dict_noTup _ _
  · rintro ⟨e, _⟩; rw [ha.1] at e; simp at e
  · rintro ⟨e, _⟩; rw [hb.1] at e; simp at e
  · rintro ⟨e, _⟩; rw [hc.1] at e; simp at e
theorem PL_noTup (P : Params) (β : BA) (π : PA) (pl : Int) (kp : Tok) (lim : Int) (kl : Tok) (tm : Value) (pr : Int) (kr : Tok) : NoTup (PL P β π pl kp lim kl tm pr kr) := by
  intro p hp
  simp only [PL, List.mem_cons, List.mem_nil_iff, or_false] at hp
  rcases hp with rfl | rfl
  · exact inst_noTup _ _
  · exact dict_noTup _ _
theorem NoTup.app {a b : List (Addr × Obj)} (x : NoTup a) (y : NoTup b) : NoTup (a ++ b) := fun p hp => (List.mem_append.mp hp).elim (x p) (y p)
theorem has_app {h : Heap} {a b : List (Addr × Obj)} (x : Has h a) (y : Has h b) : Has h (a ++ b) := fun p hp => (List.mem_append.mp hp).elim (x p) (y p)
theorem has_cons {h : Heap} {p : Addr × Obj} {b : List (Addr × Obj)} (x : h.get? p.1 = some p.2) (y : Has h b) : Has h (p :: b) := List.forall_mem_cons.mpr ⟨x, y⟩
theorem has_nil (h : Heap) : Has h [] := List.forall_mem_nil _

local macro_rules | `(tactic| walk_at "m rest") => `(tactic| (intro _ h; repeat (first | exact h | refine List.Mem.tail _ ?_)))
local macro_rules | `(tactic| walk_at "m tail") => `(tactic| (intro _ h; repeat (first | exact h | exact rest_im _ h | refine List.Mem.tail _ ?_)))
local macro_rules | `(tactic| walk_at "m has") => `(tactic| first | exact has_nil _ | (refine has_cons ((by assumption : News _ _ _ _) _ (by k_mem)).1 ?_; walk_at "m has"))


theorem tick16 {prog : Program} {w : World} {A : Around} {E : Value → Shared → Prop} {s : Shared} {env : Env} {Q : Flow → Shared → Prop} (h : Q .next s) : wpAny (model prog w) A (execs [] env) Q E s := by
  first | (walk1; exact h) | exact wpAny_execs_nil h
section
variable {prog : Program} {w : World} {A : Around} {E : Value → Shared → Prop} {h : Heap} {g : Array GenState} {d : Drawn} {t : Nat} {os : OsState}
variable {nm q : Str} {C N : Addr} {bs bm bmB : List Value} {hdct : Bool} {sn : List Str} {sub : List Value} {ab : Bool} {col : Option Bool} {dd : Option Addr} {k0 k1 k2 k3 k5 : Option Value} {B newId initId : String}
abbrev excObj (C t : Addr) (ed : Option Addr) : Obj := { cls := .ref C, dict := ed, data := .fields #[.ref t, .none, .none, .none, .bool false, .none], slots := #[] }
theorem type_call_own (F : ExcBaseFacts B newId initId bmB) (T : OwnTail h bmB bm) {mN : Str → Option Value} {rest : List Value} {fI : Addr} {oI : Obj} {Q : Fin → Shared → Prop}
    (hC : h.get? C = some (excClassObj nm q C N bs bm hdct sn sub ab col dd k0 k1 k2 k3 k5 newId)) (hn : h.Ns N mN) (hi : mN "__init__" = some (.ref fI)) (hfI : h.get? fI = some oI) (hfc : oI.cls = .type "function")
    (hq : wpAny (model prog w) A (call (.ref fI) (.ref (h.objs.size + 1) :: rest)) (fun r s' => r = .none ∧ Q (.done (.ret (.ref (h.objs.size + 1)))) s') E ⟨(h.push (tupOf rest)).push (excObj C h.objs.size none), g, d, t, os⟩) (hrest : rest.length ≤ sizeLine) :
    wpAny (model prog w) A (Builtin.«type.__call__» ⟨.ref C :: rest, []⟩) Q E ⟨h, g, d, t, os⟩ := by
  repeat (first | with_reducible refine wpAny_loadPart_at hC ?_ | with_reducible refine wpAny_madeBy_exc hC ?_ | wp_step)
  refine codeAny_call_builtin_code (Code.quiet_builtin _ F.quiet) (wpAny_check_new_subT F T hC ?_)
  refine codeAny_exc_new_subT F T hC ?_ hrest
  show wpAny _ _ _ _ _ _
  have kp : ∀ b o, h.get? b = some o → ((h.push (tupOf rest)).push (excObj C h.objs.size none)).get? b = some o := fun b o e => Heap.get?_push_of_some _ (Heap.get?_push_of_some _ e)
  have hC₁ := kp _ _ hC
  have hfI₁ := kp _ _ hfI
  have hn₁ := hn.keeps kp
  have T₁ := T.keeps kp
  have hget : ((h.push (tupOf rest)).push (excObj C h.objs.size none)).get? (h.objs.size + 1) = some (excObj C h.objs.size none) := by heap_get
  have hcC : (Value.ref C :: bm).contains (.ref C) = true := by simp
  unfold isInstance
  repeat (first | with_reducible refine wpAny_loadPart_at hget ?_ | (with_reducible refine wpAny_isSubtype_exc hC₁ ?_; rw [hcC]) | wp_step)
  show wpAny _ _ (typeLookup (.ref C) _) _ _ _
  refine wpAny_typeLookup_tail hC₁ hn₁ T₁ F.mroIs F.init.lookup ?_
  rw [hi]
  refine wpAny_holding (wpAny_bind ?_)
  unfold bindSpecial
  refine wpAny_bind (wpAny_typeOf (T := "function") ⟨_, hfI₁, hfc⟩ ?_)
  rw [if_pos (by decide)]
  refine wpAny_pure (wpAny_bind (wpAny_mono hq (fun r s' hr => ?_) fun _ _ x => x))
  obtain ⟨rfl, hQ⟩ := hr
  wp_walk
  exact hQ
theorem call_own (F : ExcBaseFacts B newId initId bmB) (T : OwnTail h bmB bm) {mN : Str → Option Value} {rest : List Value} {fI : Addr} {oI : Obj} {Q : Value → Shared → Prop}
    (hC : h.get? C = some (excClassObj nm q C N bs bm hdct sn sub ab col dd k0 k1 k2 k3 k5 newId)) (hn : h.Ns N mN) (hi : mN "__init__" = some (.ref fI)) (hfI : h.get? fI = some oI) (hfc : oI.cls = .type "function")
    (hq : wpAny (model prog w) (A.under (.builtin "type.__call__" ⟨.ref C :: rest, []⟩)) (call (.ref fI) (.ref (h.objs.size + 1) :: rest)) (fun r s' => r = .none ∧ Q (.ref (h.objs.size + 1)) s') E ⟨(h.push (tupOf rest)).push (excObj C h.objs.size none), g, d, t, os⟩) (hrest : rest.length ≤ sizeLine) :
    wpAny (model prog w) A (call (.ref C) rest) Q E ⟨h, g, d, t, os⟩ := by
  have f1 := tc_lookup
  have f2 := PySem.tc_bind (.ref C)
  have hT : (⟨h, g, d, t, os⟩ : Shared).TypeIs (.ref C) "type" := ⟨_, hC, rfl⟩
  refine wpAny_call (codeAny_of_tree ?_)
  show wpAny _ _ (callAny (.ref C) _) _ _ _
  repeat (any_goals (first | assumption | with_reducible refine wpAny_loadPart_at hC ?_ | wp_step))
  refine ⟨rfl, ?_⟩
  exact codeAny_call_builtin_at (Code.quiet_builtin _ (by decide +kernel)) entry_typeCall (wpAny_check_type_call_sub hC (type_call_own F T hC hn hi hfI hfc hq hrest))
end
abbrev bmE : List Value := [.type "Exception", .type "BaseException", .type "object"]
theorem nsMap_of_in {K : Frag} {h : Heap} {N : Addr} {x : Str} {v : Value} (X : K.In h) (e : nsOkIn K N = true) (q : nsIn K N x = some (some v)) : h.nsMap N x = some v := by
  unfold nsIn at q
  split at q
  · rename_i c dc es n sl hk
    unfold Heap.nsMap
    rw [X _ _ hk]
    dsimp only
    split at q
    · rename_i en he
      cases q
      unfold nsFind findBy
      rw [← Array.find?_toList, he]
      rfl
    · split at q
      · cases q
      · cases q
  · cases q
theorem tick17 {prog : Program} {w : World} {A : Around} {E : Value → Shared → Prop} {s : Shared} {env : Env} {Q : Flow → Shared → Prop} (h : Q .next s) : wpAny (model prog w) A (execs [] env) Q E s := by
  first | (walk1; exact h) | exact wpAny_execs_nil h
section
variable {prog : Program} {w : World} {A : Around} {E : Value → Shared → Prop} {s : Shared} {L : Addr} {h₀ : Heap} {m : Str → Option Value} {news : List (Addr × Obj)}
theorem make_fault {rest : List Value} {Q : Value → Shared → Prop} (F : Fr h₀ L s.heap m) (X₀ : (Mine.hd.heap_39 w.params).In h₀) (N : News h₀ L s.heap news) (hr : rest.length ≤ 1000)
    (h : ∀ (e t : Nat) h', Fr h₀ L h' m → News h₀ L h' ((e, excObj 51 t none) :: (t, tupOf rest) :: news) → (∀ p ∈ news, p.1 < t) → t < e → (∀ b o, s.heap.get? b = some o → h'.get? b = some o) → s.heap.get? e = none → s.heap.get? t = none →
      wpAny (model prog w) (A.under (.builtin "type.__call__" ⟨.ref 51 :: rest, []⟩)) (call (.ref 48) (.ref e :: rest)) (fun r s' => r = .none ∧ Q (.ref e) s') E { s with heap := h' }) :
    wpAny (model prog w) A (call (.ref 51) rest) Q E s := by
  obtain ⟨hh, g, d, t, os⟩ := s
  have X := X₀.keeps F.keep
  have kp : ∀ b o, hh.get? b = some o → ((hh.push (tupOf rest)).push (excObj 51 hh.objs.size none)).get? b = some o := fun b o e => Heap.get?_push_of_some _ (Heap.get?_push_of_some _ e)
  refine call_own (C := 51) (N := 50) (bm := .ref 31 :: bmE) (fI := 48) PySem.F.excBase_Exception (tail_of_in X (by kernel_rfl)) (X 51 _ rfl) (.of_isNs (isNs_of_in X (by kernel_rfl))) (nsMap_of_in X (by kernel_rfl) (by kernel_rfl)) (X 48 _ rfl) rfl ?_ (by rw [sizeLine_eq]; omega)
  refine h (hh.objs.size + 1) hh.objs.size _ ((F.push _).push _) ?_ (fun p hp => Heap.lt_size (N p hp).1) (Nat.lt_succ_self _) kp ?_ ?_
  · have := (N.push F (tupOf rest)).push (F.push _) (excObj 51 hh.objs.size none)
    rwa [Heap.size_push] at this
  · exact Heap.get?_none_of_le (Nat.le_succ _)
  · exact Heap.get?_none_of_le (Nat.le_refl _)
end

/-- a dict of names, as an object -/
structure NsObj (od : Obj) (mA : Str → Option Value) (ns : List Str) : Prop where
  data : ∃ es ep, od.data = .dict es ep ∧ StrKeys es ∧ UniqKeys es ∧ ∀ name, nsFind es name = mA name
  win : Within mA ns
  len : ns.length ≤ 100
theorem NsObj.ns1 {h : Heap} {d : Addr} {od : Obj} {mA : Str → Option Value} {ns : List Str} (x : NsObj od mA ns) (e : h.get? d = some od) : h.Ns1 d mA := by
  obtain ⟨es, ep, a, b, c, f⟩ := x.data
  exact ⟨od, es, ep, e, a, b, c, f⟩
theorem NsObj.of_ns1 {h : Heap} {d : Addr} {mA : Str → Option Value} {ns : List Str} (x : h.Ns1 d mA) (hw : Within mA ns) (hl : ns.length ≤ 100) : ∃ od, h.get? d = some od ∧ NsObj od mA ns := by
  obtain ⟨o, es, ep, e, r⟩ := x
  exact ⟨o, e, ⟨⟨es, ep, r⟩, hw, hl⟩⟩
theorem tick18 {prog : Program} {w : World} {A : Around} {E : Value → Shared → Prop} {s : Shared} {env : Env} {Q : Flow → Shared → Prop} (h : Q .next s) : wpAny (model prog w) A (execs [] env) Q E s := by
  first | (walk1; exact h) | exact wpAny_execs_nil h
section
variable {prog : Program} {w : World} {A : Around} {E : Value → Shared → Prop} {s : Shared} {L : Addr} {h₀ : Heap} {m : Str → Option Value} {news : List (Addr × Obj)} {K : Frag}
def mroE (K : Frag) : Bool := (clsIn K 51).any fun cd => cd.mro == .ref 51 :: .ref 31 :: bmE && cd.hasDict
theorem exc_open {x : Addr} {ox : Obj} {od : Option Obj} {name : Str} {v : Value} {Q : Unit → Shared → Prop} (X : K.In s.heap) (I : InstAt s.heap x ox 51 od) (hm : mroE K = true)
    (hs : findIn K (.ref 51) "__setattr__" = some (some (.builtin "object.__setattr__"))) (ht : findIn K (.ref 51) name = some none)
    (h : ∀ cd b, clsIn K 51 = some cd → cd.hasDict = true → wpAny (model prog w) A.in1 (Builtin.ObjectAttr.storeInOwnDict (.ref x) (.ref 51) (.str name s.toks) name v b) (fun fin s' => fin = Fin.done (.ret .none) ∧ Q () s') (fun _ _ => False) { s with toks := s.toks + 1 }) :
    wpAny (model prog w) A (setAttr (.ref x) name v) Q E s := by
  refine set_plain X I hs ?_
  have SF := PySem.F.store_object
  have SE := PySem.F.store_Exception
  obtain ⟨cd, hc, hcm⟩ := any_some hm
  rw [Bool.and_eq_true, beq_iff_eq] at hcm
  obtain ⟨ho, hd⟩ := hcm
  have X1 : K.In ({ s with toks := s.toks + 1 } : Shared).heap := X
  have I1 : InstAt ({ s with toks := s.toks + 1 } : Shared).heap x ox 51 od := I
  have sub : Looks (model prog w) ({ s with toks := s.toks + 1 } : Shared).heap (isInstance (.ref x) (.type "object")) true := I1.type.andThen (looks_mroIn X1 (by unfold mroIn; rw [hc, Option.bind_some, ho]; rfl))
  refine codeAny_call_builtin SF.slot.plain SF.entry (@check_slot (model prog w) _ _ _ "object.__setattr__" "object" "__setattr__" (.ref x) [.str name s.toks, v] [] _ SF.kind SF.split sub (SF.args (.ref x) (.str name s.toks) v) ?_)
  have hmr : Looks (model prog w) ({ s with toks := s.toks + 1 } : Shared).heap (mroOf (.ref 51)) cd.mro := (looks_clsIn X1 hc).andThen .now
  rw [osa_eq, refuse_eq]
  refine wpAny_bind (wpAny_bind (I1.type.here (wpAny_bind (hmr.here ?_))))
  rw [ho, refuseLoop_ref, refuseLoop_ref, SE.passes]
  refine wpAny_pure (wpAny_bind (I1.type.here (wpAny_bind ((looks_findIn X1 ht).here (wpAny_bind (Looks.here (r := none) .now ?_))))))
  refine wpAny_mono (h cd _ hc hd) (fun fin s' q => ?_) fun _ _ e => e.elim
  obtain ⟨rfl, q⟩ := q
  exact q

/-- the store into the dict, once it is there -/
theorem exc_inDict {dx : Addr} {mA : Str → Option Value} {ns : List Str} {name : Str} {tk : Tok} {v : Value} {Q : Shared → Prop} (H : s.heap.Ns1 dx mA) (hw : Within mA ns) (hl : ns.length ≤ 90)
    (h : ∀ h' tk', h'.Ns1 dx (fun y => if y = name then some v else mA y) → Heap.SameBut dx s.heap h' → Q { s with heap := h', toks := tk' }) :
    wpAny (model prog w) A (Builtin.ObjectAttr.storeInDict dx (.str name tk) name v) (fun fin s' => fin = Fin.done (.ret .none) ∧ Q s') (fun _ _ => False) s := by
  unfold Builtin.ObjectAttr.storeInDict Builtin.ObjectAttr.newKeyGuard
  refine wpAny_bind (wpAny_pure (wpAny_bind (wpAny_nsSet1 H fun h' hn' hs => ?_)))
  obtain ⟨oD, esD, epD, hoD, hdD, hcD⟩ := hn'.count (Within.cons name v hw)
  refine wpAny_bind (wpAny_lookBehind hoD (by rw [hdD]; exact pastItsLine_dict (Nat.le_trans hcD (by rw [List.length_cons, sizeLine_eq]; omega))) ?_)
  exact wpAny_pure ⟨rfl, h _ _ hn' hs⟩
theorem exc_setL {x dx t : Addr} {od : Obj} {mA : Str → Option Value} {ns : List Str} {g : Obj → List (Addr × Obj)} {name : Str} {v : Value} {Q : Unit → Shared → Prop} (F : Fr h₀ L s.heap m) (X₀ : K.In h₀) (N : News h₀ L s.heap news) (hx : (x, excObj 51 t (some dx)) ∈ news) (U : UpdF dx od news g) (D : NsObj od mA ns) (hl : ns.length ≤ 90)
    (hm : mroE K = true) (hs : findIn K (.ref 51) "__setattr__" = some (some (.builtin "object.__setattr__"))) (ht : findIn K (.ref 51) name = some none)
    (h : ∀ h' od' tk', Fr h₀ L h' m → News h₀ L h' (g od') → NsObj od' (fun y => if y = name then some v else mA y) (name :: ns) → Q () { s with heap := h', toks := tk' }) : wpAny (model prog w) A (setAttr (.ref x) name v) Q E s := by
  obtain ⟨pre, post, rfl, hg, a, c⟩ := U.split
  have X := X₀.keeps F.keep
  have zx := N _ hx
  have zd := N (dx, od) (List.mem_append_right _ (.head _))
  refine exc_open (od := some od) X ⟨zx.1, rfl, rfl, zd.1⟩ hm hs ht fun cd b hc hd => ?_
  refine wpAny_bind (wpAny_pure (wpAny_bind (wpAny_bind (wpAny_loadPart zx.1 (wpAny_bind (Looks.here (s := { s with toks := s.toks + 1 }) (looks_clsIn X hc) ?_))))))
  rw [hd]
  refine wpAny_pure (a := some dx) (exc_inDict (D.ns1 zd.1) D.win hl fun h' tk' hn hs' => ?_)
  obtain ⟨od', e', D'⟩ := NsObj.of_ns1 hn (Within.cons name v D.win) (by rw [List.length_cons]; omega)
  exact h h' od' tk' (F.change hs' zd.2.1 zd.2.2) (hg od' ▸ N.setIn a c hs' e') D'
theorem exc_setF {x t : Addr} {g : Obj → List (Addr × Obj)} {name : Str} {v : Value} {Q : Unit → Shared → Prop} (F : Fr h₀ L s.heap m) (X₀ : K.In h₀) (N : News h₀ L s.heap news) (U : UpdF x (excObj 51 t none) news g)
    (hm : mroE K = true) (hs : findIn K (.ref 51) "__setattr__" = some (some (.builtin "object.__setattr__"))) (ht : findIn K (.ref 51) name = some none)
    (h : ∀ (dx : Nat) h' od' tk', Fr h₀ L h' m → News h₀ L h' ((dx, od') :: g (excObj 51 t (some dx))) → NsObj od' (fun y => if y = name then some v else none) [name] → (∀ p ∈ news, p.1 < dx) → Q () { s with heap := h', toks := tk' }) : wpAny (model prog w) A (setAttr (.ref x) name v) Q E s := by
  obtain ⟨pre, post, rfl, hg, a, c⟩ := U.split
  have X := X₀.keeps F.keep
  have zx := N (x, excObj 51 t none) (List.mem_append_right _ (.head _))
  refine exc_open (od := none) X ⟨zx.1, rfl, rfl, True.intro⟩ hm hs ht fun cd b hc hd => ?_
  refine wpAny_bind (wpAny_pure (wpAny_bind (wpAny_bind (wpAny_loadPart zx.1 (wpAny_bind (Looks.here (s := { s with toks := s.toks + 1 }) (looks_clsIn X hc) ?_))))))
  rw [hd]
  have hxs : x ≠ s.heap.objs.size := Nat.ne_of_lt (Heap.lt_size zx.1)
  have hx₁ : (s.heap.push emptyDict).get? x = some (excObj 51 t none) := Heap.get?_push_of_some _ zx.1
  show wpAny _ _ (do let d ← alloc emptyDict; update x fun o => { cls := o.cls, dict := some d, data := o.data, slots := o.slots }; dictMade (.ref 51) x d) _ _ _
  refine wpAny_bind (wpAny_alloc' ?_)
  refine wpAny_bind (wpAny_update' hx₁ ?_)
  refine wpAny_pure (a := some s.heap.objs.size) ?_
  have hs₁ : Heap.SameBut x (s.heap.push emptyDict) ((s.heap.push emptyDict).update x fun o => { cls := o.cls, dict := some s.heap.objs.size, data := o.data, slots := o.slots }) := Heap.SameBut.update ..
  have hxx : ((s.heap.push emptyDict).update x fun o => { cls := o.cls, dict := some s.heap.objs.size, data := o.data, slots := o.slots }).get? x = some (excObj 51 t (some s.heap.objs.size)) := Heap.get?_update_self _ hx₁ rfl
  have hgd : ((s.heap.push emptyDict).update x fun o => { cls := o.cls, dict := some s.heap.objs.size, data := o.data, slots := o.slots }).get? s.heap.objs.size = some emptyDict :=
    (hs₁.2 _ hxs.symm).trans (Heap.get?_push_at rfl rfl)
  have N1 := N.push F emptyDict
  have F1 : Fr h₀ L (s.heap.push emptyDict) m := F.push _
  have F2 := F1.change hs₁ zx.2.1 zx.2.2
  have hlt : ∀ p ∈ pre ++ (x, excObj 51 t none) :: post, p.1 < s.heap.objs.size := fun p hp => Heap.lt_size (N p hp).1
  have N2 : News h₀ L ((s.heap.push emptyDict).update x fun o => { cls := o.cls, dict := some s.heap.objs.size, data := o.data, slots := o.slots }) ((s.heap.objs.size, emptyDict) :: g (excObj 51 t (some s.heap.objs.size))) := by
    rw [hg]
    exact News.setIn (own := (s.heap.objs.size, emptyDict) :: pre) N1 (List.forall_mem_cons.mpr ⟨hxs.symm, a⟩) c hs₁ hxx
  refine exc_inDict (Heap.Ns1.of_empty ⟨_, #[], _, hgd, rfl, fun e he => absurd he (by simp), fun _ => rfl⟩) Within.nil (by decide) fun h' tk' hn hs' => ?_
  obtain ⟨od', e', D'⟩ := NsObj.of_ns1 hn (Within.cons name v Within.nil) (by simp)
  have zz := N2 _ (.head _)
  refine h s.heap.objs.size h' od' tk' (F2.change hs' zz.2.1 zz.2.2) (News.setIn (own := []) N2 (fun _ q => nomatch q) ?_ hs' e') D' hlt
  intro p hp
  rw [hg] at hp
  rcases List.mem_append.mp hp with q | q
  · exact Nat.ne_of_lt (hlt p (List.mem_append_left _ q))
  · rcases List.mem_cons.mp q with q | q
    · rw [q]; exact hxs
    · exact Nat.ne_of_lt (hlt p (List.mem_append_right _ (.tail _ q)))
end

structure FaultAt (h0 h : Heap) (r : Value) (kind : Str) (at_ : Int) (e dx : Addr) (od : Obj) (mA : Str → Option Value) (ns : List Str) : Prop where
  rr : r = .ref e
  ex : ∃ t, h.get? e = some (excObj 51 t (some dx))
  dd : h.get? dx = some od
  ns : NsObj od mA ns
  kd : ∃ k, mA (Str.ofString "kind") = some (.str kind k)
  at_ : ∃ k, mA (Str.ofString "at") = some (.int at_ k)
  ne : @Ne Nat e dx
  en : h0.get? e = none
  dn : h0.get? dx = none
theorem ns_ne {h : Heap} {e dx t : Addr} {x : Option Addr} {od : Obj} {mA : Str → Option Value} {ns : List Str} (a : h.get? e = some (excObj 51 t x)) (b : h.get? dx = some od) (D : NsObj od mA ns) : @Ne Nat e dx := fun q => by
  obtain ⟨es, ep, hd, _⟩ := D.data
  have a' : h.get? dx = some (excObj 51 t x) := q ▸ a
  rw [b] at a'
  cases a'
  cases hd
theorem tick19 {prog : Program} {w : World} {A : Around} {E : Value → Shared → Prop} {s : Shared} {env : Env} {Q : Flow → Shared → Prop} (h : Q .next s) : wpAny (model prog w) A (execs [] env) Q E s := by
  first | (walk1; exact h) | exact wpAny_execs_nil h
section
local macro_rules | `(tactic| walk_at "call ref") => `(tactic| (k_here; (with_reducible show wpAny _ _ (call (Value.ref 51) _) _ _ _); k_dflt (refine' make_fault ?k1 ?k2 ?k3 ?k4 ?_; (case k1 => k_asm); (case k2 => k_asm); (case k3 => k_asm); (case k4 => simp); k_whole); intro e t h' F' N' l1 l2 hkc hxn hdn; (try k_lt l1); (try k_lt2 l2); (try k_sweep)))
local macro_rules | `(tactic| walk_at "setAttr ref") => `(tactic| (k_here; k_dflt (first
  | (refine' exc_setF ?k1 ?k2 ?k3 ?k4 ?k5 ?k6 ?k7 ?_; (case k1 => k_asm); (case k2 => k_asm); (case k3 => k_asm); (case k4 => k_updF); (case k5 => kernel_rfl); (case k6 => kernel_rfl); (case k7 => kernel_rfl); k_whole; intro dx h' od' tk' F' N' hNs l1; (try k_lt l1); (try dsimp only at N'); (try k_sweep))
  | (refine' exc_setL ?k1 ?k2 ?k3 ?kx ?k4 ?kd ?kl ?k5 ?k6 ?k7 ?_; (case k1 => k_asm); (case k2 => k_asm); (case k3 => k_asm); (case kx => k_mem); (case k4 => k_updF); (case kd => assumption); (case kl => simp); (case k5 => kernel_rfl); (case k6 => kernel_rfl); (case k7 => kernel_rfl); k_whole; intro h' od' tk' F' N' hNs; (try dsimp only at N'); (try k_sweep)))))
set_option maxHeartbeats 4000000 in
theorem does_fault (w : World) (pv q : Addr) (kind : Str) (kt : Tok) (z : Int) (v1 v2 : Value) (k3 : Tok) :
    Does w 383 4 [.ref pv, .str kind kt, .ref q] [] (fun h => h.get? q = some (tupOf [v1, v2, .int z k3])) (fun h h' r => ∃ e dx od mA ns, FaultAt h h' r kind z e dx od mA ns) := by
  walk_at "m fill"
  intro p loose mean mg mb A env outer A₀ base h₀ L m s Q E B F X N T hA hf hk hd hu hh hpre hret
  obtain ⟨ah, dp, fr, gd, un⟩ := A
  obtain rfl : fr = some (env :: outer) := hA
  obtain rfl : ah = none := hh
  replace hd : dp + _ < recursionLimit := hd
  replace hu : un + _ < cLine := hu
  refine wpAny_call ?_
  k_dflt (refine' enterD (binds := [(Str.ofString "self", .ref pv), (Str.ofString "kind", .str kind kt), (Str.ofString "token", .ref q)]) ?k1 ?k2 ?k3 ?k4 ?k5 ?kA ?kF ?kK ?k6 ?k7 ?k8 ?k9 ?kB ?_ ?c2 ?c3 ?c4 ?c5; (case kA => walk_at "m frames"); (case kF => first | assumption | exact rfl); (case kK => first | assumption | exact rfl); (case k1 => k_asm); (case k2 => k_asm); (case k3 => k_asm); (case k4 => k_asm); (case k5 => k_asm); (case k6 => k_is); (case k7 => k_is); (case k8 => walk_at "m room"); (case k9 => first | exact BindsTo.of_eq rfl | exact binds_K (by k_in) rfl (by k_is) rfl rfl rfl); (case c5 => decide); (case kB => exact locs rfl); (case c2 => exact rfl); (case c3 => exact rfl); (case c4 => exact rfl); k_whole)
  intro g L' h₁ F' N' B' X' T' hg hgs
  k_fold
  have hqt : IsTup g q [v1, v2, .int z k3].toArray := ⟨_, hg _ _ hpre (by simp), rfl, _, rfl⟩
  k_steps
  rename News g L' _ _ => N9
  rename NsObj _ _ _ => D9
  show Q _ _
  refine hret _ _ _ (fun b o e n => Fr.keep (by assumption) b o (hg b o e n)) ⟨_, _, _, _, _, rfl, ⟨_, News.get N9 (.tail _ (.head _))⟩, News.get N9 (.head _), D9, ⟨_, rfl⟩, ⟨_, rfl⟩, ?_, new_of (News.fresh N9 (.tail _ (.head _))) hg, new_of (News.fresh N9 (.head _)) hg⟩
  exact ns_ne (News.get N9 (.tail _ (.head _))) (News.get N9 (.head _)) D9
end

theorem tick20 {prog : Program} {w : World} {A : Around} {E : Value → Shared → Prop} {s : Shared} {env : Env} {Q : Flow → Shared → Prop} (h : Q .next s) : wpAny (model prog w) A (execs [] env) Q E s := by
  first | (walk1; exact h) | exact wpAny_execs_nil h
section
variable {prog : Program} {w : World} {A : Around} {E : Value → Shared → Prop} {s : Shared} {env : Env} {P : Params}
theorem clsObj {h : Heap} (X : (Mine.hd.heap_39 P).In h) : ∃ nm q bs hdct sn sub ab col dd k0 k1 k2 k3 k5 newId, h.get? 51 = some (excClassObj nm q 51 50 bs (.ref 31 :: bmE) hdct sn sub ab col dd k0 k1 k2 k3 k5 newId) :=
  ⟨_, _, _, _, _, _, _, _, _, _, _, _, _, _, _, X 51 _ rfl⟩
theorem raiseStmt_own {M : Model} {x : Sem Value} {Q : Flow → Shared → Prop} (hh : A.handled = none)
    (h : wpAny M A x (fun v s₁ => ∃ e t dx, v = .ref e ∧ (Mine.hd.heap_39 P).In s₁.heap ∧ s₁.heap.get? e = some (excObj 51 t dx) ∧ E (.ref e) s₁) E s) :
    wpAny M A (raiseStmt env (some x) none) Q E s := by
  unfold raiseStmt
  refine wpAny_bind (wpAny_mono h (fun v s₁ h₁ => ?_) fun _ _ x => x)
  obtain ⟨e, t, dx, rfl, X, he, hE⟩ := h₁
  obtain ⟨nm, q, bs, hdct, sn, sub, ab, col, dd, k0, k1, k2, k3, k5, newId, hC⟩ := clsObj X
  have hcB : (Value.ref 51 :: .ref 31 :: bmE).contains (.type "BaseException") = true := by decide
  obtain ⟨hp, g, d, tk, os⟩ := s₁
  repeat (first | with_reducible refine wpAny_loadPart_at he ?_ | with_reducible refine wpAny_loadPart_at hC ?_ | (with_reducible refine wpAny_isSubtype_exc hC ?_; rw [hcB]) | wp_step)
  exact wpAny_raiseNew_none hh hE
theorem raise_own {M : Model} {x : PySem.Expr} {pos : Pos} {Q : Flow → Shared → Prop} (hh : A.handled = none)
    (h : wpAny M A (eval x env) (fun v s₁ => ∃ e t dx, v = .ref e ∧ (Mine.hd.heap_39 P).In s₁.heap ∧ s₁.heap.get? e = some (excObj 51 t dx) ∧ E (.ref e) s₁) E s) :
    wpAny M A (exec (.Raise (some x) none pos) env) Q E s := by
  show wpAny M A (do standAt pos; raiseStmt env (some (do let v ← eval x env; standAt pos; pure v)) none) Q E s
  exact wpAny_bind (wpAny_standAt (raiseStmt_own (P := P) hh (wpAny_bind (wpAny_mono h (fun v s₁ h₁ => wpAny_bind (wpAny_standAt (wpAny_pure h₁))) fun _ _ x => x))))
/-- what a raise wants of the value -/
def RaiseK (P : Params) (E : Value → Shared → Prop) (v : Value) (s : Shared) : Prop := ∃ e t dx, v = .ref e ∧ (Mine.hd.heap_39 P).In s.heap ∧ s.heap.get? e = some (excObj 51 t dx) ∧ E (.ref e) s
theorem raise_K {x : PySem.Expr} {pos : Pos} {Q : Flow → Shared → Prop} (hh : A.handled = none) (h : wpAny (model PR w) A (eval x env) (RaiseK w.params E) E s) : wpAny (model PR w) A (exec (.Raise (some x) none pos) env) Q E s := raise_own (P := w.params) hh h
end

theorem mapFields_dict (o : Obj) (f : Array Value → Array Value) : (Obj.mapFields f o).dict = o.dict := by
  obtain ⟨c, d, dt, sl⟩ := o
  cases dt <;> rfl
/-- the fault on its way, with its dict -/
structure Fly (base : Heap) (l : List Env) (e dx : Addr) (fl : Value) (h : Heap) : Prop where
  stays : base.StaysIn h
  fresh : base.get? e = none
  frames : h.FunFrames base l
  there : ∃ oe vs T oT ts, h.get? e = some oe ∧ oe.cls = .ref 51 ∧ oe.dict = some dx ∧ oe.data = .fields vs ∧ vs[1]? = some (.ref T) ∧ base.get? T = none ∧ T ≠ e ∧ h.get? T = some oT ∧ oT.data = .fields ts ∧ ts[3]? = some fl
theorem tick21 {prog : Program} {w : World} {A : Around} {E : Value → Shared → Prop} {s : Shared} {env : Env} {Q : Flow → Shared → Prop} (h : Q .next s) : wpAny (model prog w) A (execs [] env) Q E s := by
  first | (walk1; exact h) | exact wpAny_execs_nil h
section
variable {M : Model} {A : Around} {E : Value → Shared → Prop} {s : Shared} {base : Heap} {env : Env} {outer : List Env} {L e dx : Addr} {Q : Unit → Shared → Prop}
theorem fly_entry {oe : Obj} {vs : Array Value} {head : Value} {hadNext : Bool} (hfr : A.frames = some (env :: outer)) (hl : s.heap.FunFrames base (env :: outer)) (hf : env.frame = some L)
    (he : s.heap.get? e = some oe) (hkb : base.StaysIn s.heap) (hen : base.get? e = none) (hd : oe.data = .fields vs) (hsz : 1 < vs.size) (hc : oe.cls = .ref 51) (hdx : oe.dict = some dx)
    (h : ∀ h', Fly base (env :: outer) e dx (rawInt L) h' → s.heap.UpToSlots h' → Q () { s with heap := h' }) :
    wpAny M A (do let a ← frameOf env; let pl ← entryPlaceOf L hadNext; let b ← EntryCells.newEntry head a .none (rawInt L) .none pl; setField (.ref e) 1 b) Q E s := by
  have nofr : e ∉ (env :: outer).filterMap (·.frame) := fun hm => by
    obtain ⟨_, o, ho, q⟩ := hl.mem hm
    rw [he] at ho
    cases ho
    exact q vs hd
  refine wpAny_bind (wpAny_frameOf_fun hfr hl hf fun h₁ hs₁ => ?_)
  refine wpAny_bind (wpAny_entryPlaceOf fun pl hpl => ?_)
  unfold EntryCells.newEntry newFields
  refine wpAny_bind (wpAny_newObj_type ?_ (hpl.sizeOk5 _ _ _ _ _))
  have he₁ : h₁.get? e = some oe := (hs₁.2.1 e nofr).trans he
  have kb₁ : base.StaysIn h₁ := fun b o hb => (hs₁.2.1 b fun hm => by rw [(hl.mem hm).1] at hb; cases hb).trans (hkb b o hb)
  generalize hT : ({ cls := .type "traceback", dict := none, data := .fields ([head, .ref L, .none, rawInt L, .none] ++ (if pl.isEmpty then List.replicate 6 Value.none else pl)).toArray } : Obj) = oT
  have hTd : ∃ ts, oT.data = .fields ts ∧ ts[3]? = some (rawInt L) := ⟨_, by rw [← hT], by first | (simp; done) | (rcases hpl with rfl | ⟨_, _, _, _, _, _, _, rfl⟩ <;> simp)⟩
  clear hT
  have he₂ := Heap.get?_push_of_some (h := h₁) oT he₁
  have hTe : h₁.objs.size ≠ e := Nat.ne_of_gt (Heap.lt_size he₁)
  have hd₃ := Obj.data_mapFields hd (·.setIfInBounds 1 (Value.ref h₁.objs.size))
  have keep : ∀ b o, b ≠ e → h₁.get? b = some o → ((h₁.push oT).update e (Obj.mapFields (·.setIfInBounds 1 (Value.ref h₁.objs.size)))).get? b = some o := fun b o hbe hb => by
    rw [Heap.get?_update_other _ _ (Ne.symm hbe)]
    exact Heap.get?_push_of_some _ hb
  have rec_ne : ∀ b o, s.heap.get? b = some o → (∀ vs, o.data ≠ .fields vs) → b ≠ e := fun b o hb q z => by
    rw [z, he] at hb
    cases hb
    exact q vs hd
  have hTg : (h₁.push oT).get? h₁.objs.size = some oT := by
    obtain ⟨ts, q, _⟩ := hTd
    exact Heap.get?_push_size h₁ (Obj.isFreed_of_fields q)
  refine wpAny_setField he₂ hd hsz (h _ ⟨fun b o hb => keep b o (fun z => by rw [z, hen] at hb; cases hb) (kb₁ b o hb), hen, hl.of_keeps fun b o hb q => ?_, ?_⟩ fun b o hb q => ?_)
  · obtain ⟨sl, z⟩ := hs₁.2.2 b o hb
    exact ⟨_, keep b _ (rec_ne b o hb q) z, rfl⟩
  · obtain ⟨ts, q1, q2⟩ := hTd
    exact ⟨_, _, h₁.objs.size, oT, ts, Heap.get?_update_self _ he₂ (Obj.isFreed_of_fields hd₃), (Obj.cls_mapFields _ _).trans hc, (mapFields_dict _ _).trans hdx, hd₃, by simp [hsz], kb₁.fresh, hTe, (Heap.get?_update_other _ _ (Ne.symm hTe)).trans hTg, q1, q2⟩
  · obtain ⟨sl, z⟩ := hs₁.2.2 b o hb
    exact ⟨sl, keep b _ (rec_ne b o hb q) z⟩

/-- one of the fields of the trace is set: the rest stands -/
theorem fly_trace {l : List Env} {fl v : Value} {T : Addr} {oe oT : Obj} {vs ts : Array Value} (hkb : base.StaysIn s.heap) (hen : base.get? e = none) (hl : s.heap.FunFrames base l)
    (he : s.heap.get? e = some oe) (hc : oe.cls = .ref 51) (hdx : oe.dict = some dx) (hd : oe.data = .fields vs) (h1 : vs[1]? = some (.ref T)) (hnT : base.get? T = none) (hTe : T ≠ e) (hT : s.heap.get? T = some oT) (hdT : oT.data = .fields ts) (h3 : ts[3]? = some fl)
    (h : ∀ h', Fly base l e dx v h' → s.heap.UpToSlots h' → Q () { s with heap := h' }) : wpAny M A (setField (.ref T) 3 v) Q E s := by
  have hsz := (Array.getElem?_eq_some_iff.mp h3).1
  have other : ∀ b, b ≠ T → (s.heap.update T (Obj.mapFields (·.setIfInBounds 3 v))).get? b = s.heap.get? b := fun b hb => Heap.get?_update_other _ _ (Ne.symm hb)
  have rec_ne : ∀ b o, s.heap.get? b = some o → (∀ vs, o.data ≠ .fields vs) → b ≠ T := fun b o hb q z => by
    rw [z, hT] at hb
    cases hb
    exact q ts hdT
  have hd₃ := Obj.data_mapFields hdT (·.setIfInBounds 3 v)
  refine wpAny_setField hT hdT hsz (h _ ⟨fun b o hb => (other b fun z => by rw [z, hnT] at hb; cases hb).trans (hkb b o hb), hen, hl.of_keeps fun b o hb q => ⟨o, (other b (rec_ne b o hb q)).trans hb, rfl⟩, ?_⟩ fun b o hb q => ⟨o.slots, (other b (rec_ne b o hb q)).trans hb⟩)
  exact ⟨oe, vs, T, _, _, (other e (Ne.symm hTe)).trans he, hc, hdx, hd, h1, hnT, hTe, Heap.get?_update_self _ hT (Obj.isFreed_of_fields hd₃), hd₃, by simp [hsz]⟩
theorem fly_set {l : List Env} {fl : Value} {fr : Option Addr} (x : Fly base l e dx fl s.heap) (h : ∀ h', Fly base l e dx (fr.elim .none fun f => rawInt f) h' → s.heap.UpToSlots h' → Q () { s with heap := h' }) : wpAny M A (setFlight (.ref e) fr) Q E s := by
  obtain ⟨f1, f2, f3, oe, vs, T, oT, ts, he, hc, hdx, hd, h1, hnT, hTe, hT, hdT, h3⟩ := x
  unfold setFlight
  refine wpAny_bind (wpAny_field he hd h1 ?_)
  rw [if_pos (show (Value.ref T != Value.none) = true from by simp)]
  exact fly_trace f1 f2 f3 he hc hdx hd h1 hnT hTe hT hdT h3 h
theorem fly_note (hfr : A.frames = some (env :: outer)) (hf : env.frame = some L) (x : Fly base (env :: outer) e dx .none s.heap) (h : ∀ h', Fly base (env :: outer) e dx (rawInt L) h' → s.heap.UpToSlots h' → Q () { s with heap := h' }) :
    wpAny M A (noteFrame (.ref e) env) Q E s := by
  obtain ⟨f1, f2, f3, oe, vs, T, oT, ts, he, hc, hdx, hd, h1, hnT, hTe, hT, hdT, h3⟩ := x
  unfold noteFrame
  simp only [hf]
  refine wpAny_bind (wpAny_field he hd h1 ?_)
  rw [if_pos (show (Value.ref T != Value.none) = true from by simp)]
  refine wpAny_bind (wpAny_field hT hdT h3 ?_)
  rw [if_neg (show ¬ ((Value.none == rawInt L) = true) from by simp [rawInt])]
  refine wpAny_bind (fly_trace f1 f2 f3 he hc hdx hd h1 hnT hTe hT hdT h3 fun h' y hs => ?_)
  obtain ⟨g1, g2, g3, oe', vs', T', oT', ts', he', hc', hdx', hd', h1', _⟩ := y
  exact fly_entry (s := { s with heap := h' }) hfr g3 hf he' g1 g2 hd' (Array.getElem?_eq_some_iff.mp h1').1 hc' hdx' fun h'' z hs' => h h'' z (hs.trans hs')
theorem fly_again {l : List Env} (hf : env.frame = some L) (x : Fly base l e dx (rawInt L) s.heap) (h : Q () s) : wpAny M A (noteFrame (.ref e) env) Q E s := by
  obtain ⟨f1, f2, f3, oe, vs, T, oT, ts, he, hc, hdx, hd, h1, hnT, hTe, hT, hdT, h3⟩ := x
  unfold noteFrame
  simp only [hf]
  refine wpAny_bind (wpAny_field he hd h1 ?_)
  rw [if_pos (show (Value.ref T != Value.none) = true from by simp)]
  refine wpAny_bind (wpAny_field hT hdT h3 ?_)
  rw [if_pos (show (rawInt L == rawInt L) = true from by simp)]
  exact wpAny_pure h
theorem Fly.out {fl : Value} {h : Heap} (x : Fly base (env :: outer) e dx fl h) : Fly base outer e dx fl h := by
  obtain ⟨f1, f2, ⟨_, _, f3⟩, f4⟩ := x
  exact ⟨f1, f2, f3, f4⟩
theorem fly_leave (hfr : A.frames = some (env :: outer)) (hf : env.frame = some L) (x : Fly base (env :: outer) e dx .none s.heap) (h : ∀ h', Fly base outer e dx .none h' → s.heap.UpToSlots h' → Q () { s with heap := h' }) : wpAny M A (leaving env (.ref e)) Q E s := by
  unfold leaving
  refine wpAny_bind (fly_note hfr hf x fun h₁ y hs => ?_)
  exact fly_set (s := { s with heap := h₁ }) (fr := none) y fun h₂ z hs' => h h₂ z.out (hs.trans hs')
theorem fly_leave_held (hf : env.frame = some L) (x : Fly base (env :: outer) e dx (rawInt L) s.heap) (h : ∀ h', Fly base outer e dx .none h' → s.heap.UpToSlots h' → Q () { s with heap := h' }) : wpAny M A (leaving env (.ref e)) Q E s := by
  unfold leaving
  refine wpAny_bind (fly_again hf x ?_)
  exact fly_set (fr := none) x fun h₂ z hs' => h h₂ z.out hs'
/-- the first frame that it leaves -/
theorem fly_first {t : Addr} (hfr : A.frames = some (env :: outer)) (hf : env.frame = some L) (hl : s.heap.FunFrames base (env :: outer)) (hkb : base.StaysIn s.heap) (hen : base.get? e = none) (he : s.heap.get? e = some (excObj 51 t (some dx)))
    (h : ∀ h', Fly base outer e dx .none h' → s.heap.UpToSlots h' → Q () { s with heap := h' }) : wpAny M A (leaving env (.ref e)) Q E s := by
  unfold leaving noteFrame
  simp only [hf]
  refine wpAny_bind (wpAny_bind (wpAny_field he rfl rfl ?_))
  rw [if_neg (by simp)]
  refine fly_entry hfr hl hf he hkb hen rfl (by simp) rfl rfl fun h₁ y hs => ?_
  exact fly_set (s := { s with heap := h₁ }) (fr := none) y fun h₂ z hs' => h h₂ z.out (hs.trans hs')
end

/-- the fault's dict says kind and place -/
def FltAt (h : Heap) (dx : Addr) (kind : Str) (z : Int) : Prop := ∃ od mA ns k1 k2, h.get? dx = some od ∧ NsObj od mA ns ∧ mA (Str.ofString "kind") = some (.str kind k1) ∧ mA (Str.ofString "at") = some (.int z k2)
theorem FltAt.slots {h h' : Heap} {dx : Addr} {kind : Str} {z : Int} (x : FltAt h dx kind z) (k : h.UpToSlots h') : FltAt h' dx kind z := by
  obtain ⟨od, mA, ns, k1, k2, a, b, c, d⟩ := x
  obtain ⟨es, ep, hd, r⟩ := b.data
  obtain ⟨sl, q⟩ := k dx od a fun vs z => by rw [hd] at z; cases z
  exact ⟨_, mA, ns, k1, k2, q, ⟨⟨es, ep, hd, r⟩, b.win, b.len⟩, c, d⟩
theorem FaultAt.flt {h0 h : Heap} {r : Value} {kind : Str} {z : Int} {e dx : Addr} {od : Obj} {mA : Str → Option Value} {ns : List Str} (x : FaultAt h0 h r kind z e dx od mA ns) : FltAt h dx kind z := by
  obtain ⟨k, hk⟩ := x.kd
  obtain ⟨k', hk'⟩ := x.at_
  exact ⟨od, mA, ns, k, k', x.dd, x.ns, hk, hk'⟩
/-- everything but the places of ms stands as it stood, slots and records aside -/
def KeepU (ms : List Addr) (h h' : Heap) : Prop := ∀ b o, h.get? b = some o → b ∉ ms → (∀ vs, o.data ≠ .fields vs) → ∃ sl, h'.get? b = some { o with slots := sl }
theorem KeepU.of {ms : List Addr} {h h₁ h₂ : Heap} (k : Keep ms h h₁) (u : h₁.UpToSlots h₂) : KeepU ms h h₂ := fun b o e n q => u b o (k b o e n) q
theorem KeepU.pre {ms : List Addr} {h h₁ h₂ : Heap} (k : Keep ms h h₁) (u : KeepU ms h₁ h₂) : KeepU ms h h₂ := fun b o e n q => u b o (k b o e n) n q
theorem KeepU.post {ms : List Addr} {h h₁ h₂ : Heap} (k : KeepU ms h h₁) (u : h₁.UpToSlots h₂) : KeepU ms h h₂ := fun b o e n q => by
  obtain ⟨sl, x⟩ := k b o e n q
  obtain ⟨sl', y⟩ := u b _ x q
  exact ⟨sl', y⟩
theorem KeepU.mono {ms ms' : List Addr} {h h' : Heap} (k : KeepU ms h h') (s : ∀ a ∈ ms, a ∈ ms') : KeepU ms' h h' := fun b o e n q => k b o e (fun z => n (s b z)) q

/-- a call that ends, or raises the fault -/
def DoesX (w : World) (f : Addr) (cost : Nat) (vs : List Value) (ms : List (Addr × Obj)) (Pre : Heap → Prop) (Post : Heap → Heap → Value → Prop) (Exc : Heap → Str → Int → Prop) : Prop :=
  ∀ (p : Program) (loose : List Str) (mean : ExcName → Option Value) (mg mb : Str → Option Value) (A : Around) (env : Env) (outer : List Env) (A₀ : Around) (base h₀ : Heap) (L : Addr) (m : Str → Option Value) (s : Shared)
    (Q E : Value → Shared → Prop),
    Below A₀ base outer h₀ → Fr h₀ L s.heap m → (Mine.hd.heap_39 w.params).In h₀ → News h₀ L s.heap ms → Top p loose mean mg mb h₀ →
    A.frames = some (env :: outer) → env.frame = some L → env.scope.kind = .function → A.depth + cost < recursionLimit → A.units + 8 * cost < cLine → A.handled = none →
    Pre s.heap →
    (∀ r h' tk', Keep (ms.map (·.1)) s.heap h' → Post s.heap h' r → Q r { s with heap := h', toks := tk' }) →
    (∀ e dx h' tk' kind z, Fly base (env :: outer) e dx .none h' → KeepU (ms.map (·.1)) s.heap h' → FltAt h' dx kind z → Exc s.heap kind z → E (.ref e) { s with heap := h', toks := tk' }) →
    wpAny (model PR w) A (call (.ref f) vs) Q E s
theorem Does.x {w : World} {f : Addr} {cost : Nat} {vs : List Value} {ms : List (Addr × Obj)} {Pre : Heap → Prop} {P : Heap → Heap → Value → Prop} (D : Does w f cost vs ms Pre P) (Exc : Heap → Str → Int → Prop) : DoesX w f cost vs ms Pre P Exc :=
  fun p loose mean mg mb A env outer A₀ base h₀ L m s Q E B F X N T hA hf hk hd hu hh hpre hret _ => D p loose mean mg mb A env outer A₀ base h₀ L m s Q E B F X N T hA hf hk hd hu hh hpre hret
theorem DoesX.post {w : World} {f : Addr} {cost : Nat} {vs : List Value} {ms : List (Addr × Obj)} {Pre : Heap → Prop} {P P' : Heap → Heap → Value → Prop} {X X' : Heap → Str → Int → Prop} (D : DoesX w f cost vs ms Pre P X) (h : ∀ a b r, P a b r → P' a b r) (hx : ∀ a k z, X a k z → X' a k z) : DoesX w f cost vs ms Pre P' X' :=
  fun p loose mean mg mb A env outer A₀ base h₀ L m s Q E B F Xi N T hA hf hk hd hu hh hpre hret hexc => D p loose mean mg mb A env outer A₀ base h₀ L m s Q E B F Xi N T hA hf hk hd hu hh hpre (fun r h' tk' k q => hret r h' tk' k (h _ _ _ q))
    fun e dx h' tk' kind z a b c d => hexc e dx h' tk' kind z a b c (hx _ _ _ d)
theorem DoesX.cost {w : World} {f : Addr} {cost cost' : Nat} {vs : List Value} {ms : List (Addr × Obj)} {Pre : Heap → Prop} {P : Heap → Heap → Value → Prop} {X : Heap → Str → Int → Prop} (D : DoesX w f cost vs ms Pre P X) (h : cost ≤ cost') : DoesX w f cost' vs ms Pre P X :=
  fun p loose mean mg mb A env outer A₀ base h₀ L m s Q E B F Xi N T hA hf hk hd hu hh hpre hret hexc => D p loose mean mg mb A env outer A₀ base h₀ L m s Q E B F Xi N T hA hf hk (by omega) (by omega) hh hpre hret hexc
theorem DoesX.pre {w : World} {f : Addr} {cost : Nat} {vs : List Value} {ms : List (Addr × Obj)} {Pre Pre' : Heap → Prop} {P : Heap → Heap → Value → Prop} {X : Heap → Str → Int → Prop} (D : DoesX w f cost vs ms Pre P X) (h : ∀ a, Pre' a → Pre a) : DoesX w f cost vs ms Pre' P X :=
  fun p loose mean mg mb A env outer A₀ base h₀ L m s Q E B F Xi N T hA hf hk hd hu hh hpre hret hexc => D p loose mean mg mb A env outer A₀ base h₀ L m s Q E B F Xi N T hA hf hk hd hu hh (h _ hpre) hret hexc
theorem tick22 {prog : Program} {w : World} {A : Around} {E : Value → Shared → Prop} {s : Shared} {env : Env} {Q : Flow → Shared → Prop} (h : Q .next s) : wpAny (model prog w) A (execs [] env) Q E s := by
  first | (walk1; exact h) | exact wpAny_execs_nil h
section
variable {M : Model} {A : Around} {E : Value → Shared → Prop} {s : Shared} {base g : Heap} {outer : List Env} {L a e dx t : Addr} {m : Str → Option Value} {name : Str} {scope : Scope} {cd : Value} {Q : Unit → Shared → Prop} {news : List (Addr × Obj)}
theorem leave_fault (K : Below A base outer g) (F : Fr g L s.heap m) (N : News g L s.heap news) (he : (e, excObj 51 t (some dx)) ∈ news)
    (hQ : ∀ h', Fly base outer e dx .none h' → s.heap.UpToSlots h' → Q () { s with heap := h' }) (hk : scope.kind = .function := by rfl) :
    wpAny M (A.deeper (envOf name scope L a cd)) (leaving (envOf name scope L a cd) (.ref e)) Q E s := by
  have K' := K.push (name := name) (a := a) (cd := cd) F hk
  have z := N _ he
  exact fly_first K'.stack rfl K'.frames K'.stays (fresh_of_stays K.stays z.2.2) z.1 hQ
theorem leave_fault_on (K : Below A base outer g) (x : Fly base (envOf name scope L a cd :: outer) e dx .none s.heap)
    (hQ : ∀ h', Fly base outer e dx .none h' → s.heap.UpToSlots h' → Q () { s with heap := h' }) :
    wpAny M (A.deeper (envOf name scope L a cd)) (leaving (envOf name scope L a cd) (.ref e)) Q E s :=
  fly_leave (Around.frames_deeper K.stack) rfl x hQ
end
theorem tick23 {prog : Program} {w : World} {A : Around} {E : Value → Shared → Prop} {s : Shared} {env : Env} {Q : Flow → Shared → Prop} (h : Q .next s) : wpAny (model prog w) A (execs [] env) Q E s := by
  first | (walk1; exact h) | exact wpAny_execs_nil h
section
variable {M : Model} {A : Around} {E : Value → Shared → Prop} {s : Shared} {base g h : Heap} {outer : List Env} {L a e dx : Addr} {m : Str → Option Value} {name : Str} {scope : Scope} {cd : Value} {P : Params} {news : List (Addr × Obj)}
theorem raise_end {r : Value} {kind : Str} {z : Int} {od : Obj} {mA : Str → Option Value} {ns : List Str} {E2 : Value → Shared → Prop} (K : Below A base outer g) (X : (Mine.hd.heap_39 P).In g) (F₀ : Fr g L h m) (F : Fr g L s.heap m) (x : FaultAt h s.heap r kind z e dx od mA ns)
    (hE : ∀ h', Fly base outer e dx .none h' → s.heap.UpToSlots h' → E (.ref e) { s with heap := h' }) (hk : scope.kind = .function := by rfl) :
    RaiseK P (fun e s' => wpAny M (A.deeper (envOf name scope L a cd)) (leaving (envOf name scope L a cd) e) (fun _ s'' => E e s'') E2 s') r s := by
  obtain ⟨t, he⟩ := x.ex
  have hg : g.get? e = none := by
    cases q : g.get? e with
    | none => rfl
    | some o => have := F₀.keep _ _ q; rw [x.en] at this; cases this
  have N : News g L s.heap [(e, excObj 51 t (some dx))] := fun p hp => by
    rw [List.mem_singleton.mp hp]
    refine ⟨he, fun q => ?_, hg⟩
    obtain ⟨oL, _, _, hL, _⟩ := F₀.ns
    have := x.en
    rw [show e = L from q, hL] at this
    cases this
  exact ⟨e, t, some dx, x.rr, X.keeps F.keep, he, leave_fault K F N (.head _) hE hk⟩
end

def isP (d : TK) (text : Str) : Bool := match d with
  | .pun x => x.str == text
  | _ => false
def TupTk (h : Heap) (q : Addr) (d : TK) (z : Int) : Prop := ∃ k1 k2 k3, h.get? q = some (tupOf [.str d.kind k1, d.val k2, .int z k3])
theorem TupTk.keepT {h h' : Heap} {q : Addr} {d : TK} {z : Int} (k : KeepT h h') (x : TupTk h q d z) : TupTk h' q d z := by
  obtain ⟨k1, k2, k3, e⟩ := x
  exact ⟨k1, k2, k3, k _ _ e (isTup_of _)⟩
theorem TupTk.keep {h h' : Heap} {q : Addr} {d : TK} {z : Int} (k : ∀ b o, h.get? b = some o → h'.get? b = some o) (x : TupTk h q d z) : TupTk h' q d z := by
  obtain ⟨k1, k2, k3, e⟩ := x
  exact ⟨k1, k2, k3, k _ _ e⟩
def cloT (d : TK) : Bool := match d with
  | .pun x => x.closer && x != .dot
  | .fin => true
  | _ => false
def endT (d : TK) : Bool := match d with
  | .pun x => (x.closer && x != .dot) || x.sep
  | .fin => true
  | _ => false
theorem clo_any (x : Sg) : ([Str.ofString ")", Str.ofString "]", Str.ofString "}"].any fun y => y == x.str) = (x.closer && x != .dot) := by cases x <;> decide +kernel
theorem sep_any (x : Sg) : ([Str.ofString ",", Str.ofString "|"].any fun y => y == x.str) = x.sep := by cases x <;> decide +kernel
theorem tick24 {prog : Program} {w : World} {A : Around} {E : Value → Shared → Prop} {s : Shared} {env : Env} {Q : Flow → Shared → Prop} (h : Q .next s) : wpAny (model prog w) A (execs [] env) Q E s := by
  first | (walk1; exact h) | exact wpAny_execs_nil h
section
set_option maxHeartbeats 4000000 in
theorem does_punct (w : World) (q : Addr) (d : TK) (z : Int) (text : Str) (tt : Tok) : Does w 334 1 [.ref q, .str text tt] [] (fun h => TupTk h q d z) (fun _ _ r => r = .bool (isP d text)) := by
  walk_at "m fill"
  intro p loose mean mg mb A env outer A₀ base h₀ L m s Q E B F X N T hA hf hk hd hu hh hpre hret
  obtain ⟨ah, dp, fr, gd, un⟩ := A
  obtain rfl : fr = some (env :: outer) := hA
  obtain rfl : ah = none := hh
  replace hd : dp + _ < recursionLimit := hd
  replace hu : un + _ < cLine := hu
  obtain ⟨k1, k2, k3, hq0⟩ := hpre
  cases d with
  | pun x =>
    refine wpAny_call ?_
    k_dflt (refine' enterD (binds := [(Str.ofString "token", .ref q), (Str.ofString "text", .str text tt)]) ?k1 ?k2 ?k3 ?k4 ?k5 ?kA ?kF ?kK ?k6 ?k7 ?k8 ?k9 ?kB ?_ ?c2 ?c3 ?c4 ?c5; (case kA => walk_at "m frames"); (case kF => first | assumption | exact rfl); (case kK => first | assumption | exact rfl); (case k1 => k_asm); (case k2 => k_asm); (case k3 => k_asm); (case k4 => k_asm); (case k5 => k_asm); (case k6 => k_is); (case k7 => k_is); (case k8 => walk_at "m room"); (case k9 => first | exact BindsTo.of_eq rfl | exact binds_K (by k_in) rfl (by k_is) rfl rfl rfl); (case c5 => decide); (case kB => exact locs rfl); (case c2 => exact rfl); (case c3 => exact rfl); (case c4 => exact rfl); k_whole)
    intro g L' h₁ F' N' B' X' T' hg hgs
    k_fold
    have hqt : IsTup g q [.str (Str.ofString "punct") k1, .str x.str k2, .int z k3].toArray := ⟨_, hg _ _ hq0 (by simp), rfl, _, rfl⟩
    k_steps
    show Q _ _
    exact hret _ _ _ (fun b o e n => Fr.keep (by assumption) b o (hg b o e n)) rfl
  | namA =>
    refine wpAny_call ?_
    k_dflt (refine' enterD (binds := [(Str.ofString "token", .ref q), (Str.ofString "text", .str text tt)]) ?k1 ?k2 ?k3 ?k4 ?k5 ?kA ?kF ?kK ?k6 ?k7 ?k8 ?k9 ?kB ?_ ?c2 ?c3 ?c4 ?c5; (case kA => walk_at "m frames"); (case kF => first | assumption | exact rfl); (case kK => first | assumption | exact rfl); (case k1 => k_asm); (case k2 => k_asm); (case k3 => k_asm); (case k4 => k_asm); (case k5 => k_asm); (case k6 => k_is); (case k7 => k_is); (case k8 => walk_at "m room"); (case k9 => first | exact BindsTo.of_eq rfl | exact binds_K (by k_in) rfl (by k_is) rfl rfl rfl); (case c5 => decide); (case kB => exact locs rfl); (case c2 => exact rfl); (case c3 => exact rfl); (case c4 => exact rfl); k_whole)
    intro g L' h₁ F' N' B' X' T' hg hgs
    k_fold
    have hqt : IsTup g q [.str (Str.ofString "name") k1, .str (Str.ofString "a") k2, .int z k3].toArray := ⟨_, hg _ _ hq0 (by simp), rfl, _, rfl⟩
    k_steps
    show Q _ _
    exact hret _ _ _ (fun b o e n => Fr.keep (by assumption) b o (hg b o e n)) rfl
  | namF =>
    refine wpAny_call ?_
    k_dflt (refine' enterD (binds := [(Str.ofString "token", .ref q), (Str.ofString "text", .str text tt)]) ?k1 ?k2 ?k3 ?k4 ?k5 ?kA ?kF ?kK ?k6 ?k7 ?k8 ?k9 ?kB ?_ ?c2 ?c3 ?c4 ?c5; (case kA => walk_at "m frames"); (case kF => first | assumption | exact rfl); (case kK => first | assumption | exact rfl); (case k1 => k_asm); (case k2 => k_asm); (case k3 => k_asm); (case k4 => k_asm); (case k5 => k_asm); (case k6 => k_is); (case k7 => k_is); (case k8 => walk_at "m room"); (case k9 => first | exact BindsTo.of_eq rfl | exact binds_K (by k_in) rfl (by k_is) rfl rfl rfl); (case c5 => decide); (case kB => exact locs rfl); (case c2 => exact rfl); (case c3 => exact rfl); (case c4 => exact rfl); k_whole)
    intro g L' h₁ F' N' B' X' T' hg hgs
    k_fold
    have hqt : IsTup g q [.str (Str.ofString "name") k1, .str (Str.ofString "f") k2, .int z k3].toArray := ⟨_, hg _ _ hq0 (by simp), rfl, _, rfl⟩
    k_steps
    show Q _ _
    exact hret _ _ _ (fun b o e n => Fr.keep (by assumption) b o (hg b o e n)) rfl
  | int7 =>
    refine wpAny_call ?_
    k_dflt (refine' enterD (binds := [(Str.ofString "token", .ref q), (Str.ofString "text", .str text tt)]) ?k1 ?k2 ?k3 ?k4 ?k5 ?kA ?kF ?kK ?k6 ?k7 ?k8 ?k9 ?kB ?_ ?c2 ?c3 ?c4 ?c5; (case kA => walk_at "m frames"); (case kF => first | assumption | exact rfl); (case kK => first | assumption | exact rfl); (case k1 => k_asm); (case k2 => k_asm); (case k3 => k_asm); (case k4 => k_asm); (case k5 => k_asm); (case k6 => k_is); (case k7 => k_is); (case k8 => walk_at "m room"); (case k9 => first | exact BindsTo.of_eq rfl | exact binds_K (by k_in) rfl (by k_is) rfl rfl rfl); (case c5 => decide); (case kB => exact locs rfl); (case c2 => exact rfl); (case c3 => exact rfl); (case c4 => exact rfl); k_whole)
    intro g L' h₁ F' N' B' X' T' hg hgs
    k_fold
    have hqt : IsTup g q [.str (Str.ofString "int") k1, .int 7 k2, .int z k3].toArray := ⟨_, hg _ _ hq0 (by simp), rfl, _, rfl⟩
    k_steps
    show Q _ _
    exact hret _ _ _ (fun b o e n => Fr.keep (by assumption) b o (hg b o e n)) rfl
  | opn =>
    refine wpAny_call ?_
    k_dflt (refine' enterD (binds := [(Str.ofString "token", .ref q), (Str.ofString "text", .str text tt)]) ?k1 ?k2 ?k3 ?k4 ?k5 ?kA ?kF ?kK ?k6 ?k7 ?k8 ?k9 ?kB ?_ ?c2 ?c3 ?c4 ?c5; (case kA => walk_at "m frames"); (case kF => first | assumption | exact rfl); (case kK => first | assumption | exact rfl); (case k1 => k_asm); (case k2 => k_asm); (case k3 => k_asm); (case k4 => k_asm); (case k5 => k_asm); (case k6 => k_is); (case k7 => k_is); (case k8 => walk_at "m room"); (case k9 => first | exact BindsTo.of_eq rfl | exact binds_K (by k_in) rfl (by k_is) rfl rfl rfl); (case c5 => decide); (case kB => exact locs rfl); (case c2 => exact rfl); (case c3 => exact rfl); (case c4 => exact rfl); k_whole)
    intro g L' h₁ F' N' B' X' T' hg hgs
    k_fold
    have hqt : IsTup g q [.str (Str.ofString "open") k1, .str (Str.ofString "(") k2, .int z k3].toArray := ⟨_, hg _ _ hq0 (by simp), rfl, _, rfl⟩
    k_steps
    show Q _ _
    exact hret _ _ _ (fun b o e n => Fr.keep (by assumption) b o (hg b o e n)) rfl
  | opc =>
    refine wpAny_call ?_
    k_dflt (refine' enterD (binds := [(Str.ofString "token", .ref q), (Str.ofString "text", .str text tt)]) ?k1 ?k2 ?k3 ?k4 ?k5 ?kA ?kF ?kK ?k6 ?k7 ?k8 ?k9 ?kB ?_ ?c2 ?c3 ?c4 ?c5; (case kA => walk_at "m frames"); (case kF => first | assumption | exact rfl); (case kK => first | assumption | exact rfl); (case k1 => k_asm); (case k2 => k_asm); (case k3 => k_asm); (case k4 => k_asm); (case k5 => k_asm); (case k6 => k_is); (case k7 => k_is); (case k8 => walk_at "m room"); (case k9 => first | exact BindsTo.of_eq rfl | exact binds_K (by k_in) rfl (by k_is) rfl rfl rfl); (case c5 => decide); (case kB => exact locs rfl); (case c2 => exact rfl); (case c3 => exact rfl); (case c4 => exact rfl); k_whole)
    intro g L' h₁ F' N' B' X' T' hg hgs
    k_fold
    have hqt : IsTup g q [.str (Str.ofString "open_ct") k1, .str (Str.ofString "(") k2, .int z k3].toArray := ⟨_, hg _ _ hq0 (by simp), rfl, _, rfl⟩
    k_steps
    show Q _ _
    exact hret _ _ _ (fun b o e n => Fr.keep (by assumption) b o (hg b o e n)) rfl
  | fin =>
    refine wpAny_call ?_
    k_dflt (refine' enterD (binds := [(Str.ofString "token", .ref q), (Str.ofString "text", .str text tt)]) ?k1 ?k2 ?k3 ?k4 ?k5 ?kA ?kF ?kK ?k6 ?k7 ?k8 ?k9 ?kB ?_ ?c2 ?c3 ?c4 ?c5; (case kA => walk_at "m frames"); (case kF => first | assumption | exact rfl); (case kK => first | assumption | exact rfl); (case k1 => k_asm); (case k2 => k_asm); (case k3 => k_asm); (case k4 => k_asm); (case k5 => k_asm); (case k6 => k_is); (case k7 => k_is); (case k8 => walk_at "m room"); (case k9 => first | exact BindsTo.of_eq rfl | exact binds_K (by k_in) rfl (by k_is) rfl rfl rfl); (case c5 => decide); (case kB => exact locs rfl); (case c2 => exact rfl); (case c3 => exact rfl); (case c4 => exact rfl); k_whole)
    intro g L' h₁ F' N' B' X' T' hg hgs
    k_fold
    have hqt : IsTup g q [.str (Str.ofString "end") k1, .str (Str.ofString ".") k2, .int z k3].toArray := ⟨_, hg _ _ hq0 (by simp), rfl, _, rfl⟩
    k_steps
    show Q _ _
    exact hret _ _ _ (fun b o e n => Fr.keep (by assumption) b o (hg b o e n)) rfl
end

theorem tick25 {prog : Program} {w : World} {A : Around} {E : Value → Shared → Prop} {s : Shared} {env : Env} {Q : Flow → Shared → Prop} (h : Q .next s) : wpAny (model prog w) A (execs [] env) Q E s := by
  first | (walk1; exact h) | exact wpAny_execs_nil h
section
set_option maxHeartbeats 4000000 in
theorem does_closes (w : World) (q : Addr) (d : TK) (z : Int) : Does w 327 1 [.ref q] [] (fun h => TupTk h q d z) (fun _ _ r => r = .bool (cloT d)) := by
  walk_at "m fill"
  intro p loose mean mg mb A env outer A₀ base h₀ L m s Q E B F X N T hA hf hk hd hu hh hpre hret
  obtain ⟨ah, dp, fr, gd, un⟩ := A
  obtain rfl : fr = some (env :: outer) := hA
  obtain rfl : ah = none := hh
  replace hd : dp + _ < recursionLimit := hd
  replace hu : un + _ < cLine := hu
  obtain ⟨k1, k2, k3, hq0⟩ := hpre
  cases d with
  | namA =>
    refine wpAny_call ?_
    k_dflt (refine' enterD (binds := [(Str.ofString "token", .ref q)]) ?k1 ?k2 ?k3 ?k4 ?k5 ?kA ?kF ?kK ?k6 ?k7 ?k8 ?k9 ?kB ?_ ?c2 ?c3 ?c4 ?c5; (case kA => walk_at "m frames"); (case kF => first | assumption | exact rfl); (case kK => first | assumption | exact rfl); (case k1 => k_asm); (case k2 => k_asm); (case k3 => k_asm); (case k4 => k_asm); (case k5 => k_asm); (case k6 => k_is); (case k7 => k_is); (case k8 => walk_at "m room"); (case k9 => first | exact BindsTo.of_eq rfl | exact binds_K (by k_in) rfl (by k_is) rfl rfl rfl); (case c5 => decide); (case kB => exact locs rfl); (case c2 => exact rfl); (case c3 => exact rfl); (case c4 => exact rfl); k_whole)
    intro g L' h₁ F' N' B' X' T' hg hgs
    k_fold
    have hqt : IsTup g q [.str (Str.ofString "name") k1, .str (Str.ofString "a") k2, .int z k3].toArray := ⟨_, hg _ _ hq0 (by simp), rfl, _, rfl⟩
    k_steps
    show Q _ _
    exact hret _ _ _ (fun b o e n => Fr.keep (by assumption) b o (hg b o e n)) rfl
  | namF =>
    refine wpAny_call ?_
    k_dflt (refine' enterD (binds := [(Str.ofString "token", .ref q)]) ?k1 ?k2 ?k3 ?k4 ?k5 ?kA ?kF ?kK ?k6 ?k7 ?k8 ?k9 ?kB ?_ ?c2 ?c3 ?c4 ?c5; (case kA => walk_at "m frames"); (case kF => first | assumption | exact rfl); (case kK => first | assumption | exact rfl); (case k1 => k_asm); (case k2 => k_asm); (case k3 => k_asm); (case k4 => k_asm); (case k5 => k_asm); (case k6 => k_is); (case k7 => k_is); (case k8 => walk_at "m room"); (case k9 => first | exact BindsTo.of_eq rfl | exact binds_K (by k_in) rfl (by k_is) rfl rfl rfl); (case c5 => decide); (case kB => exact locs rfl); (case c2 => exact rfl); (case c3 => exact rfl); (case c4 => exact rfl); k_whole)
    intro g L' h₁ F' N' B' X' T' hg hgs
    k_fold
    have hqt : IsTup g q [.str (Str.ofString "name") k1, .str (Str.ofString "f") k2, .int z k3].toArray := ⟨_, hg _ _ hq0 (by simp), rfl, _, rfl⟩
    k_steps
    show Q _ _
    exact hret _ _ _ (fun b o e n => Fr.keep (by assumption) b o (hg b o e n)) rfl
  | int7 =>
    refine wpAny_call ?_
    k_dflt (refine' enterD (binds := [(Str.ofString "token", .ref q)]) ?k1 ?k2 ?k3 ?k4 ?k5 ?kA ?kF ?kK ?k6 ?k7 ?k8 ?k9 ?kB ?_ ?c2 ?c3 ?c4 ?c5; (case kA => walk_at "m frames"); (case kF => first | assumption | exact rfl); (case kK => first | assumption | exact rfl); (case k1 => k_asm); (case k2 => k_asm); (case k3 => k_asm); (case k4 => k_asm); (case k5 => k_asm); (case k6 => k_is); (case k7 => k_is); (case k8 => walk_at "m room"); (case k9 => first | exact BindsTo.of_eq rfl | exact binds_K (by k_in) rfl (by k_is) rfl rfl rfl); (case c5 => decide); (case kB => exact locs rfl); (case c2 => exact rfl); (case c3 => exact rfl); (case c4 => exact rfl); k_whole)
    intro g L' h₁ F' N' B' X' T' hg hgs
    k_fold
    have hqt : IsTup g q [.str (Str.ofString "int") k1, .int 7 k2, .int z k3].toArray := ⟨_, hg _ _ hq0 (by simp), rfl, _, rfl⟩
    k_steps
    show Q _ _
    exact hret _ _ _ (fun b o e n => Fr.keep (by assumption) b o (hg b o e n)) rfl
  | opn =>
    refine wpAny_call ?_
    k_dflt (refine' enterD (binds := [(Str.ofString "token", .ref q)]) ?k1 ?k2 ?k3 ?k4 ?k5 ?kA ?kF ?kK ?k6 ?k7 ?k8 ?k9 ?kB ?_ ?c2 ?c3 ?c4 ?c5; (case kA => walk_at "m frames"); (case kF => first | assumption | exact rfl); (case kK => first | assumption | exact rfl); (case k1 => k_asm); (case k2 => k_asm); (case k3 => k_asm); (case k4 => k_asm); (case k5 => k_asm); (case k6 => k_is); (case k7 => k_is); (case k8 => walk_at "m room"); (case k9 => first | exact BindsTo.of_eq rfl | exact binds_K (by k_in) rfl (by k_is) rfl rfl rfl); (case c5 => decide); (case kB => exact locs rfl); (case c2 => exact rfl); (case c3 => exact rfl); (case c4 => exact rfl); k_whole)
    intro g L' h₁ F' N' B' X' T' hg hgs
    k_fold
    have hqt : IsTup g q [.str (Str.ofString "open") k1, .str (Str.ofString "(") k2, .int z k3].toArray := ⟨_, hg _ _ hq0 (by simp), rfl, _, rfl⟩
    k_steps
    show Q _ _
    exact hret _ _ _ (fun b o e n => Fr.keep (by assumption) b o (hg b o e n)) rfl
  | opc =>
    refine wpAny_call ?_
    k_dflt (refine' enterD (binds := [(Str.ofString "token", .ref q)]) ?k1 ?k2 ?k3 ?k4 ?k5 ?kA ?kF ?kK ?k6 ?k7 ?k8 ?k9 ?kB ?_ ?c2 ?c3 ?c4 ?c5; (case kA => walk_at "m frames"); (case kF => first | assumption | exact rfl); (case kK => first | assumption | exact rfl); (case k1 => k_asm); (case k2 => k_asm); (case k3 => k_asm); (case k4 => k_asm); (case k5 => k_asm); (case k6 => k_is); (case k7 => k_is); (case k8 => walk_at "m room"); (case k9 => first | exact BindsTo.of_eq rfl | exact binds_K (by k_in) rfl (by k_is) rfl rfl rfl); (case c5 => decide); (case kB => exact locs rfl); (case c2 => exact rfl); (case c3 => exact rfl); (case c4 => exact rfl); k_whole)
    intro g L' h₁ F' N' B' X' T' hg hgs
    k_fold
    have hqt : IsTup g q [.str (Str.ofString "open_ct") k1, .str (Str.ofString "(") k2, .int z k3].toArray := ⟨_, hg _ _ hq0 (by simp), rfl, _, rfl⟩
    k_steps
    show Q _ _
    exact hret _ _ _ (fun b o e n => Fr.keep (by assumption) b o (hg b o e n)) rfl
  | fin =>
    refine wpAny_call ?_
    k_dflt (refine' enterD (binds := [(Str.ofString "token", .ref q)]) ?k1 ?k2 ?k3 ?k4 ?k5 ?kA ?kF ?kK ?k6 ?k7 ?k8 ?k9 ?kB ?_ ?c2 ?c3 ?c4 ?c5; (case kA => walk_at "m frames"); (case kF => first | assumption | exact rfl); (case kK => first | assumption | exact rfl); (case k1 => k_asm); (case k2 => k_asm); (case k3 => k_asm); (case k4 => k_asm); (case k5 => k_asm); (case k6 => k_is); (case k7 => k_is); (case k8 => walk_at "m room"); (case k9 => first | exact BindsTo.of_eq rfl | exact binds_K (by k_in) rfl (by k_is) rfl rfl rfl); (case c5 => decide); (case kB => exact locs rfl); (case c2 => exact rfl); (case c3 => exact rfl); (case c4 => exact rfl); k_whole)
    intro g L' h₁ F' N' B' X' T' hg hgs
    k_fold
    have hqt : IsTup g q [.str (Str.ofString "end") k1, .str (Str.ofString ".") k2, .int z k3].toArray := ⟨_, hg _ _ hq0 (by simp), rfl, _, rfl⟩
    k_steps
    show Q _ _
    exact hret _ _ _ (fun b o e n => Fr.keep (by assumption) b o (hg b o e n)) rfl
  | pun x =>
    refine wpAny_call ?_
    k_dflt (refine' enterD (binds := [(Str.ofString "token", .ref q)]) ?k1 ?k2 ?k3 ?k4 ?k5 ?kA ?kF ?kK ?k6 ?k7 ?k8 ?k9 ?kB ?_ ?c2 ?c3 ?c4 ?c5; (case kA => walk_at "m frames"); (case kF => first | assumption | exact rfl); (case kK => first | assumption | exact rfl); (case k1 => k_asm); (case k2 => k_asm); (case k3 => k_asm); (case k4 => k_asm); (case k5 => k_asm); (case k6 => k_is); (case k7 => k_is); (case k8 => walk_at "m room"); (case k9 => first | exact BindsTo.of_eq rfl | exact binds_K (by k_in) rfl (by k_is) rfl rfl rfl); (case c5 => decide); (case kB => exact locs rfl); (case c2 => exact rfl); (case c3 => exact rfl); (case c4 => exact rfl); k_whole)
    intro g L' h₁ F' N' B' X' T' hg hgs
    k_fold
    have hqt : IsTup g q [.str (Str.ofString "punct") k1, .str x.str k2, .int z k3].toArray := ⟨_, hg _ _ hq0 (by simp), rfl, _, rfl⟩
    obtain ⟨a1, a2, a3, ht1⟩ : ∃ a b c, IsTup g 291 [.str (Str.ofString ")") a, .str (Str.ofString "]") b, .str (Str.ofString "}") c].toArray := ⟨_, _, _, _, X' 291 _ rfl, rfl, _, rfl⟩
    obtain ⟨b1, b2, ht2⟩ : ∃ a b, IsTup g 292 [.str (Str.ofString ",") a, .str (Str.ofString "|") b].toArray := ⟨_, _, _, X' 292 _ rfl, rfl, _, rfl⟩
    k_steps
    show Q _ _
    exact hret _ _ _ (fun b o e n => Fr.keep (by assumption) b o (hg b o e n)) (congrArg Value.bool (clo_any x))
set_option maxHeartbeats 4000000 in
theorem does_ends (w : World) (q : Addr) (d : TK) (z : Int) : Does w 320 1 [.ref q] [] (fun h => TupTk h q d z) (fun _ _ r => r = .bool (endT d)) := by
  walk_at "m fill"
  intro p loose mean mg mb A env outer A₀ base h₀ L m s Q E B F X N T hA hf hk hd hu hh hpre hret
  obtain ⟨ah, dp, fr, gd, un⟩ := A
  obtain rfl : fr = some (env :: outer) := hA
  obtain rfl : ah = none := hh
  replace hd : dp + _ < recursionLimit := hd
  replace hu : un + _ < cLine := hu
  obtain ⟨k1, k2, k3, hq0⟩ := hpre
  cases d with
  | namA =>
    refine wpAny_call ?_
    k_dflt (refine' enterD (binds := [(Str.ofString "token", .ref q)]) ?k1 ?k2 ?k3 ?k4 ?k5 ?kA ?kF ?kK ?k6 ?k7 ?k8 ?k9 ?kB ?_ ?c2 ?c3 ?c4 ?c5; (case kA => walk_at "m frames"); (case kF => first | assumption | exact rfl); (case kK => first | assumption | exact rfl); (case k1 => k_asm); (case k2 => k_asm); (case k3 => k_asm); (case k4 => k_asm); (case k5 => k_asm); (case k6 => k_is); (case k7 => k_is); (case k8 => walk_at "m room"); (case k9 => first | exact BindsTo.of_eq rfl | exact binds_K (by k_in) rfl (by k_is) rfl rfl rfl); (case c5 => decide); (case kB => exact locs rfl); (case c2 => exact rfl); (case c3 => exact rfl); (case c4 => exact rfl); k_whole)
    intro g L' h₁ F' N' B' X' T' hg hgs
    k_fold
    have hqt : IsTup g q [.str (Str.ofString "name") k1, .str (Str.ofString "a") k2, .int z k3].toArray := ⟨_, hg _ _ hq0 (by simp), rfl, _, rfl⟩
    k_steps
    show Q _ _
    exact hret _ _ _ (fun b o e n => Fr.keep (by assumption) b o (hg b o e n)) rfl
  | namF =>
    refine wpAny_call ?_
    k_dflt (refine' enterD (binds := [(Str.ofString "token", .ref q)]) ?k1 ?k2 ?k3 ?k4 ?k5 ?kA ?kF ?kK ?k6 ?k7 ?k8 ?k9 ?kB ?_ ?c2 ?c3 ?c4 ?c5; (case kA => walk_at "m frames"); (case kF => first | assumption | exact rfl); (case kK => first | assumption | exact rfl); (case k1 => k_asm); (case k2 => k_asm); (case k3 => k_asm); (case k4 => k_asm); (case k5 => k_asm); (case k6 => k_is); (case k7 => k_is); (case k8 => walk_at "m room"); (case k9 => first | exact BindsTo.of_eq rfl | exact binds_K (by k_in) rfl (by k_is) rfl rfl rfl); (case c5 => decide); (case kB => exact locs rfl); (case c2 => exact rfl); (case c3 => exact rfl); (case c4 => exact rfl); k_whole)
    intro g L' h₁ F' N' B' X' T' hg hgs
    k_fold
    have hqt : IsTup g q [.str (Str.ofString "name") k1, .str (Str.ofString "f") k2, .int z k3].toArray := ⟨_, hg _ _ hq0 (by simp), rfl, _, rfl⟩
    k_steps
    show Q _ _
    exact hret _ _ _ (fun b o e n => Fr.keep (by assumption) b o (hg b o e n)) rfl
  | int7 =>
    refine wpAny_call ?_
    k_dflt (refine' enterD (binds := [(Str.ofString "token", .ref q)]) ?k1 ?k2 ?k3 ?k4 ?k5 ?kA ?kF ?kK ?k6 ?k7 ?k8 ?k9 ?kB ?_ ?c2 ?c3 ?c4 ?c5; (case kA => walk_at "m frames"); (case kF => first | assumption | exact rfl); (case kK => first | assumption | exact rfl); (case k1 => k_asm); (case k2 => k_asm); (case k3 => k_asm); (case k4 => k_asm); (case k5 => k_asm); (case k6 => k_is); (case k7 => k_is); (case k8 => walk_at "m room"); (case k9 => first | exact BindsTo.of_eq rfl | exact binds_K (by k_in) rfl (by k_is) rfl rfl rfl); (case c5 => decide); (case kB => exact locs rfl); (case c2 => exact rfl); (case c3 => exact rfl); (case c4 => exact rfl); k_whole)
    intro g L' h₁ F' N' B' X' T' hg hgs
    k_fold
    have hqt : IsTup g q [.str (Str.ofString "int") k1, .int 7 k2, .int z k3].toArray := ⟨_, hg _ _ hq0 (by simp), rfl, _, rfl⟩
    k_steps
    show Q _ _
    exact hret _ _ _ (fun b o e n => Fr.keep (by assumption) b o (hg b o e n)) rfl
  | opn =>
    refine wpAny_call ?_
    k_dflt (refine' enterD (binds := [(Str.ofString "token", .ref q)]) ?k1 ?k2 ?k3 ?k4 ?k5 ?kA ?kF ?kK ?k6 ?k7 ?k8 ?k9 ?kB ?_ ?c2 ?c3 ?c4 ?c5; (case kA => walk_at "m frames"); (case kF => first | assumption | exact rfl); (case kK => first | assumption | exact rfl); (case k1 => k_asm); (case k2 => k_asm); (case k3 => k_asm); (case k4 => k_asm); (case k5 => k_asm); (case k6 => k_is); (case k7 => k_is); (case k8 => walk_at "m room"); (case k9 => first | exact BindsTo.of_eq rfl | exact binds_K (by k_in) rfl (by k_is) rfl rfl rfl); (case c5 => decide); (case kB => exact locs rfl); (case c2 => exact rfl); (case c3 => exact rfl); (case c4 => exact rfl); k_whole)
    intro g L' h₁ F' N' B' X' T' hg hgs
    k_fold
    have hqt : IsTup g q [.str (Str.ofString "open") k1, .str (Str.ofString "(") k2, .int z k3].toArray := ⟨_, hg _ _ hq0 (by simp), rfl, _, rfl⟩
    k_steps
    show Q _ _
    exact hret _ _ _ (fun b o e n => Fr.keep (by assumption) b o (hg b o e n)) rfl
  | opc =>
    refine wpAny_call ?_
    k_dflt (refine' enterD (binds := [(Str.ofString "token", .ref q)]) ?k1 ?k2 ?k3 ?k4 ?k5 ?kA ?kF ?kK ?k6 ?k7 ?k8 ?k9 ?kB ?_ ?c2 ?c3 ?c4 ?c5; (case kA => walk_at "m frames"); (case kF => first | assumption | exact rfl); (case kK => first | assumption | exact rfl); (case k1 => k_asm); (case k2 => k_asm); (case k3 => k_asm); (case k4 => k_asm); (case k5 => k_asm); (case k6 => k_is); (case k7 => k_is); (case k8 => walk_at "m room"); (case k9 => first | exact BindsTo.of_eq rfl | exact binds_K (by k_in) rfl (by k_is) rfl rfl rfl); (case c5 => decide); (case kB => exact locs rfl); (case c2 => exact rfl); (case c3 => exact rfl); (case c4 => exact rfl); k_whole)
    intro g L' h₁ F' N' B' X' T' hg hgs
    k_fold
    have hqt : IsTup g q [.str (Str.ofString "open_ct") k1, .str (Str.ofString "(") k2, .int z k3].toArray := ⟨_, hg _ _ hq0 (by simp), rfl, _, rfl⟩
    k_steps
    show Q _ _
    exact hret _ _ _ (fun b o e n => Fr.keep (by assumption) b o (hg b o e n)) rfl
  | fin =>
    refine wpAny_call ?_
    k_dflt (refine' enterD (binds := [(Str.ofString "token", .ref q)]) ?k1 ?k2 ?k3 ?k4 ?k5 ?kA ?kF ?kK ?k6 ?k7 ?k8 ?k9 ?kB ?_ ?c2 ?c3 ?c4 ?c5; (case kA => walk_at "m frames"); (case kF => first | assumption | exact rfl); (case kK => first | assumption | exact rfl); (case k1 => k_asm); (case k2 => k_asm); (case k3 => k_asm); (case k4 => k_asm); (case k5 => k_asm); (case k6 => k_is); (case k7 => k_is); (case k8 => walk_at "m room"); (case k9 => first | exact BindsTo.of_eq rfl | exact binds_K (by k_in) rfl (by k_is) rfl rfl rfl); (case c5 => decide); (case kB => exact locs rfl); (case c2 => exact rfl); (case c3 => exact rfl); (case c4 => exact rfl); k_whole)
    intro g L' h₁ F' N' B' X' T' hg hgs
    k_fold
    have hqt : IsTup g q [.str (Str.ofString "end") k1, .str (Str.ofString ".") k2, .int z k3].toArray := ⟨_, hg _ _ hq0 (by simp), rfl, _, rfl⟩
    k_steps
    show Q _ _
    exact hret _ _ _ (fun b o e n => Fr.keep (by assumption) b o (hg b o e n)) rfl
  | pun x =>
    refine wpAny_call ?_
    k_dflt (refine' enterD (binds := [(Str.ofString "token", .ref q)]) ?k1 ?k2 ?k3 ?k4 ?k5 ?kA ?kF ?kK ?k6 ?k7 ?k8 ?k9 ?kB ?_ ?c2 ?c3 ?c4 ?c5; (case kA => walk_at "m frames"); (case kF => first | assumption | exact rfl); (case kK => first | assumption | exact rfl); (case k1 => k_asm); (case k2 => k_asm); (case k3 => k_asm); (case k4 => k_asm); (case k5 => k_asm); (case k6 => k_is); (case k7 => k_is); (case k8 => walk_at "m room"); (case k9 => first | exact BindsTo.of_eq rfl | exact binds_K (by k_in) rfl (by k_is) rfl rfl rfl); (case c5 => decide); (case kB => exact locs rfl); (case c2 => exact rfl); (case c3 => exact rfl); (case c4 => exact rfl); k_whole)
    intro g L' h₁ F' N' B' X' T' hg hgs
    k_fold
    have hqt : IsTup g q [.str (Str.ofString "punct") k1, .str x.str k2, .int z k3].toArray := ⟨_, hg _ _ hq0 (by simp), rfl, _, rfl⟩
    obtain ⟨a1, a2, a3, ht1⟩ : ∃ a b c, IsTup g 291 [.str (Str.ofString ")") a, .str (Str.ofString "]") b, .str (Str.ofString "}") c].toArray := ⟨_, _, _, _, X' 291 _ rfl, rfl, _, rfl⟩
    obtain ⟨b1, b2, ht2⟩ : ∃ a b, IsTup g 292 [.str (Str.ofString ",") a, .str (Str.ofString "|") b].toArray := ⟨_, _, _, X' 292 _ rfl, rfl, _, rfl⟩
    k_steps
    · rename_i hq
      show Q _ _
      exact hret _ _ _ (fun b o e n => Fr.keep (by assumption) b o (hg b o e n)) (congrArg Value.bool (by rw [clo_any] at hq ⊢; simp only [endT, hq, Bool.true_or]))
    · rename_i hq
      show Q _ _
      exact hret _ _ _ (fun b o e n => Fr.keep (by assumption) b o (hg b o e n)) (congrArg Value.bool (by rw [clo_any] at hq; rw [sep_any]; simp only [endT, hq, Bool.false_or]))
end

theorem use_pure {w : World} {f : Addr} {cost : Nat} {vs : List Value} {news : List (Addr × Obj)} {Pre : Heap → Prop} {Post : Heap → Heap → Value → Prop} (D : Does w f cost vs [] Pre Post)
    {p : Program} {loose : List Str} {mean : ExcName → Option Value} {mg mb : Str → Option Value} {A : Around} {env : Env} {outer : List Env} {A₀ : Around} {base h₀ : Heap} {L : Addr} {m : Str → Option Value} {s : Shared} {Q E : Value → Shared → Prop}
    (B : Below A₀ base outer h₀) (F : Fr h₀ L s.heap m) (X : (Mine.hd.heap_39 w.params).In h₀) (N : News h₀ L s.heap news) (T : Top p loose mean mg mb h₀) (hA : A.frames = some (env :: outer)) (hf : env.frame = some L) (hk : env.scope.kind = .function)
    (hd : A.depth + cost < recursionLimit) (hu : A.units + 8 * cost < cLine) (hh : A.handled = none) (hpre : Pre s.heap)
    (k : ∀ r h' tk', Fr h₀ L h' m → News h₀ L h' news → Post s.heap h' r → Q r { s with heap := h', toks := tk' }) :
    wpAny (model PR w) A (call (.ref f) vs) Q E s :=
  use_does D B F X N T hA hf hk hd hu hh (List.forall_mem_nil _) hpre fun r h' tk' hK hP F' => k r h' tk' F' (news_keep (ms := []) N hK (fun _ _ q => nomatch q)) hP
/-- a frame of the parser's stack, as it lies -/
structure FC where
  fa : Nat
  fd : Nat
  fi : Nat
  kind : Str
  kt : Tok
  lim : Int
  lt : Tok
  fn : Int
  ft : Tok
  nm : Int
  nt : Tok
  pr : Int
  pt : Tok
  left : Value
  its : List Value
  n : Nat
  c1 : Tok
  c2 : Tok
  c3 : Tok
  c4 : Tok
  c5 : Tok
  c6 : Tok
  c7 : Tok
abbrev FD (P : Params) (kind : Str) (kt : Tok) (lim : Int) (lt : Tok) (fn : Int) (ft : Tok) (nm : Int) (nt : Tok) (pr : Int) (pt : Tok) (left : Value) (fi : Nat) (c1 c2 c3 c4 c5 c6 c7 : Tok) : Obj := dictOf [⟨PyData.keyHash P (Str.ofString "kind"), .str (Str.ofString "kind") c1, .str kind kt⟩,
  ⟨PyData.keyHash P (Str.ofString "limit"), .str (Str.ofString "limit") c2, .int lim lt⟩,
  ⟨PyData.keyHash P (Str.ofString "functor"), .str (Str.ofString "functor") c3, .int fn ft⟩,
  ⟨PyData.keyHash P (Str.ofString "name"), .str (Str.ofString "name") c4, .int nm nt⟩,
  ⟨PyData.keyHash P (Str.ofString "priority"), .str (Str.ofString "priority") c5, .int pr pt⟩,
  ⟨PyData.keyHash P (Str.ofString "left"), .str (Str.ofString "left") c6, left⟩,
  ⟨PyData.keyHash P (Str.ofString "items"), .str (Str.ofString "items") c7, .ref fi⟩] 7
abbrev FL (P : Params) (f : FC) : List (Addr × Obj) := [(f.fa, instObj 309 f.fd), (f.fd, FD P f.kind f.kt f.lim f.lt f.fn f.ft f.nm f.nt f.pr f.pt f.left f.fi f.c1 f.c2 f.c3 f.c4 f.c5 f.c6 f.c7), (f.fi, listOf f.its.toArray f.n)]
/-- a new frame -/
structure NewF (h : Heap) (f : FC) (kind : Str) (lim : Int) (nm : Int) : Prop where
  kd : f.kind = kind
  lm : f.lim = lim
  nm_ : f.nm = nm
  its : f.its = []
  ne : f.fd ≠ f.fa ∧ f.fd ≠ f.fi ∧ f.fa ≠ f.fi
  n1 : h.get? f.fa = none
  n2 : h.get? f.fd = none
  n3 : h.get? f.fi = none
theorem back_none {g h h' : Heap} {L a : Addr} {o : Obj} {news ms : List (Addr × Obj)} (N : News g L h' news) (ha : (a, o) ∈ news) (hg : ∀ b o, h.get? b = some o → b ∉ ms.map (·.1) → g.get? b = some o) (n : a ∉ ms.map (·.1)) : h.get? a = none := by
  cases z : h.get? a with
  | none => rfl
  | some o => have := hg _ _ z n; rw [(N _ ha).2.2] at this; cases this
theorem nm1 {a x : Addr} (h : a ≠ x) : a ∉ [x] := fun q => h (List.mem_singleton.mp q)
theorem nmc {a x : Addr} {l : List Addr} (h : a ≠ x) (k : a ∉ l) : a ∉ x :: l := fun q => (List.mem_cons.mp q).elim h k
theorem there_PL {P : Params} {β : BA} {π : PA} {pl : Int} {kp : Tok} {lim : Int} {kl : Tok} {tm : Value} {pr : Int} {kr : Tok} {news : List (Addr × Obj)} (h1 : ∃ o, ((π.p : Addr), o) ∈ news) (h2 : ∃ o, ((π.pd : Addr), o) ∈ news) : ∀ p ∈ PL P β π pl kp lim kl tm pr kr, ∃ q ∈ news, q.1 = p.1 := by
  intro p hp
  simp only [PL, List.mem_cons, List.mem_nil_iff, or_false] at hp
  rcases hp with rfl | rfl
  · exact h1.elim fun o h => ⟨_, h, rfl⟩
  · exact h2.elim fun o h => ⟨_, h, rfl⟩
theorem allLt_trans {d x : Addr} {l : List (Addr × Obj)} (h : AllLt d l) (k : d < x) : AllLt x l := allLt_of fun p hp => Nat.lt_trans (ktn_ltOf h p hp) k
theorem nm_app {a : Addr} {x y : List (Addr × Obj)} (h : a ∉ x.map (·.1)) (k : a ∉ y.map (·.1)) : a ∉ (x ++ y).map (·.1) := by
  rw [List.map_append]
  exact fun q => (List.mem_append.mp q).elim h k

local macro_rules | `(tactic| walk_at "m allLt") => `(tactic| first | assumption | exact And.right (by assumption) | exact And.right (And.right (by assumption)) | exact And.right (And.right (And.right (by assumption))) | exact And.right (And.right (And.right (And.right (by assumption)))) | exact And.right (And.right (And.right (And.right (And.right (by assumption))))) | exact And.right (And.right (And.right (And.right (And.right (And.right (by assumption)))))) | exact And.right (And.right (And.right (And.right (And.right (And.right (And.right (by assumption))))))))
local macro_rules | `(tactic| walk_at "m off9") => `(tactic| first | exact off_rest (by walk_at "m allLt") | exact off_rest (allLt_trans (by walk_at "m allLt") (by assumption)))
local macro_rules | `(tactic| walk_at "m nm") => `(tactic| first | exact List.not_mem_nil | (refine nmc (by k_ne) ?_; walk_at "m nm"))
local macro_rules | `(tactic| walk_at "m tk") => `(tactic| first | assumption | exact TupTk.keep (Fr.keep (by assumption)) (by assumption) | exact TupTk.keep (Fr.keep (by assumption)) (TupTk.keep (Fr.keep (by assumption)) (by assumption)) | exact TupTk.keep (Fr.keep (by assumption)) (TupTk.keep (Fr.keep (by assumption)) (TupTk.keep (Fr.keep (by assumption)) (by assumption))))
local macro_rules | `(tactic| walk_at "call ref") => `(tactic| (k_here; (with_reducible show wpAny _ _ (call (Value.ref 334) [_, _]) _ _ _); k_dflt (refine' use_pure (does_punct _ _ _ _ _ _) ?k1 ?k2 ?k3 ?k4 ?k5 ?kA ?kf ?kk ?kd ?ku ?kh ?kp ?_; (case k4 => k_asm); walk_at "m fin"; (case kp => walk_at "m tk"); k_whole); intro r h' tk' F' N' hP; subst hP; (try dsimp only); (try k_sweep)))
local macro_rules | `(tactic| walk_at "call ref") => `(tactic| (k_here; (with_reducible show wpAny _ _ (call (Value.ref 327) [_]) _ _ _); k_dflt (refine' use_pure (does_closes _ _ _ _) ?k1 ?k2 ?k3 ?k4 ?k5 ?kA ?kf ?kk ?kd ?ku ?kh ?kp ?_; (case k4 => k_asm); walk_at "m fin"; (case kp => walk_at "m tk"); k_whole); intro r h' tk' F' N' hP; subst hP; (try dsimp only); (try k_sweep)))


/-- a contract upon the table and more that stays as it is -/
theorem use_bk2 {w : World} {f : Addr} {cost n : Nat} {vs : List Value} {β : BA} {c : BC} {own own1 im : List (Addr × Obj)} {Pre : Heap → Prop} {R : BC → Heap → Heap → Value → Prop}
    (D : Does w f cost vs (own1 ++ c.L w.params β) (fun h => c.Ok w h β ∧ Pre h) (fun h h' r => ∃ c', c.Grow c' n ∧ Has h' (own1 ++ c'.L w.params β) ∧ c'.Ok w h' β ∧ R c' h h' r))
    {p : Program} {loose : List Str} {mean : ExcName → Option Value} {mg mb : Str → Option Value} {A : Around} {env : Env} {outer : List Env} {A₀ : Around} {base g : Heap} {L : Addr} {m : Str → Option Value} {s : Shared} {Q E : Value → Shared → Prop}
    (B : Below A₀ base outer g) (F : Fr g L s.heap m) (X : (Mine.hd.heap_39 w.params).In g) (N : News g L s.heap (own ++ Rest w.params β c im)) (T : Top p loose mean mg mb g) (hA : A.frames = some (env :: outer)) (hf : env.frame = some L) (hk : env.scope.kind = .function)
    (hd : A.depth + cost < recursionLimit) (hu : A.units + 8 * cost < cLine) (hh : A.handled = none) (ok : c.Ok w s.heap β) (hpre : Pre s.heap) (hoff : ∀ p ∈ own, p.1 ∉ (c.L w.params β).map (·.1)) (h1 : ∀ p ∈ own1, p ∈ own) (hnt : NoTup own1)
    (k : ∀ r h' tk' c' im', Fr g L h' m → News g L h' (own ++ Rest w.params β c' im') → ImK g L h' im' → (∀ p ∈ im', isTup p.2) → c'.Ok w h' β → c.Grow c' n → KeepT s.heap h' → R c' s.heap h' r → Q r { s with heap := h', toks := tk' }) :
    wpAny (model PR w) A (call (.ref f) vs) Q E s := by
  have hs : ∀ p ∈ own1 ++ c.L w.params β, p ∈ own ++ Rest w.params β c im := fun p hp => (List.mem_append.mp hp).elim (fun q => List.mem_append_left _ (h1 p q)) (fun q => List.mem_append_right _ (rest_bk p q))
  refine use_does D B F X N T hA hf hk hd hu hh hs ⟨ok, hpre⟩ fun r h' tk' hK ⟨c', hG, hH, hO, hR⟩ F' => ?_
  refine k r h' tk' c' (tupsAt g h') F' (fun p hp => ?_) (tups_imK F') (fun p hp => (mem_tups.mp hp).2.1) hO hG (keepT_of hK (fun p hp => (N p (hs p hp)).1) (hnt.app (ok.noTup _))) hR
  rcases List.mem_append.mp hp with q | q
  · have z := N p (List.mem_append_left _ q)
    refine ⟨?_, z.2⟩
    by_cases hm : p.1 ∈ own1.map (·.1)
    · obtain ⟨p', hp', e⟩ := List.mem_map.mp hm
      have z' := (N p' (List.mem_append_left _ (h1 p' hp'))).1
      have := hH p' (List.mem_append_left _ hp')
      rw [show p'.1 = p.1 from e] at z' this
      rw [z.1] at z'
      rw [this, ← Option.some.inj z']
    · refine hK _ _ z.1 fun w => ?_
      rw [List.map_append] at w
      exact (List.mem_append.mp w).elim hm (hoff p q)
  · rw [rest_eq] at q
    rcases List.mem_append.mp q with q | q
    · have hm : p.1 ∈ (c.L w.params β).map (·.1) := by rw [← BC.addrs w.params β c c']; exact List.mem_map_of_mem q
      obtain ⟨p', hp', e⟩ := List.mem_map.mp hm
      have z' := (N p' (List.mem_append_right _ (rest_bk p' hp'))).2
      rw [show p'.1 = p.1 from e] at z'
      exact ⟨hH p (List.mem_append_right _ q), z'⟩
    · obtain ⟨a, b, c⟩ := mem_tups.mp q
      exact ⟨a, fun q => frame_noTup F' (q ▸ a) b, c⟩
theorem off_own {P : Params} {β : BA} {c c' : BC} {own : List (Addr × Obj)} {as : List Addr} (h : ∀ a ∈ as, a ∉ (c.L P β).map (·.1)) (e : own.map (·.1) = as) : ∀ p ∈ own, p.1 ∉ (c'.L P β).map (·.1) := fun p hp q => h p.1 (e ▸ List.mem_map_of_mem hp) (by rw [BC.addrs P β c' c]; exact q)
theorem map_sub {s b : List (Addr × Obj)} (h : ∀ x ∈ s, x ∈ b) {a : Addr} (hm : a ∈ s.map (·.1)) : a ∈ b.map (·.1) := by
  obtain ⟨p, hp, e⟩ := List.mem_map.mp hm
  exact e ▸ List.mem_map_of_mem (h p hp)
theorem mid_sub {x y z : List (Addr × Obj)} : ∀ p ∈ x ++ z, p ∈ (x ++ y) ++ z := fun _ hp => (List.mem_append.mp hp).elim (fun q => List.mem_append_left _ (List.mem_append_left _ q)) (fun q => List.mem_append_right _ q)
theorem there_app {x y news : List (Addr × Obj)} (h1 : ∀ p ∈ x, p ∈ news) (h2 : ∀ p ∈ y, ∃ q ∈ news, q.1 = p.1) : ∀ p ∈ x ++ y, ∃ q ∈ news, q.1 = p.1 := fun p hp => (List.mem_append.mp hp).elim (fun q => ⟨p, h1 p q, rfl⟩) (h2 p)
theorem bk_there' {news im : List (Addr × Obj)} {P : Params} {β : BA} {c c' : BC} (h : ∀ p ∈ Rest P β c' im, p ∈ news) : ∀ p ∈ c.L P β, ∃ q ∈ news, q.1 = p.1 := fun p hp => by
  have : p.1 ∈ (c'.L P β).map (·.1) := by rw [BC.addrs P β c c']; exact List.mem_map_of_mem hp
  obtain ⟨q, hq, e⟩ := List.mem_map.mp this
  exact ⟨q, h q (rest_bk q hq), e⟩
theorem TermAt.ref {tx : List Str} {fs : List (Int × Int)} {h : Heap} {t : T} {v : Value} (x : TermAt tx fs h t v) : ∃ a, v = .ref a := by
  cases t <;> rw [TermAt] at x
  · obtain ⟨_, r, _, _, e, _⟩ := x; exact ⟨r, e⟩
  · obtain ⟨r, _, _, e, _⟩ := x; exact ⟨r, e⟩
  · obtain ⟨r, _, _, e, _⟩ := x; exact ⟨r, e⟩
  · obtain ⟨r, _, _, e, _⟩ := x; exact ⟨r, e⟩
  · obtain ⟨_, _, r, _, _, _, _, e, _⟩ := x; exact ⟨r, e⟩
  · obtain ⟨r, _, _, _, _, _, e, _⟩ := x; exact ⟨r, e⟩
  · obtain ⟨r, _, _, _, _, _, e, _⟩ := x; exact ⟨r, e⟩
  · obtain ⟨r, _, _, _, _, e, _⟩ := x; exact ⟨r, e⟩
theorem add_K {prog : Program} {w : World} {A : Around} {E : Value → Shared → Prop} {s : Shared} {L : Addr} {h₀ : Heap} {m : Str → Option Value} {news : List (Addr × Obj)} {l b : Addr} {its its2 : List Value} {Q : Value → Shared → Prop} (F : Fr h₀ L s.heap m) (N : News h₀ L s.heap news) (hl : s.heap.IsList l its.toArray) (hb : s.heap.IsList b its2.toArray) (hz : its.length + its2.length < 10000)
    (h : ∀ D h', Fr h₀ L h' m → News h₀ L h' ((D, listOf (its ++ its2).toArray 0) :: news) → (∀ p ∈ news, p.1 < D) → Q (.ref D) { s with heap := h' }) : wpAny (model prog w) A (binaryOp .Add (.ref l) (.ref b)) Q E s :=
  add_arrays F N hl hb (fun h' F' N' => h _ h' F' (by simpa using N') fun p hp => Heap.lt_size (N p hp).1) (by simp [sizeLine_eq]; omega)

theorem tick26 {prog : Program} {w : World} {A : Around} {E : Value → Shared → Prop} {s : Shared} {env : Env} {Q : Flow → Shared → Prop} (h : Q .next s) : wpAny (model prog w) A (execs [] env) Q E s := by
  first | (walk1; exact h) | exact wpAny_execs_nil h
section
set_option maxHeartbeats 8000000 in
theorem op_int (w : World) (β : BA) (π : PA) (kp : Tok) (lim : Int) (kl : Tok) (tm : Value) (pr : Int) (kr : Tok) (tvs : List Value) (i : Nat) (q : Addr) (z : Int) (hlt : i < 1000) (hq0q : tvs[i]? = some (.ref q)) (hpd : π.pd < π.p) :
    Does w 418 8 [.ref π.p] (PL w.params β π (i : Int) kp lim kl tm pr kr)
     (fun h => h.IsList π.tl tvs.toArray ∧ TupTk h q (TK.int7) z ∧ (∀ a ∈ [π.tl, q], a ∉ (PL w.params β π (i : Int) kp lim kl tm pr kr).map (·.1)))
     (fun h h' r => ∃ (kp' kr' k t1 t2 : Tok) (t : Addr), r = .int 1 k ∧ Has h' (PL w.params β π ((i : Int) + 1) kp' lim kl (.ref t) 0 kr') ∧ h'.get? t = some (tupOf [.str (Str.ofString "i") t1, .int 7 t2])) := by
  walk_at "m fill"
  intro p loose mean mg mb A env outer A₀ base h₀ L m s Q E B F X N T hA hf hk hd hu hh hpre hret
  obtain ⟨ah, dp, fr, gd, un⟩ := A
  obtain rfl : fr = some (env :: outer) := hA
  obtain rfl : ah = none := hh
  replace hd : dp + _ < recursionLimit := hd
  replace hu : un + _ < cLine := hu
  obtain ⟨hl0, hq00, hno⟩ := hpre
  have hx0 : tvs[Int.toNat (i : Int)]? = some (.ref q) := hq0q
  refine wpAny_call ?_
  k_dflt (refine' enterD (binds := [(Str.ofString "self", .ref π.p)]) ?k1 ?k2 ?k3 ?k4 ?k5 ?kA ?kF ?kK ?k6 ?k7 ?k8 ?k9 ?kB ?_ ?c2 ?c3 ?c4 ?c5; (case kA => walk_at "m frames"); (case kF => first | assumption | exact rfl); (case kK => first | assumption | exact rfl); (case k1 => k_asm); (case k2 => k_asm); (case k3 => k_asm); (case k4 => k_asm); (case k5 => k_asm); (case k6 => k_is); (case k7 => k_is); (case k8 => walk_at "m room"); (case k9 => first | exact BindsTo.of_eq rfl | exact binds_K (by k_in) rfl (by k_is) rfl rfl rfl); (case c5 => decide); (case kB => exact locs rfl); (case c2 => exact rfl); (case c3 => exact rfl); (case c4 => exact rfl); k_whole)
  intro g L' h₁ F' N' B' X' T' hg hgs
  k_fold
  have hl := list_base hl0 hg (hno _ (by simp))
  obtain ⟨ka0, kb0, kc0, hq00⟩ := hq00
  have hqg0 := hg _ _ hq00 (hno _ (by simp))
  have hqt0 : IsTup g q [.str (Str.ofString "int") ka0, .int 7 kb0, .int z kc0].toArray := ⟨_, hqg0, rfl, _, rfl⟩
  have htk0 : TupTk g q (TK.int7) z := ⟨_, _, _, hqg0⟩
  k_steps
  rename News g L' _ _ => N9
  show Q _ _
  refine hret _ _ _ (fun b o e n => Fr.keep (by assumption) b o (hg b o e n)) ?_
  refine' ⟨_, _, _, _, _, _, rfl, ?has, ?tup⟩
  case has => walk_at "m has"
  case tup => exact News.get N9 (by k_mem)
end

theorem tick27 {prog : Program} {w : World} {A : Around} {E : Value → Shared → Prop} {s : Shared} {env : Env} {Q : Flow → Shared → Prop} (h : Q .next s) : wpAny (model prog w) A (execs [] env) Q E s := by
  first | (walk1; exact h) | exact wpAny_execs_nil h
section
local macro_rules | `(tactic| walk_at "exec Raise some none") => `(tactic| (k_dflt (refine' raise_K ?k1 ?_; (case k1 => exact rfl); k_whole)))
local macro_rules | `(tactic| walk_at "call ref") => `(tactic| (k_here; (with_reducible show wpAny _ _ (call (Value.ref 383) _) _ _ _); refine hold ?_))
set_option maxHeartbeats 8000000 in
theorem op_bad (w : World) (β : BA) (π : PA) (kp : Tok) (lim : Int) (kl : Tok) (tm : Value) (pr : Int) (kr : Tok) (tvs : List Value) (i : Nat) (q : Addr) (z : Int) (x : Sg) (hlt : i < 1000) (hq0q : tvs[i]? = some (.ref q)) (hpd : π.pd < π.p) (hb1 : isP (TK.pun x) (Str.ofString "[") = false) (hb2 : isP (TK.pun x) (Str.ofString "{") = false) :
    DoesX w 418 8 [.ref π.p] (PL w.params β π (i : Int) kp lim kl tm pr kr)
     (fun h => h.IsList π.tl tvs.toArray ∧ TupTk h q (TK.pun x) z ∧ (∀ a ∈ [π.tl, q], a ∉ (PL w.params β π (i : Int) kp lim kl tm pr kr).map (·.1)))
     (fun h h' r => False) (fun _ kind z9 => kind = Str.ofString "unexpected_token" ∧ z9 = z) := by
  walk_at "m fill"
  intro p loose mean mg mb A env outer A₀ base h₀ L m s Q E B F X N T hA hf hk hd hu hh hpre hret hexc
  obtain ⟨ah, dp, fr, gd, un⟩ := A
  obtain rfl : fr = some (env :: outer) := hA
  obtain rfl : ah = none := hh
  replace hd : dp + _ < recursionLimit := hd
  replace hu : un + _ < cLine := hu
  obtain ⟨hl0, hq00, hno⟩ := hpre
  have hx0 : tvs[Int.toNat (i : Int)]? = some (.ref q) := hq0q
  refine wpAny_call ?_
  k_dflt (refine' enterD (binds := [(Str.ofString "self", .ref π.p)]) ?k1 ?k2 ?k3 ?k4 ?k5 ?kA ?kF ?kK ?k6 ?k7 ?k8 ?k9 ?kB ?_ ?c2 ?c3 ?c4 ?c5; (case kA => walk_at "m frames"); (case kF => first | assumption | exact rfl); (case kK => first | assumption | exact rfl); (case k1 => k_asm); (case k2 => k_asm); (case k3 => k_asm); (case k4 => k_asm); (case k5 => k_asm); (case k6 => k_is); (case k7 => k_is); (case k8 => walk_at "m room"); (case k9 => first | exact BindsTo.of_eq rfl | exact binds_K (by k_in) rfl (by k_is) rfl rfl rfl); (case c5 => decide); (case kB => exact locs rfl); (case c2 => exact rfl); (case c3 => exact rfl); (case c4 => exact rfl); k_whole)
  intro g L' h₁ F' N' B' X' T' hg hgs
  k_fold
  have hl := list_base hl0 hg (hno _ (by simp))
  obtain ⟨ka0, kb0, kc0, hq00⟩ := hq00
  have hqg0 := hg _ _ hq00 (hno _ (by simp))
  have hqt0 : IsTup g q [.str (Str.ofString "punct") ka0, .str (Sg.str x) kb0, .int z kc0].toArray := ⟨_, hqg0, rfl, _, rfl⟩
  have htk0 : TupTk g q (TK.pun x) z := ⟨_, _, _, hqg0⟩
  k_steps
  unfold Hold
  rename News g L' _ _ => N5
  rename Fr g L' _ _ => F5
  k_dflt (refine' use_does (does_fault w π.p q _ _ z (.str (Str.ofString "punct") ka0) (.str x.str kb0) kc0) ?k1 ?k2 ?k3 N5 ?k5 ?kA ?kf ?kk ?kd ?ku ?kh (List.forall_mem_nil _) ?kp ?_; walk_at "m fin"; (case kp => exact F5.keep _ _ hqg0))
  intro r h' tk' hK hP F6
  obtain ⟨e, dx, od, mA, ns, flt⟩ := hP
  refine' raise_end ?b ?x ?f0 ?f ?flt ?hE ?hk
  case hk => exact rfl
  case b => exact B'
  case x => exact X'
  case f => exact F6
  case f0 => exact F5
  case flt => exact flt
  intro h'' hf hu
  show E _ _
  have kk : Keep ((PL w.params β π (i : Int) kp lim kl tm pr kr).map (·.1)) s.heap _ := (fun b o e n => Fr.keep (by assumption) b o (hg b o e n))
  exact hexc e dx h'' _ _ _ hf (KeepU.of kk hu) (flt.flt.slots hu) ⟨rfl, rfl⟩
end

theorem tick28 {prog : Program} {w : World} {A : Around} {E : Value → Shared → Prop} {s : Shared} {env : Env} {Q : Flow → Shared → Prop} (h : Q .next s) : wpAny (model prog w) A (execs [] env) Q E s := by
  first | (walk1; exact h) | exact wpAny_execs_nil h
section
local macro_rules | `(tactic| walk_at "compareOp In int ref") => `(tactic| (k_here; k_dflt (refine kda_in (knd := PySem.intKind _ _) (by k_asm) (by k_mem) (by assumption) (by assumption) (intKind_is _ _ _ _) false (by first | rfl | exact comma_noneS (by assumption)) ?_)))
local macro_rules | `(tactic| k_all) => `(tactic| exact rest_off (by assumption) (by walk_at "m rest") (by k_mem) (by first | exact list_noTup _ _ | exact dict_noTup _ _) (by assumption) (by assumption))
local macro_rules | `(tactic| walk_at "call ref") => `(tactic| (k_here; (with_reducible show wpAny _ _ (call (Value.ref 88) [_, _]) _ _ _); refine hold ?_))
set_option maxHeartbeats 8000000 in
theorem op_na (w : World) (β : BA) (π : PA) (kp : Tok) (lim : Int) (kl : Tok) (tm : Value) (pr : Int) (kr : Tok) (tvs : List Value) (i : Nat) (q : Addr) (z : Int) (q2 : Addr) (z2 : Int) (d2 : TK) (ω : OA) (c : BC) (hlt : i < 1000) (hq0q : tvs[i]? = some (.ref q)) (hq1 : tvs[i + 1]? = some (.ref q2)) (hpd : π.pd < π.p) (hoO : OOk w ω) (hord : ω.od < π.o ∧ π.o < ω.pf ∧ ω.pf < ω.nf ∧ ω.nf < ω.qf ∧ ω.qf < π.pd) (hd2 : (d2.kind == Str.ofString "open_ct") = false) (hsz : c.size < 100000) (h7 : c.texts[7]? = some (Str.ofString ",")) (hoff : ∀ a ∈ [π.p, π.pd, π.o, ω.od, ω.pf, ω.nf, ω.qf], a ∉ (c.L w.params β).map (·.1)) :
    Does w 418 8 [.ref π.p] ((PL w.params β π (i : Int) kp lim kl tm pr kr ++ OL w.params β π.o ω) ++ c.L w.params β)
     (fun h => c.Ok w h β ∧ h.IsList π.tl tvs.toArray ∧ TupTk h q (TK.namA) z ∧ TupTk h q2 d2 z2 ∧ (∀ a ∈ [π.tl, q, q2], a ∉ ((PL w.params β π (i : Int) kp lim kl tm pr kr ++ OL w.params β π.o ω) ++ c.L w.params β).map (·.1)))
     (fun h h' r => ∃ (c' : BC) (kp' kr' k t1 t2 : Tok) (t : Addr) (n : Nat), r = .int 1 k ∧ c.Grow c' 1 ∧ c'.Ok w h' β ∧ Has h' ((PL w.params β π ((i : Int) + 1) kp' lim kl (.ref t) 0 kr' ++ OL w.params β π.o ω) ++ c'.L w.params β) ∧ h'.get? t = some (tupOf [.str (Str.ofString "a") t1, .int n t2]) ∧ c'.texts[n]? = some (Str.ofString "a")) := by
  walk_at "m fill"
  intro p loose mean mg mb A env outer A₀ base h₀ L m s Q E B F X N T hA hf hk hd hu hh hpre hret
  obtain ⟨ah, dp, fr, gd, un⟩ := A
  obtain rfl : fr = some (env :: outer) := hA
  obtain rfl : ah = none := hh
  replace hd : dp + _ < recursionLimit := hd
  replace hu : un + _ < cLine := hu
  obtain ⟨hok, hl0, hq00, hq01, hno⟩ := hpre
  have hx0 : tvs[Int.toNat (i : Int)]? = some (.ref q) := hq0q
  have hx1 : tvs[Int.toNat ((i : Int) + 1)]? = some (.ref q2) := by rw [← hq1]; (congr 1; try omega)
  obtain ⟨od1, od2, od3, lo1, lo2, lo3⟩ := hoO
  obtain ⟨or1, or2, or3, or4, or5⟩ := hord
  have ho1 := hoff π.pd (by simp)
  refine wpAny_call ?_
  k_dflt (refine' enterD (binds := [(Str.ofString "self", .ref π.p)]) ?k1 ?k2 ?k3 ?k4 ?k5 ?kA ?kF ?kK ?k6 ?k7 ?k8 ?k9 ?kB ?_ ?c2 ?c3 ?c4 ?c5; (case kA => walk_at "m frames"); (case kF => first | assumption | exact rfl); (case kK => first | assumption | exact rfl); (case k1 => k_asm); (case k2 => k_asm); (case k3 => k_asm); (case k4 => k_asm); (case k5 => k_asm); (case k6 => k_is); (case k7 => k_is); (case k8 => walk_at "m room"); (case k9 => first | exact BindsTo.of_eq rfl | exact binds_K (by k_in) rfl (by k_is) rfl rfl rfl); (case c5 => decide); (case kB => exact locs rfl); (case c2 => exact rfl); (case c3 => exact rfl); (case c4 => exact rfl); k_whole)
  intro g L' h₁ F' N' B' X' T' hg hgs
  k_fold
  have hl := list_base hl0 hg (hno _ (by simp))
  obtain ⟨ka0, kb0, kc0, hq00⟩ := hq00
  have hqg0 := hg _ _ hq00 (hno _ (by simp))
  have hqt0 : IsTup g q [.str (Str.ofString "name") ka0, .str (Str.ofString "a") kb0, .int z kc0].toArray := ⟨_, hqg0, rfl, _, rfl⟩
  have htk0 : TupTk g q (TK.namA) z := ⟨_, _, _, hqg0⟩
  obtain ⟨ka1, kb1, kc1, hq01⟩ := hq01
  have hqg1 := hg _ _ hq01 (hno _ (by simp))
  have hqt1 : IsTup g q2 [.str (TK.kind d2) ka1, TK.val d2 kb1, .int z2 kc1].toArray := ⟨_, hqg1, rfl, _, rfl⟩
  have htk1 : TupTk g q2 d2 z2 := ⟨_, _, _, hqg1⟩
  have okg := hok.keepT (keepT_of hg (fun p hp => (N p hp).1) (((PL_noTup _ _ _ _ _ _ _ _ _ _).app (OOk.noTup ⟨od1, od2, od3, lo1, lo2, lo3⟩ _ _ _)).app (hok.noTup _)))
  replace N' := rest_start' N'
  dsimp only [List.cons_append, List.nil_append] at N'
  have hTup0 : ∀ p ∈ ([] : List (Addr × Obj)), isTup p.2 := fun _ q => nomatch q
  k_steps
  unfold Hold
  rename News g L' _ _ => N5
  rename Fr g L' _ _ => F5
  k_dflt (refine' use_bk (own := [_, _, _, _, _, _, _]) (n := 1) (does_atom w β c (Str.ofString "a") kb0 hsz) ?k1 ?k2 ?k3 N5 ?k5 ?kA ?kf ?kk ?kd ?ku ?kh ?ko True.intro ?kx ?_; walk_at "m fin"; (case ko => walk_at "m ok"); (case kx => exact fun p hp => hoff p.1 (List.mem_map_of_mem hp)))
  intro r h' tk' c' im' F' N' hIm hT hO hG hKT hR
  obtain ⟨n, tn, rfl, hx⟩ := hR
  dsimp only [List.nil_append, List.cons_append] at N'
  have hne := a_ne7 hO (prefix_get hG.texts h7) hx (by decide)
  clear N5 F5
  k_steps
  rename News g L' _ _ => N9
  show Q _ _
  refine hret _ _ _ (fun b o e n => Fr.keep (by assumption) b o (hg b o e n)) ?_
  refine' ⟨c', _, _, _, _, _, _, n, rfl, hG, ?ok, ?has, ?tup, hx⟩
  case has => exact has_app (has_app (by walk_at "m has") (by walk_at "m has")) (fun p hp => (N9 p (by repeat (first | exact rest_bk p hp | refine List.Mem.tail _ ?_))).1)
  case tup => exact News.get N9 (by k_mem)
  case ok => walk_at "m ok"
end

theorem TermsAt.get {tx : List Str} {fs : List (Int × Int)} {h : Heap} : ∀ {ts : List T} {vs : List Value}, TermsAt tx fs h ts vs → ∀ {k : Nat} {t : T}, ts[k]? = some t → ∃ v, vs[k]? = some v ∧ TermAt tx fs h t v
  | [], _, _, _, _, e => by simp at e
  | t :: ts, vs, x, 0, u, e => by
    rw [TermsAt] at x
    obtain ⟨v, rest, rfl, a, b⟩ := x
    simp only [List.getElem?_cons_zero, Option.some.injEq] at e
    exact ⟨v, rfl, e ▸ a⟩
  | t :: ts, vs, x, k + 1, u, e => by
    rw [TermsAt] at x
    obtain ⟨v, rest, rfl, a, b⟩ := x
    simp only [List.getElem?_cons_succ] at e ⊢
    exact b.get e
abbrev RevIt (o : Obj) (l : Addr) (i : Int) : Prop := o.cls = .type "list_reverseiterator" ∧ o.data = .fields #[.ref l, rawInt i]
theorem tick29 {prog : Program} {w : World} {A : Around} {E : Value → Shared → Prop} {s : Shared} {env : Env} {Q : Flow → Shared → Prop} (h : Q .next s) : wpAny (model prog w) A (execs [] env) Q E s := by
  first | (walk1; exact h) | exact wpAny_execs_nil h
section
variable {prog : Program} {w : World} {A : Around} {E : Value → Shared → Prop} {s : Shared} {L : Addr} {h₀ : Heap} {m : Str → Option Value} {news : List (Addr × Obj)}
theorem next_rev {l it : Addr} {o : Obj} {i : Nat} {items : Array Value} {x : Value} {Q : Option Value → Shared → Prop} (F : Fr h₀ L s.heap m) (N : News h₀ L s.heap ((it, o) :: news)) (ho : RevIt o l i) (hl : s.heap.IsList l items) (hx : items[i]? = some x) (hn : ∀ p ∈ news, p.1 ≠ it)
    (h : ∀ o' h', RevIt o' l ((i : Int) - 1) → Fr h₀ L h' m → News h₀ L h' ((it, o') :: news) → Q (some x) { s with heap := h' }) : wpAny (model prog w) A (pyNext (.ref it)) Q E s := by
  have z := N _ (.head _)
  refine wpAny_pyNext_rev_item ⟨o, z.1, ho.1, ho.2⟩ hl hx fun h' hi hs => ?_
  obtain ⟨o', a, b, c⟩ := hi
  exact h o' h' ⟨b, c⟩ (F.change hs z.2.1 z.2.2) (news_set (pre := []) N (fun _ q => nomatch q) hn hs a)
theorem end_rev {l it : Addr} {o : Obj} {Q : Option Value → Shared → Prop} (F : Fr h₀ L s.heap m) (N : News h₀ L s.heap ((it, o) :: news)) (ho : RevIt o l (-1)) (hn : ∀ p ∈ news, p.1 ≠ it) (hh : A.handled = none)
    (h : ∀ h', Fr h₀ L h' m → News h₀ L h' news → Q none { s with heap := h' }) : wpAny (model prog w) A (pyNext (.ref it)) Q E s := by
  have z := N _ (.head _)
  refine wpAny_pyNext_rev_end hh ⟨o, z.1, ho.1, ho.2⟩ fun h' hs => ?_
  exact h h' (fr_ext F hs z.2.1 z.2.2) fun p hp => ⟨hs _ _ (hn p hp) (N p (.tail _ hp)).1, (N p (.tail _ hp)).2⟩
end
theorem revIt_noTup {o : Obj} {l : Addr} {i : Int} (x : RevIt o l i) : ¬ isTup o := by
  rintro ⟨e, _⟩
  exact absurd (x.1.symm.trans e) (by decide)
def mLt (l : Addr) (tv : Value) (rv : Value) (vi : Option Value) : Str → Option Value := fun y => if y = Str.ofString "item" then vi else if y = Str.ofString "result" then some rv else List.lookup y [(Str.ofString "items", Value.ref l), (Str.ofString "tail", tv)].reverse
theorem tick30 {prog : Program} {w : World} {A : Around} {E : Value → Shared → Prop} {s : Shared} {env : Env} {Q : Flow → Shared → Prop} (h : Q .next s) : wpAny (model prog w) A (execs [] env) Q E s := by
  first | (walk1; exact h) | exact wpAny_execs_nil h
section
local macro_rules | `(tactic| walk_at "m fmap") => `(tactic| (intro y; (try unfold mLt); (by_cases e0 : y = Str.ofString "result"; · (subst e0; rfl)); (by_cases e1 : y = Str.ofString "item"; · (subst e1; rfl)); (simp only [e0, e1, if_false])))
theorem mLt_set {g h : Heap} {L l : Addr} {tv rv rv' : Value} {vi a : Option Value} (F : Fr g L h (fun y => if y = Str.ofString "result" then some rv' else if y = Str.ofString "item" then a else mLt l tv rv vi y)) : Fr g L h (mLt l tv rv' a) := fr_congr F (by walk_at "m fmap")
local macro_rules | `(tactic| walk_at "exec For") => `(tactic| refine hold ?_)
local macro_rules | `(tactic| walk_at "exec For Name Call cons nil") => `(tactic| refine hold ?_)
local macro_rules | `(tactic| walk_at "call type:reversed") => `(tactic| refine hold ?_)
local macro_rules | `(tactic| walk_at "pyIter ref") => `(tactic| refine hold ?_)
set_option maxHeartbeats 4000000 in
theorem does_lt1 (w : World) (tx : List Str) (fs : List (Int × Int)) (l : Addr) (its : List Value) (ts : List T) (hn : its.length < 1000) :
    Does w 195 1 [.ref l] [] (fun h => h.IsList l its.toArray ∧ TermsAt tx fs h ts its) (fun h h' r => TermAt tx fs h' (dots ts Mine.T.nil) r) := by
  walk_at "m fill"
  intro p loose mean mg mb A env outer A₀ base h₀ L m s Q E B F X N T hA hf hk hd hu hh hpre hret
  obtain ⟨ah, dp, fr, gd, un⟩ := A
  obtain rfl : fr = some (env :: outer) := hA
  obtain rfl : ah = none := hh
  replace hd : dp + _ < recursionLimit := hd
  replace hu : un + _ < cLine := hu
  obtain ⟨hl0, hts0⟩ := hpre
  refine wpAny_call ?_
  k_dflt (refine' enterD (binds := [(Str.ofString "items", .ref l), (Str.ofString "tail", Value.none)]) ?k1 ?k2 ?k3 ?k4 ?k5 ?kA ?kF ?kK ?k6 ?k7 ?k8 ?k9 ?kB ?_ ?c2 ?c3 ?c4 ?c5; (case kA => walk_at "m frames"); (case kF => first | assumption | exact rfl); (case kK => first | assumption | exact rfl); (case k1 => k_asm); (case k2 => k_asm); (case k3 => k_asm); (case k4 => k_asm); (case k5 => k_asm); (case k6 => k_is); (case k7 => k_is); (case k8 => walk_at "m room"); (case k9 => first | exact BindsTo.of_eq rfl | exact binds_K (by k_in) rfl (by k_is) rfl rfl rfl); (case c5 => decide); (case kB => exact locs rfl); (case c2 => exact rfl); (case c3 => exact rfl); (case c4 => exact rfl); k_whole)
  intro g L' h₁ F' N' B' X' T' hg hgs
  k_fold
  have hl : g.IsList l its.toArray := list_base hl0 hg (by simp)
  have hts := TermsAt.keep (List.prefix_refl _) (List.prefix_refl _) (.of_keep fun b o e => hg b o e (by simp)) _ _ hts0
  obtain ⟨a1, a2, hnil⟩ : ∃ a b, IsTup g 159 [.str (Str.ofString "a") a, .int 0 b].toArray := ⟨_, _, _, X' 159 _ rfl, rfl, _, rfl⟩
  have hr0 : TermAt tx fs g Mine.T.nil (.ref 159) := by rw [TermAt]; exact ⟨_, _, _, rfl, hnil⟩
  k_steps
  unfold Hold
  refine wpAny_For ?_
  k_steps
  unfold Hold
  rename News g L' _ _ => N1
  rename Fr g L' _ _ => F1
  have hlen := hts.length
  refine krv_reversed F1 N1 (Fr.lst F1 hl) ?_
  intro it h3 F3 N3 _
  k_steps
  unfold Hold
  refine wpAny_pyIter_revIter ⟨_, (N3 _ (.head _)).1, rfl, rfl⟩ ?_
  refine for_P (fun s' => Hold (∃ h tk9 rv vi im, s' = ⟨h, s.gens, s.drawn, tk9, s.os⟩ ∧ Fr g L' h (mLt l (Value.none) rv vi) ∧ News g L' h im ∧ TermAt tx fs h (dots ts Mine.T.nil) rv))
    (fun n s' => ∃ k h tk9 rv vi o im, s' = ⟨h, s.gens, s.drawn, tk9, s.os⟩ ∧ n = k ∧ k ≤ ts.length ∧ RevIt o l ((k : Int) - 1) ∧ Fr g L' h (mLt l (Value.none) rv vi) ∧ News g L' h ((it, o) :: im) ∧ TermAt tx fs h (dots (ts.drop k) Mine.T.nil) rv) ?_ ?_ ts.length
    ⟨ts.length, _, _, .ref 159, none, _, [], rfl, rfl, Nat.le_refl _, ⟨rfl, by rw [← hlen]; rfl⟩, fr_congr F3 (by walk_at "m fmap"), N3, by rw [List.drop_length]; exact TermAt.keep (List.prefix_refl _) (List.prefix_refl _) (.of_keep (Fr.keep F3)) _ _ hr0⟩
  · clear N1 F1 N3 F3
    rintro n s' ⟨k, h, tk9, rv, vi, o, im, rfl, rfl, hk2, ho, F, N, hT⟩
    obtain ⟨im2, N2, hIm, hTup⟩ := fresh_tups (own := [_]) F N
    dsimp only [List.nil_append, List.cons_append] at N2
    have hne : ∀ p ∈ im2, p.1 ≠ it := tups_off N2 (by walk_at "m rest") hTup (.head _) (revIt_noTup ho)
    cases n with
    | zero =>
      refine end_rev F N2 ho hne rfl ?_
      intro h6 F6 N6
      dsimp only
      exact ⟨_, _, _, _, _, rfl, F6, N6, TermAt.keep (List.prefix_refl _) (List.prefix_refl _) (hIm _ _ F6 (fun p hp => (N6 p hp).1)) _ _ hT⟩
    | succ n =>
      obtain ⟨t, ht⟩ : ∃ t, ts[n]? = some t := ⟨_, List.getElem?_eq_getElem (by omega)⟩
      obtain ⟨v, hv, htv'⟩ := hts.get ht
      refine next_rev (i := n) F N2 (by rw [show ((n : Nat) : Int) = ((n + 1 : Nat) : Int) - 1 from by omega]; exact ho) (Fr.lst F hl) (by simpa using hv) hne ?_
      intro o' h6 ho' F6 N6
      dsimp only
      have hk6 : KeepT h h6 := hIm _ _ F6 (fun p hp => (N6 p (.tail _ hp)).1)
      k_steps
      rename News g L' _ _ => N8
      rename Fr g L' _ _ => F8
      have hk8 : KeepT h _ := hIm _ _ F8 (fun p hp => (N8 p ((by walk_at "m rest" : ∀ p ∈ im2, p ∈ _) p hp)).1)
      show ∃ m, m < n + 1 ∧ _
      refine ⟨n, Nat.lt_succ_self _, n, _, _, _, _, o', _, rfl, rfl, by omega, ho', mLt_set F8, news_tail (news_tail N8), ?_⟩
      rw [List.drop_eq_getElem_cons (by omega), show ts[n] = t from Option.some.inj ((List.getElem?_eq_getElem (by omega)).symm.trans ht)]
      show TermAt tx fs _ (.dot t (dots (ts.drop (n + 1)) Mine.T.nil)) _
      rw [TermAt]
      exact ⟨_, _, _, _, _, _, rfl, News.isTup N8 (.head _), News.isTup N8 (.tail _ (.head _)), TermAt.keep (List.prefix_refl _) (List.prefix_refl _) (.of_keep (Fr.keep F8)) _ _ htv', TermAt.keep (List.prefix_refl _) (List.prefix_refl _) hk8 _ _ hT⟩
  · clear N1 F1 N3 F3
    rintro s' ⟨h, tk9, rv, vi, im, rfl, F, N, hT⟩
    dsimp only
    k_steps
    show Q _ _
    exact hret _ _ _ (fun b o e n => Fr.keep (by assumption) b o (hg b o e n)) hT
set_option maxHeartbeats 4000000 in
theorem does_lt2 (w : World) (tx : List Str) (fs : List (Int × Int)) (l : Addr) (its : List Value) (ts : List T) (tv : Addr) (r0 : T) (hn : its.length < 1000) :
    Does w 195 1 [.ref l, .ref tv] [] (fun h => h.IsList l its.toArray ∧ TermsAt tx fs h ts its ∧ TermAt tx fs h r0 (.ref tv)) (fun h h' r => TermAt tx fs h' (dots ts r0) r) := by
  walk_at "m fill"
  intro p loose mean mg mb A env outer A₀ base h₀ L m s Q E B F X N T hA hf hk hd hu hh hpre hret
  obtain ⟨ah, dp, fr, gd, un⟩ := A
  obtain rfl : fr = some (env :: outer) := hA
  obtain rfl : ah = none := hh
  replace hd : dp + _ < recursionLimit := hd
  replace hu : un + _ < cLine := hu
  obtain ⟨hl0, hts0, htv⟩ := hpre
  refine wpAny_call ?_
  k_dflt (refine' enterD (binds := [(Str.ofString "items", .ref l), (Str.ofString "tail", Value.ref tv)]) ?k1 ?k2 ?k3 ?k4 ?k5 ?kA ?kF ?kK ?k6 ?k7 ?k8 ?k9 ?kB ?_ ?c2 ?c3 ?c4 ?c5; (case kA => walk_at "m frames"); (case kF => first | assumption | exact rfl); (case kK => first | assumption | exact rfl); (case k1 => k_asm); (case k2 => k_asm); (case k3 => k_asm); (case k4 => k_asm); (case k5 => k_asm); (case k6 => k_is); (case k7 => k_is); (case k8 => walk_at "m room"); (case k9 => first | exact BindsTo.of_eq rfl | exact binds_K (by k_in) rfl (by k_is) rfl rfl rfl); (case c5 => decide); (case kB => exact locs rfl); (case c2 => exact rfl); (case c3 => exact rfl); (case c4 => exact rfl); k_whole)
  intro g L' h₁ F' N' B' X' T' hg hgs
  k_fold
  have hl : g.IsList l its.toArray := list_base hl0 hg (by simp)
  have hts := TermsAt.keep (List.prefix_refl _) (List.prefix_refl _) (.of_keep fun b o e => hg b o e (by simp)) _ _ hts0
  have hr0 := TermAt.keep (List.prefix_refl _) (List.prefix_refl _) (.of_keep fun b o e => hg b o e (by simp)) _ _ htv
  k_steps
  unfold Hold
  refine wpAny_For ?_
  k_steps
  unfold Hold
  rename News g L' _ _ => N1
  rename Fr g L' _ _ => F1
  have hlen := hts.length
  refine krv_reversed F1 N1 (Fr.lst F1 hl) ?_
  intro it h3 F3 N3 _
  k_steps
  unfold Hold
  refine wpAny_pyIter_revIter ⟨_, (N3 _ (.head _)).1, rfl, rfl⟩ ?_
  refine for_P (fun s' => Hold (∃ h tk9 rv vi im, s' = ⟨h, s.gens, s.drawn, tk9, s.os⟩ ∧ Fr g L' h (mLt l (Value.ref tv) rv vi) ∧ News g L' h im ∧ TermAt tx fs h (dots ts r0) rv))
    (fun n s' => ∃ k h tk9 rv vi o im, s' = ⟨h, s.gens, s.drawn, tk9, s.os⟩ ∧ n = k ∧ k ≤ ts.length ∧ RevIt o l ((k : Int) - 1) ∧ Fr g L' h (mLt l (Value.ref tv) rv vi) ∧ News g L' h ((it, o) :: im) ∧ TermAt tx fs h (dots (ts.drop k) r0) rv) ?_ ?_ ts.length
    ⟨ts.length, _, _, .ref tv, none, _, [], rfl, rfl, Nat.le_refl _, ⟨rfl, by rw [← hlen]; rfl⟩, fr_congr F3 (by walk_at "m fmap"), N3, by rw [List.drop_length]; exact TermAt.keep (List.prefix_refl _) (List.prefix_refl _) (.of_keep (Fr.keep F3)) _ _ hr0⟩
  · clear N1 F1 N3 F3
    rintro n s' ⟨k, h, tk9, rv, vi, o, im, rfl, rfl, hk2, ho, F, N, hT⟩
    obtain ⟨im2, N2, hIm, hTup⟩ := fresh_tups (own := [_]) F N
    dsimp only [List.nil_append, List.cons_append] at N2
    have hne : ∀ p ∈ im2, p.1 ≠ it := tups_off N2 (by walk_at "m rest") hTup (.head _) (revIt_noTup ho)
    cases n with
    | zero =>
      refine end_rev F N2 ho hne rfl ?_
      intro h6 F6 N6
      dsimp only
      exact ⟨_, _, _, _, _, rfl, F6, N6, TermAt.keep (List.prefix_refl _) (List.prefix_refl _) (hIm _ _ F6 (fun p hp => (N6 p hp).1)) _ _ hT⟩
    | succ n =>
      obtain ⟨t, ht⟩ : ∃ t, ts[n]? = some t := ⟨_, List.getElem?_eq_getElem (by omega)⟩
      obtain ⟨v, hv, htv'⟩ := hts.get ht
      refine next_rev (i := n) F N2 (by rw [show ((n : Nat) : Int) = ((n + 1 : Nat) : Int) - 1 from by omega]; exact ho) (Fr.lst F hl) (by simpa using hv) hne ?_
      intro o' h6 ho' F6 N6
      dsimp only
      have hk6 : KeepT h h6 := hIm _ _ F6 (fun p hp => (N6 p (.tail _ hp)).1)
      k_steps
      rename News g L' _ _ => N8
      rename Fr g L' _ _ => F8
      have hk8 : KeepT h _ := hIm _ _ F8 (fun p hp => (N8 p ((by walk_at "m rest" : ∀ p ∈ im2, p ∈ _) p hp)).1)
      show ∃ m, m < n + 1 ∧ _
      refine ⟨n, Nat.lt_succ_self _, n, _, _, _, _, o', _, rfl, rfl, by omega, ho', mLt_set F8, news_tail (news_tail N8), ?_⟩
      rw [List.drop_eq_getElem_cons (by omega), show ts[n] = t from Option.some.inj ((List.getElem?_eq_getElem (by omega)).symm.trans ht)]
      show TermAt tx fs _ (.dot t (dots (ts.drop (n + 1)) r0)) _
      rw [TermAt]
      exact ⟨_, _, _, _, _, _, rfl, News.isTup N8 (.head _), News.isTup N8 (.tail _ (.head _)), TermAt.keep (List.prefix_refl _) (List.prefix_refl _) (.of_keep (Fr.keep F8)) _ _ htv', TermAt.keep (List.prefix_refl _) (List.prefix_refl _) hk8 _ _ hT⟩
  · clear N1 F1 N3 F3
    rintro s' ⟨h, tk9, rv, vi, im, rfl, F, N, hT⟩
    dsimp only
    k_steps
    show Q _ _
    exact hret _ _ _ (fun b o e n => Fr.keep (by assumption) b o (hg b o e n)) hT
end

theorem tick31 {prog : Program} {w : World} {A : Around} {E : Value → Shared → Prop} {s : Shared} {env : Env} {Q : Flow → Shared → Prop} (h : Q .next s) : wpAny (model prog w) A (execs [] env) Q E s := by
  first | (walk1; exact h) | exact wpAny_execs_nil h
section
local macro_rules | `(tactic| walk_at "call builtin:list.append") => `(tactic| (k_here; (with_reducible show wpAny _ _ (call (Value.builtin _) [Value.ref _, _]) _ _ _); k_dflt (refine' append_K ?k1 ?k2 ?k3 ?_ ?z; (case k1 => k_asm); (case k2 => k_asm); (case k3 => k_upd); (case z => (simp only [List.size_toArray]; rw [sizeLine_eq]; omega)); k_whole); intro h' F' N'; (try k_sweep)))
set_option maxHeartbeats 8000000 in
theorem op_round (w : World) (β : BA) (π : PA) (kp : Tok) (lim : Int) (kl : Tok) (tm : Value) (pr : Int) (kr : Tok) (tvs : List Value) (i : Nat) (q : Addr) (z : Int) (frs : List Value) (nf : Nat) (hlt : i < 1000) (hq0q : tvs[i]? = some (.ref q)) (hpd : π.pd < π.p ∧ π.p < π.fl) (hfr : frs.length < 1000) :
    Does w 418 8 [.ref π.p] (PL w.params β π (i : Int) kp lim kl tm pr kr ++ [(π.fl, listOf frs.toArray nf)])
     (fun h => h.IsList π.tl tvs.toArray ∧ TupTk h q (TK.opn) z ∧ (∀ a ∈ [π.tl, q], a ∉ (PL w.params β π (i : Int) kp lim kl tm pr kr ++ [(π.fl, listOf frs.toArray nf)]).map (·.1)))
     (fun h h' r => ∃ (kp' kl' k : Tok) (f : FC) (nf' : Nat), r = .int 0 k ∧ NewF h f (Str.ofString "round") lim (-1) ∧ Has h' (PL w.params β π ((i : Int) + 1) kp' 1200 kl' tm pr kr ++ [(π.fl, listOf (frs ++ [Value.ref f.fa]).toArray nf')] ++ FL w.params f)) := by
  walk_at "m fill"
  intro p loose mean mg mb A env outer A₀ base h₀ L m s Q E B F X N T hA hf hk hd hu hh hpre hret
  obtain ⟨ah, dp, fr, gd, un⟩ := A
  obtain rfl : fr = some (env :: outer) := hA
  obtain rfl : ah = none := hh
  replace hd : dp + _ < recursionLimit := hd
  replace hu : un + _ < cLine := hu
  obtain ⟨hl0, hq00, hno⟩ := hpre
  have hx0 : tvs[Int.toNat (i : Int)]? = some (.ref q) := hq0q
  obtain ⟨or1, or2⟩ := hpd
  refine wpAny_call ?_
  k_dflt (refine' enterD (binds := [(Str.ofString "self", .ref π.p)]) ?k1 ?k2 ?k3 ?k4 ?k5 ?kA ?kF ?kK ?k6 ?k7 ?k8 ?k9 ?kB ?_ ?c2 ?c3 ?c4 ?c5; (case kA => walk_at "m frames"); (case kF => first | assumption | exact rfl); (case kK => first | assumption | exact rfl); (case k1 => k_asm); (case k2 => k_asm); (case k3 => k_asm); (case k4 => k_asm); (case k5 => k_asm); (case k6 => k_is); (case k7 => k_is); (case k8 => walk_at "m room"); (case k9 => first | exact BindsTo.of_eq rfl | exact binds_K (by k_in) rfl (by k_is) rfl rfl rfl); (case c5 => decide); (case kB => exact locs rfl); (case c2 => exact rfl); (case c3 => exact rfl); (case c4 => exact rfl); k_whole)
  intro g L' h₁ F' N' B' X' T' hg hgs
  k_fold
  have hl := list_base hl0 hg (hno _ (by simp))
  obtain ⟨ka0, kb0, kc0, hq00⟩ := hq00
  have hqg0 := hg _ _ hq00 (hno _ (by simp))
  have hqt0 : IsTup g q [.str (Str.ofString "open") ka0, .str (Str.ofString "(") kb0, .int z kc0].toArray := ⟨_, hqg0, rfl, _, rfl⟩
  have htk0 : TupTk g q (TK.opn) z := ⟨_, _, _, hqg0⟩
  dsimp only [List.cons_append, List.nil_append] at N'
  k_steps
  rename News g L' _ _ => N9
  simp only [List.push_toArray] at N9
  show Q _ _
  refine hret _ _ _ (fun b o e n => Fr.keep (by assumption) b o (hg b o e n)) ?_
  refine' ⟨_, _, _, ⟨_, _, _, _, _, _, _, _, _, _, _, _, _, _, _, _, _, _, _, _, _, _, _⟩, _, rfl, ?nw, ?has⟩
  case has => exact has_app (has_app (by walk_at "m has") (by walk_at "m has")) (by walk_at "m has")
  case nw => exact ⟨rfl, rfl, rfl, rfl, ⟨by k_ne, by k_ne, by k_ne⟩, back_none N9 (by k_mem) hg (by walk_at "m nm"), back_none N9 (by k_mem) hg (by walk_at "m nm"), back_none N9 (by k_mem) hg (by walk_at "m nm")⟩
end

theorem tick32 {prog : Program} {w : World} {A : Around} {E : Value → Shared → Prop} {s : Shared} {env : Env} {Q : Flow → Shared → Prop} (h : Q .next s) : wpAny (model prog w) A (execs [] env) Q E s := by
  first | (walk1; exact h) | exact wpAny_execs_nil h
section
local macro_rules | `(tactic| walk_at "call builtin:list.append") => `(tactic| (k_here; (with_reducible show wpAny _ _ (call (Value.builtin _) [Value.ref _, _]) _ _ _); k_dflt (refine' append_K ?k1 ?k2 ?k3 ?_ ?z; (case k1 => k_asm); (case k2 => k_asm); (case k3 => k_upd); (case z => (simp only [List.size_toArray]; rw [sizeLine_eq]; omega)); k_whole); intro h' F' N'; (try k_sweep)))
set_option maxHeartbeats 8000000 in
theorem op_list (w : World) (β : BA) (π : PA) (kp : Tok) (lim : Int) (kl : Tok) (tm : Value) (pr : Int) (kr : Tok) (tvs : List Value) (i : Nat) (q : Addr) (z : Int) (q2 : Addr) (z2 : Int) (d2 : TK) (frs : List Value) (nf : Nat) (hlt : i < 1000) (hq0q : tvs[i]? = some (.ref q)) (hq1 : tvs[i + 1]? = some (.ref q2)) (hpd : π.pd < π.p ∧ π.p < π.fl) (hfr : frs.length < 1000) (hd2 : isP d2 (Str.ofString "]") = false) :
    Does w 418 8 [.ref π.p] (PL w.params β π (i : Int) kp lim kl tm pr kr ++ [(π.fl, listOf frs.toArray nf)])
     (fun h => h.IsList π.tl tvs.toArray ∧ TupTk h q (TK.pun .lb) z ∧ TupTk h q2 d2 z2 ∧ (∀ a ∈ [π.tl, q, q2], a ∉ (PL w.params β π (i : Int) kp lim kl tm pr kr ++ [(π.fl, listOf frs.toArray nf)]).map (·.1)))
     (fun h h' r => ∃ (kp' kl' k : Tok) (f : FC) (nf' : Nat), r = .int 0 k ∧ NewF h f (Str.ofString "list") lim (-1) ∧ Has h' (PL w.params β π ((i : Int) + 1) kp' 999 kl' tm pr kr ++ [(π.fl, listOf (frs ++ [Value.ref f.fa]).toArray nf')] ++ FL w.params f)) := by
  walk_at "m fill"
  intro p loose mean mg mb A env outer A₀ base h₀ L m s Q E B F X N T hA hf hk hd hu hh hpre hret
  obtain ⟨ah, dp, fr, gd, un⟩ := A
  obtain rfl : fr = some (env :: outer) := hA
  obtain rfl : ah = none := hh
  replace hd : dp + _ < recursionLimit := hd
  replace hu : un + _ < cLine := hu
  obtain ⟨hl0, hq00, hq01, hno⟩ := hpre
  have hx0 : tvs[Int.toNat (i : Int)]? = some (.ref q) := hq0q
  have hx1 : tvs[Int.toNat ((i : Int) + 1)]? = some (.ref q2) := by rw [← hq1]; (congr 1; try omega)
  obtain ⟨or1, or2⟩ := hpd
  refine wpAny_call ?_
  k_dflt (refine' enterD (binds := [(Str.ofString "self", .ref π.p)]) ?k1 ?k2 ?k3 ?k4 ?k5 ?kA ?kF ?kK ?k6 ?k7 ?k8 ?k9 ?kB ?_ ?c2 ?c3 ?c4 ?c5; (case kA => walk_at "m frames"); (case kF => first | assumption | exact rfl); (case kK => first | assumption | exact rfl); (case k1 => k_asm); (case k2 => k_asm); (case k3 => k_asm); (case k4 => k_asm); (case k5 => k_asm); (case k6 => k_is); (case k7 => k_is); (case k8 => walk_at "m room"); (case k9 => first | exact BindsTo.of_eq rfl | exact binds_K (by k_in) rfl (by k_is) rfl rfl rfl); (case c5 => decide); (case kB => exact locs rfl); (case c2 => exact rfl); (case c3 => exact rfl); (case c4 => exact rfl); k_whole)
  intro g L' h₁ F' N' B' X' T' hg hgs
  k_fold
  have hl := list_base hl0 hg (hno _ (by simp))
  obtain ⟨ka0, kb0, kc0, hq00⟩ := hq00
  have hqg0 := hg _ _ hq00 (hno _ (by simp))
  have hqt0 : IsTup g q [.str (Str.ofString "punct") ka0, .str (Sg.str .lb) kb0, .int z kc0].toArray := ⟨_, hqg0, rfl, _, rfl⟩
  have htk0 : TupTk g q (TK.pun .lb) z := ⟨_, _, _, hqg0⟩
  obtain ⟨ka1, kb1, kc1, hq01⟩ := hq01
  have hqg1 := hg _ _ hq01 (hno _ (by simp))
  have hqt1 : IsTup g q2 [.str (TK.kind d2) ka1, TK.val d2 kb1, .int z2 kc1].toArray := ⟨_, hqg1, rfl, _, rfl⟩
  have htk1 : TupTk g q2 d2 z2 := ⟨_, _, _, hqg1⟩
  dsimp only [List.cons_append, List.nil_append] at N'
  k_steps
  rename News g L' _ _ => N9
  simp only [List.push_toArray] at N9
  show Q _ _
  refine hret _ _ _ (fun b o e n => Fr.keep (by assumption) b o (hg b o e n)) ?_
  refine' ⟨_, _, _, ⟨_, _, _, _, _, _, _, _, _, _, _, _, _, _, _, _, _, _, _, _, _, _, _⟩, _, rfl, ?nw, ?has⟩
  case has => exact has_app (has_app (by walk_at "m has") (by walk_at "m has")) (by walk_at "m has")
  case nw => exact ⟨rfl, rfl, rfl, rfl, ⟨by k_ne, by k_ne, by k_ne⟩, back_none N9 (by k_mem) hg (by walk_at "m nm"), back_none N9 (by k_mem) hg (by walk_at "m nm"), back_none N9 (by k_mem) hg (by walk_at "m nm")⟩
end

theorem tick33 {prog : Program} {w : World} {A : Around} {E : Value → Shared → Prop} {s : Shared} {env : Env} {Q : Flow → Shared → Prop} (h : Q .next s) : wpAny (model prog w) A (execs [] env) Q E s := by
  first | (walk1; exact h) | exact wpAny_execs_nil h
section
local macro_rules | `(tactic| walk_at "call builtin:list.append") => `(tactic| (k_here; (with_reducible show wpAny _ _ (call (Value.builtin _) [Value.ref _, _]) _ _ _); k_dflt (refine' append_K ?k1 ?k2 ?k3 ?_ ?z; (case k1 => k_asm); (case k2 => k_asm); (case k3 => k_upd); (case z => (simp only [List.size_toArray]; rw [sizeLine_eq]; omega)); k_whole); intro h' F' N'; (try k_sweep)))
set_option maxHeartbeats 8000000 in
theorem op_curly (w : World) (β : BA) (π : PA) (kp : Tok) (lim : Int) (kl : Tok) (tm : Value) (pr : Int) (kr : Tok) (tvs : List Value) (i : Nat) (q : Addr) (z : Int) (q2 : Addr) (z2 : Int) (d2 : TK) (frs : List Value) (nf : Nat) (hlt : i < 1000) (hq0q : tvs[i]? = some (.ref q)) (hq1 : tvs[i + 1]? = some (.ref q2)) (hpd : π.pd < π.p ∧ π.p < π.fl) (hfr : frs.length < 1000) (hd2 : isP d2 (Str.ofString "}") = false) :
    Does w 418 8 [.ref π.p] (PL w.params β π (i : Int) kp lim kl tm pr kr ++ [(π.fl, listOf frs.toArray nf)])
     (fun h => h.IsList π.tl tvs.toArray ∧ TupTk h q (TK.pun .lc) z ∧ TupTk h q2 d2 z2 ∧ (∀ a ∈ [π.tl, q, q2], a ∉ (PL w.params β π (i : Int) kp lim kl tm pr kr ++ [(π.fl, listOf frs.toArray nf)]).map (·.1)))
     (fun h h' r => ∃ (kp' kl' k : Tok) (f : FC) (nf' : Nat), r = .int 0 k ∧ NewF h f (Str.ofString "curly") lim (-1) ∧ Has h' (PL w.params β π ((i : Int) + 1) kp' 1200 kl' tm pr kr ++ [(π.fl, listOf (frs ++ [Value.ref f.fa]).toArray nf')] ++ FL w.params f)) := by
  walk_at "m fill"
  intro p loose mean mg mb A env outer A₀ base h₀ L m s Q E B F X N T hA hf hk hd hu hh hpre hret
  obtain ⟨ah, dp, fr, gd, un⟩ := A
  obtain rfl : fr = some (env :: outer) := hA
  obtain rfl : ah = none := hh
  replace hd : dp + _ < recursionLimit := hd
  replace hu : un + _ < cLine := hu
  obtain ⟨hl0, hq00, hq01, hno⟩ := hpre
  have hx0 : tvs[Int.toNat (i : Int)]? = some (.ref q) := hq0q
  have hx1 : tvs[Int.toNat ((i : Int) + 1)]? = some (.ref q2) := by rw [← hq1]; (congr 1; try omega)
  obtain ⟨or1, or2⟩ := hpd
  refine wpAny_call ?_
  k_dflt (refine' enterD (binds := [(Str.ofString "self", .ref π.p)]) ?k1 ?k2 ?k3 ?k4 ?k5 ?kA ?kF ?kK ?k6 ?k7 ?k8 ?k9 ?kB ?_ ?c2 ?c3 ?c4 ?c5; (case kA => walk_at "m frames"); (case kF => first | assumption | exact rfl); (case kK => first | assumption | exact rfl); (case k1 => k_asm); (case k2 => k_asm); (case k3 => k_asm); (case k4 => k_asm); (case k5 => k_asm); (case k6 => k_is); (case k7 => k_is); (case k8 => walk_at "m room"); (case k9 => first | exact BindsTo.of_eq rfl | exact binds_K (by k_in) rfl (by k_is) rfl rfl rfl); (case c5 => decide); (case kB => exact locs rfl); (case c2 => exact rfl); (case c3 => exact rfl); (case c4 => exact rfl); k_whole)
  intro g L' h₁ F' N' B' X' T' hg hgs
  k_fold
  have hl := list_base hl0 hg (hno _ (by simp))
  obtain ⟨ka0, kb0, kc0, hq00⟩ := hq00
  have hqg0 := hg _ _ hq00 (hno _ (by simp))
  have hqt0 : IsTup g q [.str (Str.ofString "punct") ka0, .str (Sg.str .lc) kb0, .int z kc0].toArray := ⟨_, hqg0, rfl, _, rfl⟩
  have htk0 : TupTk g q (TK.pun .lc) z := ⟨_, _, _, hqg0⟩
  obtain ⟨ka1, kb1, kc1, hq01⟩ := hq01
  have hqg1 := hg _ _ hq01 (hno _ (by simp))
  have hqt1 : IsTup g q2 [.str (TK.kind d2) ka1, TK.val d2 kb1, .int z2 kc1].toArray := ⟨_, hqg1, rfl, _, rfl⟩
  have htk1 : TupTk g q2 d2 z2 := ⟨_, _, _, hqg1⟩
  dsimp only [List.cons_append, List.nil_append] at N'
  k_steps
  rename News g L' _ _ => N9
  simp only [List.push_toArray] at N9
  show Q _ _
  refine hret _ _ _ (fun b o e n => Fr.keep (by assumption) b o (hg b o e n)) ?_
  refine' ⟨_, _, _, ⟨_, _, _, _, _, _, _, _, _, _, _, _, _, _, _, _, _, _, _, _, _, _, _⟩, _, rfl, ?nw, ?has⟩
  case has => exact has_app (has_app (by walk_at "m has") (by walk_at "m has")) (by walk_at "m has")
  case nw => exact ⟨rfl, rfl, rfl, rfl, ⟨by k_ne, by k_ne, by k_ne⟩, back_none N9 (by k_mem) hg (by walk_at "m nm"), back_none N9 (by k_mem) hg (by walk_at "m nm"), back_none N9 (by k_mem) hg (by walk_at "m nm")⟩
end

theorem tick34 {prog : Program} {w : World} {A : Around} {E : Value → Shared → Prop} {s : Shared} {env : Env} {Q : Flow → Shared → Prop} (h : Q .next s) : wpAny (model prog w) A (execs [] env) Q E s := by
  first | (walk1; exact h) | exact wpAny_execs_nil h
section
local macro_rules | `(tactic| walk_at "call builtin:list.append") => `(tactic| (k_here; (with_reducible show wpAny _ _ (call (Value.builtin _) [Value.ref _, _]) _ _ _); k_dflt (refine' append_K ?k1 ?k2 ?k3 ?_ ?z; (case k1 => k_asm); (case k2 => k_asm); (case k3 => k_upd); (case z => (simp only [List.size_toArray]; rw [sizeLine_eq]; omega)); k_whole); intro h' F' N'; (try k_sweep)))
local macro_rules | `(tactic| k_all) => `(tactic| exact rest_off (by assumption) (by walk_at "m rest") (by k_mem) (by first | exact list_noTup _ _ | exact dict_noTup _ _) (by assumption) (by assumption))
local macro_rules | `(tactic| walk_at "call ref") => `(tactic| (k_here; (with_reducible show wpAny _ _ (call (Value.ref 88) [_, _]) _ _ _); refine hold ?_))
set_option maxHeartbeats 8000000 in
theorem op_args (w : World) (β : BA) (π : PA) (kp : Tok) (lim : Int) (kl : Tok) (tm : Value) (pr : Int) (kr : Tok) (tvs : List Value) (i : Nat) (q : Addr) (z : Int) (q2 : Addr) (z2 : Int) (frs : List Value) (nf : Nat) (c : BC) (hlt : i < 1000) (hq0q : tvs[i]? = some (.ref q)) (hq1 : tvs[i + 1]? = some (.ref q2)) (hpd : π.pd < π.p ∧ π.p < π.fl) (hfr : frs.length < 1000) (hsz : c.size < 100000) (hoff : ∀ a ∈ [π.p, π.pd, π.fl], a ∉ (c.L w.params β).map (·.1)) (hfn : β.fn < π.pd) :
    Does w 418 8 [.ref π.p] ((PL w.params β π (i : Int) kp lim kl tm pr kr ++ [(π.fl, listOf frs.toArray nf)]) ++ c.L w.params β)
     (fun h => c.Ok w h β ∧ h.IsList π.tl tvs.toArray ∧ TupTk h q (TK.namF) z ∧ TupTk h q2 (TK.opc) z2 ∧ (∀ a ∈ [π.tl, q, q2], a ∉ ((PL w.params β π (i : Int) kp lim kl tm pr kr ++ [(π.fl, listOf frs.toArray nf)]) ++ c.L w.params β).map (·.1)))
     (fun h h' r => ∃ (c' : BC) (kp' kl' k : Tok) (f : FC) (nf' n : Nat), r = .int 0 k ∧ c.Grow c' 1 ∧ c'.Ok w h' β ∧ c'.texts[n]? = some (Str.ofString "f") ∧ NewF h f (Str.ofString "args") lim n ∧ Has h' ((PL w.params β π ((i : Int) + 2) kp' 999 kl' tm pr kr ++ [(π.fl, listOf (frs ++ [Value.ref f.fa]).toArray nf')] ++ FL w.params f) ++ c'.L w.params β)) := by
  walk_at "m fill"
  intro p loose mean mg mb A env outer A₀ base h₀ L m s Q E B F X N T hA hf hk hd hu hh hpre hret
  obtain ⟨ah, dp, fr, gd, un⟩ := A
  obtain rfl : fr = some (env :: outer) := hA
  obtain rfl : ah = none := hh
  replace hd : dp + _ < recursionLimit := hd
  replace hu : un + _ < cLine := hu
  obtain ⟨hok, hl0, hq00, hq01, hno⟩ := hpre
  have hx0 : tvs[Int.toNat (i : Int)]? = some (.ref q) := hq0q
  have hx1 : tvs[Int.toNat ((i : Int) + 1)]? = some (.ref q2) := by rw [← hq1]; (congr 1; try omega)
  obtain ⟨or1, or2⟩ := hpd
  have ho1 := hoff π.pd (by simp)
  have ho2 := hoff π.fl (by simp)
  refine wpAny_call ?_
  k_dflt (refine' enterD (binds := [(Str.ofString "self", .ref π.p)]) ?k1 ?k2 ?k3 ?k4 ?k5 ?kA ?kF ?kK ?k6 ?k7 ?k8 ?k9 ?kB ?_ ?c2 ?c3 ?c4 ?c5; (case kA => walk_at "m frames"); (case kF => first | assumption | exact rfl); (case kK => first | assumption | exact rfl); (case k1 => k_asm); (case k2 => k_asm); (case k3 => k_asm); (case k4 => k_asm); (case k5 => k_asm); (case k6 => k_is); (case k7 => k_is); (case k8 => walk_at "m room"); (case k9 => first | exact BindsTo.of_eq rfl | exact binds_K (by k_in) rfl (by k_is) rfl rfl rfl); (case c5 => decide); (case kB => exact locs rfl); (case c2 => exact rfl); (case c3 => exact rfl); (case c4 => exact rfl); k_whole)
  intro g L' h₁ F' N' B' X' T' hg hgs
  k_fold
  have hl := list_base hl0 hg (hno _ (by simp))
  obtain ⟨ka0, kb0, kc0, hq00⟩ := hq00
  have hqg0 := hg _ _ hq00 (hno _ (by simp))
  have hqt0 : IsTup g q [.str (Str.ofString "name") ka0, .str (Str.ofString "f") kb0, .int z kc0].toArray := ⟨_, hqg0, rfl, _, rfl⟩
  have htk0 : TupTk g q (TK.namF) z := ⟨_, _, _, hqg0⟩
  obtain ⟨ka1, kb1, kc1, hq01⟩ := hq01
  have hqg1 := hg _ _ hq01 (hno _ (by simp))
  have hqt1 : IsTup g q2 [.str (Str.ofString "open_ct") ka1, .str (Str.ofString "(") kb1, .int z2 kc1].toArray := ⟨_, hqg1, rfl, _, rfl⟩
  have htk1 : TupTk g q2 (TK.opc) z2 := ⟨_, _, _, hqg1⟩
  have okg := hok.keepT (keepT_of hg (fun p hp => (N p hp).1) (((PL_noTup _ _ _ _ _ _ _ _ _ _).app (fun p hp => by rw [List.mem_singleton.mp hp]; exact list_noTup _ _)).app (hok.noTup _)))
  replace N' := rest_start' N'
  dsimp only [List.cons_append, List.nil_append] at N'
  have hTup0 : ∀ p ∈ ([] : List (Addr × Obj)), isTup p.2 := fun _ q => nomatch q
  k_steps
  unfold Hold
  rename News g L' _ _ => N5
  rename Fr g L' _ _ => F5
  k_dflt (refine' use_bk (own := [_, _, _]) (n := 1) (does_atom w β c (Str.ofString "f") kb0 hsz) ?k1 ?k2 ?k3 N5 ?k5 ?kA ?kf ?kk ?kd ?ku ?kh ?ko True.intro ?kx ?_; walk_at "m fin"; (case ko => walk_at "m ok"); (case kx => exact fun p hp => hoff p.1 (List.mem_map_of_mem hp)))
  intro r h' tk' c' im' F' N' hIm hT hO hG hKT hR
  obtain ⟨n, tn, rfl, hx⟩ := hR
  dsimp only [List.nil_append, List.cons_append] at N'
  clear N5 F5
  k_steps
  rename News g L' _ _ => N9
  simp only [List.push_toArray] at N9
  show Q _ _
  refine hret _ _ _ (fun b o e n => Fr.keep (by assumption) b o (hg b o e n)) ?_
  refine' ⟨c', _, _, _, ⟨_, _, _, _, _, _, _, _, _, _, _, _, _, _, _, _, _, _, _, _, _, _, _⟩, _, n, rfl, hG, ?ok, hx, ?nw, ?has⟩
  case has => exact has_app (has_app (has_app (has_cons (News.get N9 (by k_mem)) (has_cons (by rw [show ((i : Int) + 2) = (i : Int) + 1 + 1 from by omega]; exact News.get N9 (by k_mem)) (has_nil _))) (by walk_at "m has")) (by walk_at "m has")) (fun p hp => (N9 p (by repeat (first | exact rest_bk p hp | refine List.Mem.tail _ ?_))).1)
  case ok => walk_at "m ok"
  case nw => exact ⟨rfl, rfl, rfl, rfl, ⟨by k_ne, by k_ne, by k_ne⟩, back_none N9 (by k_mem) hg (nm_app (by walk_at "m nm") (by walk_at "m off9")), back_none N9 (by k_mem) hg (nm_app (by walk_at "m nm") (by walk_at "m off9")), back_none N9 (by k_mem) hg (nm_app (by walk_at "m nm") (by walk_at "m off9"))⟩
end

theorem tick35 {prog : Program} {w : World} {A : Around} {E : Value → Shared → Prop} {s : Shared} {env : Env} {Q : Flow → Shared → Prop} (h : Q .next s) : wpAny (model prog w) A (execs [] env) Q E s := by
  first | (walk1; exact h) | exact wpAny_execs_nil h
section
local macro_rules | `(tactic| walk_at "compareOp In int ref") => `(tactic| (k_here; k_dflt (refine kda_in (knd := PySem.intKind _ _) (by k_asm) (by k_mem) (by assumption) (by assumption) (intKind_is _ _ _ _) false (by first | rfl | exact comma_noneS (by assumption)) ?_)))
set_option maxHeartbeats 8000000 in
theorem op_nil (w : World) (β : BA) (π : PA) (kp : Tok) (lim : Int) (kl : Tok) (tm : Value) (pr : Int) (kr : Tok) (tvs : List Value) (i : Nat) (q : Addr) (z : Int) (q2 : Addr) (z2 : Int) (q3 : Addr) (z3 : Int) (d3 : TK) (ω : OA) (hlt : i < 1000) (hq0q : tvs[i]? = some (.ref q)) (hq1 : tvs[i + 1]? = some (.ref q2)) (hq2 : tvs[i + 2]? = some (.ref q3)) (hpd : π.pd < π.p) (hoO : OOk w ω) (hord : ω.od < π.o ∧ π.o < ω.pf ∧ ω.pf < ω.nf ∧ ω.nf < ω.qf ∧ ω.qf < π.pd) (hd3 : (d3.kind == Str.ofString "open_ct") = false) :
    Does w 418 8 [.ref π.p] (PL w.params β π (i : Int) kp lim kl tm pr kr ++ OL w.params β π.o ω)
     (fun h => h.IsList π.tl tvs.toArray ∧ TupTk h q (TK.pun .lb) z ∧ TupTk h q2 (TK.pun .rb) z2 ∧ TupTk h q3 d3 z3 ∧ (∀ a ∈ [π.tl, q, q2, q3], a ∉ (PL w.params β π (i : Int) kp lim kl tm pr kr ++ OL w.params β π.o ω).map (·.1)))
     (fun h h' r => ∃ (kp' kr' k t1 t2 : Tok) (t : Addr), r = .int 1 k ∧ Has h' (PL w.params β π ((i : Int) + 2) kp' lim kl (.ref t) 0 kr' ++ OL w.params β π.o ω) ∧ h'.get? t = some (tupOf [.str (Str.ofString "a") t1, .int 0 t2])) := by
  walk_at "m fill"
  intro p loose mean mg mb A env outer A₀ base h₀ L m s Q E B F X N T hA hf hk hd hu hh hpre hret
  obtain ⟨ah, dp, fr, gd, un⟩ := A
  obtain rfl : fr = some (env :: outer) := hA
  obtain rfl : ah = none := hh
  replace hd : dp + _ < recursionLimit := hd
  replace hu : un + _ < cLine := hu
  obtain ⟨hl0, hq00, hq01, hq02, hno⟩ := hpre
  have hx0 : tvs[Int.toNat (i : Int)]? = some (.ref q) := hq0q
  have hx1 : tvs[Int.toNat ((i : Int) + 1)]? = some (.ref q2) := by rw [← hq1]; (congr 1; try omega)
  have hx2 : tvs[Int.toNat ((i : Int) + 1 + 1)]? = some (.ref q3) := by rw [← hq2]; (congr 1; try omega)
  obtain ⟨od1, od2, od3, lo1, lo2, lo3⟩ := hoO
  obtain ⟨or1, or2, or3, or4, or5⟩ := hord
  have hn7 : (0 : Int) ≠ 7 := by decide
  refine wpAny_call ?_
  k_dflt (refine' enterD (binds := [(Str.ofString "self", .ref π.p)]) ?k1 ?k2 ?k3 ?k4 ?k5 ?kA ?kF ?kK ?k6 ?k7 ?k8 ?k9 ?kB ?_ ?c2 ?c3 ?c4 ?c5; (case kA => walk_at "m frames"); (case kF => first | assumption | exact rfl); (case kK => first | assumption | exact rfl); (case k1 => k_asm); (case k2 => k_asm); (case k3 => k_asm); (case k4 => k_asm); (case k5 => k_asm); (case k6 => k_is); (case k7 => k_is); (case k8 => walk_at "m room"); (case k9 => first | exact BindsTo.of_eq rfl | exact binds_K (by k_in) rfl (by k_is) rfl rfl rfl); (case c5 => decide); (case kB => exact locs rfl); (case c2 => exact rfl); (case c3 => exact rfl); (case c4 => exact rfl); k_whole)
  intro g L' h₁ F' N' B' X' T' hg hgs
  k_fold
  have hl := list_base hl0 hg (hno _ (by simp))
  obtain ⟨ka0, kb0, kc0, hq00⟩ := hq00
  have hqg0 := hg _ _ hq00 (hno _ (by simp))
  have hqt0 : IsTup g q [.str (Str.ofString "punct") ka0, .str (Sg.str .lb) kb0, .int z kc0].toArray := ⟨_, hqg0, rfl, _, rfl⟩
  have htk0 : TupTk g q (TK.pun .lb) z := ⟨_, _, _, hqg0⟩
  obtain ⟨ka1, kb1, kc1, hq01⟩ := hq01
  have hqg1 := hg _ _ hq01 (hno _ (by simp))
  have hqt1 : IsTup g q2 [.str (Str.ofString "punct") ka1, .str (Sg.str .rb) kb1, .int z2 kc1].toArray := ⟨_, hqg1, rfl, _, rfl⟩
  have htk1 : TupTk g q2 (TK.pun .rb) z2 := ⟨_, _, _, hqg1⟩
  obtain ⟨ka2, kb2, kc2, hq02⟩ := hq02
  have hqg2 := hg _ _ hq02 (hno _ (by simp))
  have hqt2 : IsTup g q3 [.str (TK.kind d3) ka2, TK.val d3 kb2, .int z3 kc2].toArray := ⟨_, hqg2, rfl, _, rfl⟩
  have htk2 : TupTk g q3 d3 z3 := ⟨_, _, _, hqg2⟩
  dsimp only [List.cons_append, List.nil_append] at N'
  k_steps
  rename News g L' _ _ => N9
  show Q _ _
  refine hret _ _ _ (fun b o e n => Fr.keep (by assumption) b o (hg b o e n)) ?_
  refine' ⟨_, _, _, _, _, _, rfl, ?has, ?tup⟩
  case has => exact has_app (has_cons (News.get N9 (by k_mem)) (has_cons (by rw [show ((i : Int) + 2) = (i : Int) + 1 + 1 from by omega]; exact News.get N9 (by k_mem)) (has_nil _))) (by walk_at "m has")
  case tup => exact News.get N9 (by k_mem)
end

theorem tick36 {prog : Program} {w : World} {A : Around} {E : Value → Shared → Prop} {s : Shared} {env : Env} {Q : Flow → Shared → Prop} (h : Q .next s) : wpAny (model prog w) A (execs [] env) Q E s := by
  first | (walk1; exact h) | exact wpAny_execs_nil h
section
local macro_rules | `(tactic| walk_at "compareOp In int ref") => `(tactic| (k_here; k_dflt (refine kda_in (knd := PySem.intKind _ _) (by k_asm) (by k_mem) (by assumption) (by assumption) (intKind_is _ _ _ _) false (by first | rfl | exact comma_noneS (by assumption)) ?_)))
set_option maxHeartbeats 8000000 in
theorem op_curl (w : World) (β : BA) (π : PA) (kp : Tok) (lim : Int) (kl : Tok) (tm : Value) (pr : Int) (kr : Tok) (tvs : List Value) (i : Nat) (q : Addr) (z : Int) (q2 : Addr) (z2 : Int) (q3 : Addr) (z3 : Int) (d3 : TK) (ω : OA) (hlt : i < 1000) (hq0q : tvs[i]? = some (.ref q)) (hq1 : tvs[i + 1]? = some (.ref q2)) (hq2 : tvs[i + 2]? = some (.ref q3)) (hpd : π.pd < π.p) (hoO : OOk w ω) (hord : ω.od < π.o ∧ π.o < ω.pf ∧ ω.pf < ω.nf ∧ ω.nf < ω.qf ∧ ω.qf < π.pd) (hd3 : (d3.kind == Str.ofString "open_ct") = false) :
    Does w 418 8 [.ref π.p] (PL w.params β π (i : Int) kp lim kl tm pr kr ++ OL w.params β π.o ω)
     (fun h => h.IsList π.tl tvs.toArray ∧ TupTk h q (TK.pun .lc) z ∧ TupTk h q2 (TK.pun .rc) z2 ∧ TupTk h q3 d3 z3 ∧ (∀ a ∈ [π.tl, q, q2, q3], a ∉ (PL w.params β π (i : Int) kp lim kl tm pr kr ++ OL w.params β π.o ω).map (·.1)))
     (fun h h' r => ∃ (kp' kr' k t1 t2 : Tok) (t : Addr), r = .int 1 k ∧ Has h' (PL w.params β π ((i : Int) + 2) kp' lim kl (.ref t) 0 kr' ++ OL w.params β π.o ω) ∧ h'.get? t = some (tupOf [.str (Str.ofString "a") t1, .int 2 t2])) := by
  walk_at "m fill"
  intro p loose mean mg mb A env outer A₀ base h₀ L m s Q E B F X N T hA hf hk hd hu hh hpre hret
  obtain ⟨ah, dp, fr, gd, un⟩ := A
  obtain rfl : fr = some (env :: outer) := hA
  obtain rfl : ah = none := hh
  replace hd : dp + _ < recursionLimit := hd
  replace hu : un + _ < cLine := hu
  obtain ⟨hl0, hq00, hq01, hq02, hno⟩ := hpre
  have hx0 : tvs[Int.toNat (i : Int)]? = some (.ref q) := hq0q
  have hx1 : tvs[Int.toNat ((i : Int) + 1)]? = some (.ref q2) := by rw [← hq1]; (congr 1; try omega)
  have hx2 : tvs[Int.toNat ((i : Int) + 1 + 1)]? = some (.ref q3) := by rw [← hq2]; (congr 1; try omega)
  obtain ⟨od1, od2, od3, lo1, lo2, lo3⟩ := hoO
  obtain ⟨or1, or2, or3, or4, or5⟩ := hord
  have hn7 : (2 : Int) ≠ 7 := by decide
  refine wpAny_call ?_
  k_dflt (refine' enterD (binds := [(Str.ofString "self", .ref π.p)]) ?k1 ?k2 ?k3 ?k4 ?k5 ?kA ?kF ?kK ?k6 ?k7 ?k8 ?k9 ?kB ?_ ?c2 ?c3 ?c4 ?c5; (case kA => walk_at "m frames"); (case kF => first | assumption | exact rfl); (case kK => first | assumption | exact rfl); (case k1 => k_asm); (case k2 => k_asm); (case k3 => k_asm); (case k4 => k_asm); (case k5 => k_asm); (case k6 => k_is); (case k7 => k_is); (case k8 => walk_at "m room"); (case k9 => first | exact BindsTo.of_eq rfl | exact binds_K (by k_in) rfl (by k_is) rfl rfl rfl); (case c5 => decide); (case kB => exact locs rfl); (case c2 => exact rfl); (case c3 => exact rfl); (case c4 => exact rfl); k_whole)
  intro g L' h₁ F' N' B' X' T' hg hgs
  k_fold
  have hl := list_base hl0 hg (hno _ (by simp))
  obtain ⟨ka0, kb0, kc0, hq00⟩ := hq00
  have hqg0 := hg _ _ hq00 (hno _ (by simp))
  have hqt0 : IsTup g q [.str (Str.ofString "punct") ka0, .str (Sg.str .lc) kb0, .int z kc0].toArray := ⟨_, hqg0, rfl, _, rfl⟩
  have htk0 : TupTk g q (TK.pun .lc) z := ⟨_, _, _, hqg0⟩
  obtain ⟨ka1, kb1, kc1, hq01⟩ := hq01
  have hqg1 := hg _ _ hq01 (hno _ (by simp))
  have hqt1 : IsTup g q2 [.str (Str.ofString "punct") ka1, .str (Sg.str .rc) kb1, .int z2 kc1].toArray := ⟨_, hqg1, rfl, _, rfl⟩
  have htk1 : TupTk g q2 (TK.pun .rc) z2 := ⟨_, _, _, hqg1⟩
  obtain ⟨ka2, kb2, kc2, hq02⟩ := hq02
  have hqg2 := hg _ _ hq02 (hno _ (by simp))
  have hqt2 : IsTup g q3 [.str (TK.kind d3) ka2, TK.val d3 kb2, .int z3 kc2].toArray := ⟨_, hqg2, rfl, _, rfl⟩
  have htk2 : TupTk g q3 d3 z3 := ⟨_, _, _, hqg2⟩
  dsimp only [List.cons_append, List.nil_append] at N'
  k_steps
  rename News g L' _ _ => N9
  show Q _ _
  refine hret _ _ _ (fun b o e n => Fr.keep (by assumption) b o (hg b o e n)) ?_
  refine' ⟨_, _, _, _, _, _, rfl, ?has, ?tup⟩
  case has => exact has_app (has_cons (News.get N9 (by k_mem)) (has_cons (by rw [show ((i : Int) + 2) = (i : Int) + 1 + 1 from by omega]; exact News.get N9 (by k_mem)) (has_nil _))) (by walk_at "m has")
  case tup => exact News.get N9 (by k_mem)
end

theorem tick37 {prog : Program} {w : World} {A : Around} {E : Value → Shared → Prop} {s : Shared} {env : Env} {Q : Flow → Shared → Prop} (h : Q .next s) : wpAny (model prog w) A (execs [] env) Q E s := by
  first | (walk1; exact h) | exact wpAny_execs_nil h
section
local macro_rules | `(tactic| walk_at "exec Raise some none") => `(tactic| (k_dflt (refine' raise_K ?k1 ?_; (case k1 => exact rfl); k_whole)))
local macro_rules | `(tactic| walk_at "call ref") => `(tactic| (k_here; (with_reducible show wpAny _ _ (call (Value.ref 383) _) _ _ _); refine hold ?_))
set_option maxHeartbeats 8000000 in
theorem op_fin (w : World) (β : BA) (π : PA) (kp : Tok) (lim : Int) (kl : Tok) (tm : Value) (pr : Int) (kr : Tok) (tvs : List Value) (i : Nat) (q : Addr) (z : Int) (hlt : i < 1000) (hq0q : tvs[i]? = some (.ref q)) (hpd : π.pd < π.p) :
    DoesX w 418 8 [.ref π.p] (PL w.params β π (i : Int) kp lim kl tm pr kr)
     (fun h => h.IsList π.tl tvs.toArray ∧ TupTk h q (TK.fin) z ∧ (∀ a ∈ [π.tl, q], a ∉ (PL w.params β π (i : Int) kp lim kl tm pr kr).map (·.1)))
     (fun h h' r => False) (fun _ kind z9 => kind = Str.ofString "unexpected_token" ∧ z9 = z) := by
  walk_at "m fill"
  intro p loose mean mg mb A env outer A₀ base h₀ L m s Q E B F X N T hA hf hk hd hu hh hpre hret hexc
  obtain ⟨ah, dp, fr, gd, un⟩ := A
  obtain rfl : fr = some (env :: outer) := hA
  obtain rfl : ah = none := hh
  replace hd : dp + _ < recursionLimit := hd
  replace hu : un + _ < cLine := hu
  obtain ⟨hl0, hq00, hno⟩ := hpre
  have hx0 : tvs[Int.toNat (i : Int)]? = some (.ref q) := hq0q
  refine wpAny_call ?_
  k_dflt (refine' enterD (binds := [(Str.ofString "self", .ref π.p)]) ?k1 ?k2 ?k3 ?k4 ?k5 ?kA ?kF ?kK ?k6 ?k7 ?k8 ?k9 ?kB ?_ ?c2 ?c3 ?c4 ?c5; (case kA => walk_at "m frames"); (case kF => first | assumption | exact rfl); (case kK => first | assumption | exact rfl); (case k1 => k_asm); (case k2 => k_asm); (case k3 => k_asm); (case k4 => k_asm); (case k5 => k_asm); (case k6 => k_is); (case k7 => k_is); (case k8 => walk_at "m room"); (case k9 => first | exact BindsTo.of_eq rfl | exact binds_K (by k_in) rfl (by k_is) rfl rfl rfl); (case c5 => decide); (case kB => exact locs rfl); (case c2 => exact rfl); (case c3 => exact rfl); (case c4 => exact rfl); k_whole)
  intro g L' h₁ F' N' B' X' T' hg hgs
  k_fold
  have hl := list_base hl0 hg (hno _ (by simp))
  obtain ⟨ka0, kb0, kc0, hq00⟩ := hq00
  have hqg0 := hg _ _ hq00 (hno _ (by simp))
  have hqt0 : IsTup g q [.str (Str.ofString "end") ka0, .str (Str.ofString ".") kb0, .int z kc0].toArray := ⟨_, hqg0, rfl, _, rfl⟩
  have htk0 : TupTk g q (TK.fin) z := ⟨_, _, _, hqg0⟩
  k_steps
  unfold Hold
  rename News g L' _ _ => N5
  rename Fr g L' _ _ => F5
  k_dflt (refine' use_does (does_fault w π.p q _ _ z (.str (Str.ofString "end") ka0) (.str (Str.ofString ".") kb0) kc0) ?k1 ?k2 ?k3 N5 ?k5 ?kA ?kf ?kk ?kd ?ku ?kh (List.forall_mem_nil _) ?kp ?_; walk_at "m fin"; (case kp => exact F5.keep _ _ hqg0))
  intro r h' tk' hK hP F6
  obtain ⟨e, dx, od, mA, ns, flt⟩ := hP
  refine' raise_end ?b ?x ?f0 ?f ?flt ?hE ?hk
  case hk => exact rfl
  case b => exact B'
  case x => exact X'
  case f => exact F6
  case f0 => exact F5
  case flt => exact flt
  intro h'' hf hu
  show E _ _
  have kk : Keep ((PL w.params β π (i : Int) kp lim kl tm pr kr).map (·.1)) s.heap _ := (fun b o e n => Fr.keep (by assumption) b o (hg b o e n))
  exact hexc e dx h'' _ _ _ hf (KeepU.of kk hu) (flt.flt.slots hu) ⟨rfl, rfl⟩
end

theorem tick38 {prog : Program} {w : World} {A : Around} {E : Value → Shared → Prop} {s : Shared} {env : Env} {Q : Flow → Shared → Prop} (h : Q .next s) : wpAny (model prog w) A (execs [] env) Q E s := by
  first | (walk1; exact h) | exact wpAny_execs_nil h
section
local macro_rules | `(tactic| k_all) => `(tactic| exact rest_off (by assumption) (by walk_at "m rest") (by k_mem) (by first | exact list_noTup _ _ | exact dict_noTup _ _) (by assumption) (by first | assumption | walk_at "m off9"))
local macro_rules | `(tactic| walk_at "call ref") => `(tactic| (k_here; (with_reducible show wpAny _ _ (call (Value.ref 88) [_, _]) _ _ _); refine hold ?_))
set_option maxHeartbeats 8000000 in
theorem opn_nam (w : World) (β : BA) (π : PA) (kp : Tok) (lim : Int) (kl : Tok) (tm : Value) (pr : Int) (kr : Tok) (tvs : List Value) (i : Nat) (q : Addr) (z : Int) (dn : TK) (xt : Str) (c : BC) (hlt : i < 1000) (hq0q : tvs[i]? = some (.ref q)) (hpd : π.pd < π.p) (hsz : c.size < 100000) (h7 : c.texts[7]? = some (Str.ofString ",")) (hoff : ∀ a ∈ [π.p, π.pd], a ∉ (c.L w.params β).map (·.1)) (hdk : dn.kind = Str.ofString "name") (hdv : ∀ t, dn.val t = .str xt t) (hcm : xt ≠ Str.ofString ",") :
    Does w 458 4 [.ref π.p, .ref q] (PL w.params β π (i : Int) kp lim kl tm pr kr ++ c.L w.params β)
     (fun h => c.Ok w h β ∧ h.IsList π.tl tvs.toArray ∧ TupTk h q dn z ∧ (∀ a ∈ [π.tl, q], a ∉ (PL w.params β π (i : Int) kp lim kl tm pr kr ++ c.L w.params β).map (·.1)))
     (fun h h' r => ∃ (c' : BC), c.Grow c' 1 ∧ Has h' ((PL w.params β π (i : Int) kp lim kl tm pr kr) ++ c'.L w.params β) ∧ c'.Ok w h' β ∧ ∃ (n : Nat) (t : Tok), r = .int n t ∧ (n : Int) ≠ 7) := by
  walk_at "m fill"
  intro p loose mean mg mb A env outer A₀ base h₀ L m s Q E B F X N T hA hf hk hd hu hh hpre hret
  obtain ⟨ah, dp, fr, gd, un⟩ := A
  obtain rfl : fr = some (env :: outer) := hA
  obtain rfl : ah = none := hh
  replace hd : dp + _ < recursionLimit := hd
  replace hu : un + _ < cLine := hu
  obtain ⟨hok, hl0, hq00, hno⟩ := hpre
  have hx0 : tvs[Int.toNat (i : Int)]? = some (.ref q) := hq0q
  have ho1 := hoff π.pd (by simp)
  refine wpAny_call ?_
  k_dflt (refine' enterD (binds := [(Str.ofString "self", .ref π.p), (Str.ofString "token", .ref q)]) ?k1 ?k2 ?k3 ?k4 ?k5 ?kA ?kF ?kK ?k6 ?k7 ?k8 ?k9 ?kB ?_ ?c2 ?c3 ?c4 ?c5; (case kA => walk_at "m frames"); (case kF => first | assumption | exact rfl); (case kK => first | assumption | exact rfl); (case k1 => k_asm); (case k2 => k_asm); (case k3 => k_asm); (case k4 => k_asm); (case k5 => k_asm); (case k6 => k_is); (case k7 => k_is); (case k8 => walk_at "m room"); (case k9 => first | exact BindsTo.of_eq rfl | exact binds_K (by k_in) rfl (by k_is) rfl rfl rfl); (case c5 => decide); (case kB => exact locs rfl); (case c2 => exact rfl); (case c3 => exact rfl); (case c4 => exact rfl); k_whole)
  intro g L' h₁ F' N' B' X' T' hg hgs
  k_fold
  have hl := list_base hl0 hg (hno _ (by simp))
  obtain ⟨ka0, kb0, kc0, hq00⟩ := hq00
  have hqg0 := hg _ _ hq00 (hno _ (by simp))
  have htk0 : TupTk g q dn z := ⟨_, _, _, hqg0⟩
  rw [hdk, hdv] at hqg0
  have hqt0 : IsTup g q [.str (Str.ofString "name") ka0, .str xt kb0, .int z kc0].toArray := ⟨_, hqg0, rfl, _, rfl⟩
  have okg := hok.keepT (keepT_of hg (fun p hp => (N p hp).1) ((PL_noTup _ _ _ _ _ _ _ _ _ _).app (hok.noTup _)))
  replace N' := rest_start' N'
  dsimp only [List.cons_append, List.nil_append] at N'
  have hTup0 : ∀ p ∈ ([] : List (Addr × Obj)), isTup p.2 := fun _ q => nomatch q
  k_steps
  unfold Hold
  rename News g L' _ _ => N5
  rename Fr g L' _ _ => F5
  k_dflt (refine' use_bk (own := [_, _]) (n := 1) (does_atom w β c xt _ hsz) ?k1 ?k2 ?k3 N5 ?k5 ?kA ?kf ?kk ?kd ?ku ?kh ?ko True.intro ?kx ?_; walk_at "m fin"; (case ko => walk_at "m ok"); (case kx => exact fun p hp => hoff p.1 (List.mem_map_of_mem hp)))
  intro r h' tk' c' im' F' N' hIm hT hO hG hKT hR
  obtain ⟨n, tn, rfl, hx⟩ := hR
  dsimp only [List.nil_append, List.cons_append] at N'
  have hne := a_ne7 hO (prefix_get hG.texts h7) hx hcm
  clear N5 F5
  k_steps
  rename News g L' _ _ => N9
  show Q _ _
  exact hret _ _ _ (fun b o e n => Fr.keep (by assumption) b o (hg b o e n)) ⟨c', hG, has_app (by walk_at "m has") (fun p hp => (N9 p (by repeat (first | exact rest_bk p hp | refine List.Mem.tail _ ?_))).1), by walk_at "m ok", n, _, rfl, hne⟩
end

theorem tick39 {prog : Program} {w : World} {A : Around} {E : Value → Shared → Prop} {s : Shared} {env : Env} {Q : Flow → Shared → Prop} (h : Q .next s) : wpAny (model prog w) A (execs [] env) Q E s := by
  first | (walk1; exact h) | exact wpAny_execs_nil h
section
local macro_rules | `(tactic| walk_at "call ref") => `(tactic| (k_here; (with_reducible show wpAny _ _ (call (Value.ref 383) _) _ _ _); refine hold ?_))
set_option maxHeartbeats 8000000 in
theorem mis_clo (w : World) (β : BA) (π : PA) (kp : Tok) (lim : Int) (kl : Tok) (tm : Value) (pr : Int) (kr : Tok) (tvs : List Value) (i : Nat) (q : Addr) (z : Int) (d : TK) (os : Str) (ot : Tok) (hlt : i < 1000) (hq0q : tvs[i]? = some (.ref q)) (hpd : π.pd < π.p) (hc : cloT d = true) :
    Does w 390 8 [.ref π.p, .ref q, .str os ot] (PL w.params β π (i : Int) kp lim kl tm pr kr)
     (fun h => h.IsList π.tl tvs.toArray ∧ TupTk h q d z ∧ (∀ a ∈ [π.tl, q], a ∉ (PL w.params β π (i : Int) kp lim kl tm pr kr).map (·.1)))
     (fun h h' r => Has h' (PL w.params β π (i : Int) kp lim kl tm pr kr) ∧ ∃ e dx od mA ns, FaultAt h h' r (Str.ofString "unbalanced") z e dx od mA ns) := by
  walk_at "m fill"
  intro p loose mean mg mb A env outer A₀ base h₀ L m s Q E B F X N T hA hf hk hd hu hh hpre hret
  obtain ⟨ah, dp, fr, gd, un⟩ := A
  obtain rfl : fr = some (env :: outer) := hA
  obtain rfl : ah = none := hh
  replace hd : dp + _ < recursionLimit := hd
  replace hu : un + _ < cLine := hu
  obtain ⟨hl0, hq00, hno⟩ := hpre
  have hx0 : tvs[Int.toNat (i : Int)]? = some (.ref q) := hq0q
  refine wpAny_call ?_
  k_dflt (refine' enterD (binds := [(Str.ofString "self", .ref π.p), (Str.ofString "token", .ref q), (Str.ofString "otherwise", .str os ot)]) ?k1 ?k2 ?k3 ?k4 ?k5 ?kA ?kF ?kK ?k6 ?k7 ?k8 ?k9 ?kB ?_ ?c2 ?c3 ?c4 ?c5; (case kA => walk_at "m frames"); (case kF => first | assumption | exact rfl); (case kK => first | assumption | exact rfl); (case k1 => k_asm); (case k2 => k_asm); (case k3 => k_asm); (case k4 => k_asm); (case k5 => k_asm); (case k6 => k_is); (case k7 => k_is); (case k8 => walk_at "m room"); (case k9 => first | exact BindsTo.of_eq rfl | exact binds_K (by k_in) rfl (by k_is) rfl rfl rfl); (case c5 => decide); (case kB => exact locs rfl); (case c2 => exact rfl); (case c3 => exact rfl); (case c4 => exact rfl); k_whole)
  intro g L' h₁ F' N' B' X' T' hg hgs
  k_fold
  have hl := list_base hl0 hg (hno _ (by simp))
  obtain ⟨ka0, kb0, kc0, hq00⟩ := hq00
  have hqg0 := hg _ _ hq00 (hno _ (by simp))
  have hqt0 : IsTup g q [.str (TK.kind d) ka0, TK.val d kb0, .int z kc0].toArray := ⟨_, hqg0, rfl, _, rfl⟩
  have htk0 : TupTk g q d z := ⟨_, _, _, hqg0⟩
  k_steps
  unfold Hold
  rename News g L' _ _ => N5
  rename Fr g L' _ _ => F5
  k_dflt (refine' use_does (does_fault w π.p q _ _ z (.str d.kind ka0) (TK.val d kb0) kc0) ?k1 ?k2 ?k3 N5 ?k5 ?kA ?kf ?kk ?kd ?ku ?kh (List.forall_mem_nil _) ?kp ?_; walk_at "m fin"; (case kp => exact F5.keep _ _ hqg0))
  intro r h' tk' hK hP F6
  obtain ⟨e, dx, od, mA, ns, flt⟩ := hP
  have N6 := news_keep (ms := []) N5 hK (fun _ _ q => nomatch q)
  have n1 := none_back F5 N5 hg (there_PL ⟨_, by k_mem⟩ ⟨_, by k_mem⟩) flt.en
  have n2 := none_back F5 N5 hg (there_PL ⟨_, by k_mem⟩ ⟨_, by k_mem⟩) flt.dn
  clear N5 F5
  k_steps
  rename News g L' _ _ => N9
  show Q _ _
  refine hret _ _ _ (fun b o e n => Fr.keep (by assumption) b o (hg b o e n)) ⟨by walk_at "m has", e, dx, od, mA, ns, flt.rr, flt.ex, flt.dd, flt.ns, flt.kd, flt.at_, flt.ne, n1, n2⟩
end

theorem tick40 {prog : Program} {w : World} {A : Around} {E : Value → Shared → Prop} {s : Shared} {env : Env} {Q : Flow → Shared → Prop} (h : Q .next s) : wpAny (model prog w) A (execs [] env) Q E s := by
  first | (walk1; exact h) | exact wpAny_execs_nil h
section
local macro_rules | `(tactic| walk_at "call ref") => `(tactic| (k_here; (with_reducible show wpAny _ _ (call (Value.ref 383) _) _ _ _); refine hold ?_))
set_option maxHeartbeats 8000000 in
theorem mis_sep (w : World) (β : BA) (π : PA) (kp : Tok) (lim : Int) (kl : Tok) (tm : Value) (pr : Int) (kr : Tok) (tvs : List Value) (i : Nat) (q : Addr) (z : Int) (x : Sg) (os : Str) (ot : Tok) (hlt : i < 1000) (hq0q : tvs[i]? = some (.ref q)) (hpd : π.pd < π.p) (hc : cloT (TK.pun x) = false) (hs : ([Str.ofString ",", Str.ofString "|"].any fun y => y == x.str) = true) :
    Does w 390 8 [.ref π.p, .ref q, .str os ot] (PL w.params β π (i : Int) kp lim kl tm pr kr)
     (fun h => h.IsList π.tl tvs.toArray ∧ TupTk h q (TK.pun x) z ∧ (∀ a ∈ [π.tl, q], a ∉ (PL w.params β π (i : Int) kp lim kl tm pr kr).map (·.1)))
     (fun h h' r => Has h' (PL w.params β π (i : Int) kp lim kl tm pr kr) ∧ ∃ e dx od mA ns, FaultAt h h' r (Str.ofString "unexpected_token") z e dx od mA ns) := by
  walk_at "m fill"
  intro p loose mean mg mb A env outer A₀ base h₀ L m s Q E B F X N T hA hf hk hd hu hh hpre hret
  obtain ⟨ah, dp, fr, gd, un⟩ := A
  obtain rfl : fr = some (env :: outer) := hA
  obtain rfl : ah = none := hh
  replace hd : dp + _ < recursionLimit := hd
  replace hu : un + _ < cLine := hu
  obtain ⟨hl0, hq00, hno⟩ := hpre
  have hx0 : tvs[Int.toNat (i : Int)]? = some (.ref q) := hq0q
  refine wpAny_call ?_
  k_dflt (refine' enterD (binds := [(Str.ofString "self", .ref π.p), (Str.ofString "token", .ref q), (Str.ofString "otherwise", .str os ot)]) ?k1 ?k2 ?k3 ?k4 ?k5 ?kA ?kF ?kK ?k6 ?k7 ?k8 ?k9 ?kB ?_ ?c2 ?c3 ?c4 ?c5; (case kA => walk_at "m frames"); (case kF => first | assumption | exact rfl); (case kK => first | assumption | exact rfl); (case k1 => k_asm); (case k2 => k_asm); (case k3 => k_asm); (case k4 => k_asm); (case k5 => k_asm); (case k6 => k_is); (case k7 => k_is); (case k8 => walk_at "m room"); (case k9 => first | exact BindsTo.of_eq rfl | exact binds_K (by k_in) rfl (by k_is) rfl rfl rfl); (case c5 => decide); (case kB => exact locs rfl); (case c2 => exact rfl); (case c3 => exact rfl); (case c4 => exact rfl); k_whole)
  intro g L' h₁ F' N' B' X' T' hg hgs
  k_fold
  have hl := list_base hl0 hg (hno _ (by simp))
  obtain ⟨ka0, kb0, kc0, hq00⟩ := hq00
  have hqg0 := hg _ _ hq00 (hno _ (by simp))
  have hqt0 : IsTup g q [.str (Str.ofString "punct") ka0, .str (Sg.str x) kb0, .int z kc0].toArray := ⟨_, hqg0, rfl, _, rfl⟩
  have htk0 : TupTk g q (TK.pun x) z := ⟨_, _, _, hqg0⟩
  obtain ⟨b1, b2, ht2⟩ : ∃ a b, IsTup g 292 [.str (Str.ofString ",") a, .str (Str.ofString "|") b].toArray := ⟨_, _, _, X' 292 _ rfl, rfl, _, rfl⟩
  k_steps
  unfold Hold
  rename News g L' _ _ => N5
  rename Fr g L' _ _ => F5
  k_dflt (refine' use_does (does_fault w π.p q _ _ z (.str (Str.ofString "punct") ka0) (.str x.str kb0) kc0) ?k1 ?k2 ?k3 N5 ?k5 ?kA ?kf ?kk ?kd ?ku ?kh (List.forall_mem_nil _) ?kp ?_; walk_at "m fin"; (case kp => exact F5.keep _ _ hqg0))
  intro r h' tk' hK hP F6
  obtain ⟨e, dx, od, mA, ns, flt⟩ := hP
  have N6 := news_keep (ms := []) N5 hK (fun _ _ q => nomatch q)
  have n1 := none_back F5 N5 hg (there_PL ⟨_, by k_mem⟩ ⟨_, by k_mem⟩) flt.en
  have n2 := none_back F5 N5 hg (there_PL ⟨_, by k_mem⟩ ⟨_, by k_mem⟩) flt.dn
  clear N5 F5
  k_steps
  rename News g L' _ _ => N9
  show Q _ _
  refine hret _ _ _ (fun b o e n => Fr.keep (by assumption) b o (hg b o e n)) ⟨by walk_at "m has", e, dx, od, mA, ns, flt.rr, flt.ex, flt.dd, flt.ns, flt.kd, flt.at_, flt.ne, n1, n2⟩
end

theorem tick41 {prog : Program} {w : World} {A : Around} {E : Value → Shared → Prop} {s : Shared} {env : Env} {Q : Flow → Shared → Prop} (h : Q .next s) : wpAny (model prog w) A (execs [] env) Q E s := by
  first | (walk1; exact h) | exact wpAny_execs_nil h
section
local macro_rules | `(tactic| walk_at "call ref") => `(tactic| (k_here; (with_reducible show wpAny _ _ (call (Value.ref 383) _) _ _ _); refine hold ?_))
set_option maxHeartbeats 8000000 in
theorem mis_pun (w : World) (β : BA) (π : PA) (kp : Tok) (lim : Int) (kl : Tok) (tm : Value) (pr : Int) (kr : Tok) (tvs : List Value) (i : Nat) (q : Addr) (z : Int) (x : Sg) (os : Str) (ot : Tok) (hlt : i < 1000) (hq0q : tvs[i]? = some (.ref q)) (hpd : π.pd < π.p) (hc : cloT (TK.pun x) = false) (hs : ([Str.ofString ",", Str.ofString "|"].any fun y => y == x.str) = false) (hb1 : isP (TK.pun x) (Str.ofString ",") = false) (hb2 : isP (TK.pun x) (Str.ofString "|") = false) :
    Does w 390 8 [.ref π.p, .ref q, .str os ot] (PL w.params β π (i : Int) kp lim kl tm pr kr)
     (fun h => h.IsList π.tl tvs.toArray ∧ TupTk h q (TK.pun x) z ∧ (∀ a ∈ [π.tl, q], a ∉ (PL w.params β π (i : Int) kp lim kl tm pr kr).map (·.1)))
     (fun h h' r => Has h' (PL w.params β π (i : Int) kp lim kl tm pr kr) ∧ ∃ e dx od mA ns, FaultAt h h' r (os) z e dx od mA ns) := by
  walk_at "m fill"
  intro p loose mean mg mb A env outer A₀ base h₀ L m s Q E B F X N T hA hf hk hd hu hh hpre hret
  obtain ⟨ah, dp, fr, gd, un⟩ := A
  obtain rfl : fr = some (env :: outer) := hA
  obtain rfl : ah = none := hh
  replace hd : dp + _ < recursionLimit := hd
  replace hu : un + _ < cLine := hu
  obtain ⟨hl0, hq00, hno⟩ := hpre
  have hx0 : tvs[Int.toNat (i : Int)]? = some (.ref q) := hq0q
  refine wpAny_call ?_
  k_dflt (refine' enterD (binds := [(Str.ofString "self", .ref π.p), (Str.ofString "token", .ref q), (Str.ofString "otherwise", .str os ot)]) ?k1 ?k2 ?k3 ?k4 ?k5 ?kA ?kF ?kK ?k6 ?k7 ?k8 ?k9 ?kB ?_ ?c2 ?c3 ?c4 ?c5; (case kA => walk_at "m frames"); (case kF => first | assumption | exact rfl); (case kK => first | assumption | exact rfl); (case k1 => k_asm); (case k2 => k_asm); (case k3 => k_asm); (case k4 => k_asm); (case k5 => k_asm); (case k6 => k_is); (case k7 => k_is); (case k8 => walk_at "m room"); (case k9 => first | exact BindsTo.of_eq rfl | exact binds_K (by k_in) rfl (by k_is) rfl rfl rfl); (case c5 => decide); (case kB => exact locs rfl); (case c2 => exact rfl); (case c3 => exact rfl); (case c4 => exact rfl); k_whole)
  intro g L' h₁ F' N' B' X' T' hg hgs
  k_fold
  have hl := list_base hl0 hg (hno _ (by simp))
  obtain ⟨ka0, kb0, kc0, hq00⟩ := hq00
  have hqg0 := hg _ _ hq00 (hno _ (by simp))
  have hqt0 : IsTup g q [.str (Str.ofString "punct") ka0, .str (Sg.str x) kb0, .int z kc0].toArray := ⟨_, hqg0, rfl, _, rfl⟩
  have htk0 : TupTk g q (TK.pun x) z := ⟨_, _, _, hqg0⟩
  obtain ⟨b1, b2, ht2⟩ : ∃ a b, IsTup g 292 [.str (Str.ofString ",") a, .str (Str.ofString "|") b].toArray := ⟨_, _, _, X' 292 _ rfl, rfl, _, rfl⟩
  k_steps
  unfold Hold
  rename News g L' _ _ => N5
  rename Fr g L' _ _ => F5
  k_dflt (refine' use_does (does_fault w π.p q _ _ z (.str (Str.ofString "punct") ka0) (.str x.str kb0) kc0) ?k1 ?k2 ?k3 N5 ?k5 ?kA ?kf ?kk ?kd ?ku ?kh (List.forall_mem_nil _) ?kp ?_; walk_at "m fin"; (case kp => exact F5.keep _ _ hqg0))
  intro r h' tk' hK hP F6
  obtain ⟨e, dx, od, mA, ns, flt⟩ := hP
  have N6 := news_keep (ms := []) N5 hK (fun _ _ q => nomatch q)
  have n1 := none_back F5 N5 hg (there_PL ⟨_, by k_mem⟩ ⟨_, by k_mem⟩) flt.en
  have n2 := none_back F5 N5 hg (there_PL ⟨_, by k_mem⟩ ⟨_, by k_mem⟩) flt.dn
  clear N5 F5
  k_steps
  rename News g L' _ _ => N9
  show Q _ _
  refine hret _ _ _ (fun b o e n => Fr.keep (by assumption) b o (hg b o e n)) ⟨by walk_at "m has", e, dx, od, mA, ns, flt.rr, flt.ex, flt.dd, flt.ns, flt.kd, flt.at_, flt.ne, n1, n2⟩
end

theorem tick42 {prog : Program} {w : World} {A : Around} {E : Value → Shared → Prop} {s : Shared} {env : Env} {Q : Flow → Shared → Prop} (h : Q .next s) : wpAny (model prog w) A (execs [] env) Q E s := by
  first | (walk1; exact h) | exact wpAny_execs_nil h
section
local macro_rules | `(tactic| walk_at "call ref") => `(tactic| (k_here; (with_reducible show wpAny _ _ (call (Value.ref 383) _) _ _ _); refine hold ?_))
set_option maxHeartbeats 8000000 in
theorem mis_oth (w : World) (β : BA) (π : PA) (kp : Tok) (lim : Int) (kl : Tok) (tm : Value) (pr : Int) (kr : Tok) (tvs : List Value) (i : Nat) (q : Addr) (z : Int) (d : TK) (os : Str) (ot : Tok) (hlt : i < 1000) (hq0q : tvs[i]? = some (.ref q)) (hpd : π.pd < π.p) (hc : cloT d = false) (hk1 : (d.kind == Str.ofString "punct") = false) (hk2 : (d.kind == Str.ofString "name") = false) (hk3 : (d.kind == Str.ofString "qname") = false) (hb1 : isP d (Str.ofString ",") = false) (hb2 : isP d (Str.ofString "|") = false) :
    Does w 390 8 [.ref π.p, .ref q, .str os ot] (PL w.params β π (i : Int) kp lim kl tm pr kr)
     (fun h => h.IsList π.tl tvs.toArray ∧ TupTk h q d z ∧ (∀ a ∈ [π.tl, q], a ∉ (PL w.params β π (i : Int) kp lim kl tm pr kr).map (·.1)))
     (fun h h' r => Has h' (PL w.params β π (i : Int) kp lim kl tm pr kr) ∧ ∃ e dx od mA ns, FaultAt h h' r (os) z e dx od mA ns) := by
  walk_at "m fill"
  intro p loose mean mg mb A env outer A₀ base h₀ L m s Q E B F X N T hA hf hk hd hu hh hpre hret
  obtain ⟨ah, dp, fr, gd, un⟩ := A
  obtain rfl : fr = some (env :: outer) := hA
  obtain rfl : ah = none := hh
  replace hd : dp + _ < recursionLimit := hd
  replace hu : un + _ < cLine := hu
  obtain ⟨hl0, hq00, hno⟩ := hpre
  have hx0 : tvs[Int.toNat (i : Int)]? = some (.ref q) := hq0q
  refine wpAny_call ?_
  k_dflt (refine' enterD (binds := [(Str.ofString "self", .ref π.p), (Str.ofString "token", .ref q), (Str.ofString "otherwise", .str os ot)]) ?k1 ?k2 ?k3 ?k4 ?k5 ?kA ?kF ?kK ?k6 ?k7 ?k8 ?k9 ?kB ?_ ?c2 ?c3 ?c4 ?c5; (case kA => walk_at "m frames"); (case kF => first | assumption | exact rfl); (case kK => first | assumption | exact rfl); (case k1 => k_asm); (case k2 => k_asm); (case k3 => k_asm); (case k4 => k_asm); (case k5 => k_asm); (case k6 => k_is); (case k7 => k_is); (case k8 => walk_at "m room"); (case k9 => first | exact BindsTo.of_eq rfl | exact binds_K (by k_in) rfl (by k_is) rfl rfl rfl); (case c5 => decide); (case kB => exact locs rfl); (case c2 => exact rfl); (case c3 => exact rfl); (case c4 => exact rfl); k_whole)
  intro g L' h₁ F' N' B' X' T' hg hgs
  k_fold
  have hl := list_base hl0 hg (hno _ (by simp))
  obtain ⟨ka0, kb0, kc0, hq00⟩ := hq00
  have hqg0 := hg _ _ hq00 (hno _ (by simp))
  have hqt0 : IsTup g q [.str (TK.kind d) ka0, TK.val d kb0, .int z kc0].toArray := ⟨_, hqg0, rfl, _, rfl⟩
  have htk0 : TupTk g q d z := ⟨_, _, _, hqg0⟩
  k_steps
  unfold Hold
  rename News g L' _ _ => N5
  rename Fr g L' _ _ => F5
  k_dflt (refine' use_does (does_fault w π.p q _ _ z (.str d.kind ka0) (TK.val d kb0) kc0) ?k1 ?k2 ?k3 N5 ?k5 ?kA ?kf ?kk ?kd ?ku ?kh (List.forall_mem_nil _) ?kp ?_; walk_at "m fin"; (case kp => exact F5.keep _ _ hqg0))
  intro r h' tk' hK hP F6
  obtain ⟨e, dx, od, mA, ns, flt⟩ := hP
  have N6 := news_keep (ms := []) N5 hK (fun _ _ q => nomatch q)
  have n1 := none_back F5 N5 hg (there_PL ⟨_, by k_mem⟩ ⟨_, by k_mem⟩) flt.en
  have n2 := none_back F5 N5 hg (there_PL ⟨_, by k_mem⟩ ⟨_, by k_mem⟩) flt.dn
  clear N5 F5
  k_steps
  rename News g L' _ _ => N9
  show Q _ _
  refine hret _ _ _ (fun b o e n => Fr.keep (by assumption) b o (hg b o e n)) ⟨by walk_at "m has", e, dx, od, mA, ns, flt.rr, flt.ex, flt.dd, flt.ns, flt.kd, flt.at_, flt.ne, n1, n2⟩
end

theorem tick43 {prog : Program} {w : World} {A : Around} {E : Value → Shared → Prop} {s : Shared} {env : Env} {Q : Flow → Shared → Prop} (h : Q .next s) : wpAny (model prog w) A (execs [] env) Q E s := by
  first | (walk1; exact h) | exact wpAny_execs_nil h
section
local macro_rules | `(tactic| walk_at "compareOp In int ref") => `(tactic| (k_here; k_dflt (refine kda_in (knd := PySem.intKind _ _) (by k_asm) (by k_mem) (by assumption) (by assumption) (intKind_is _ _ _ _) false (by first | rfl | exact comma_noneS (by assumption)) ?_)))
local macro_rules | `(tactic| walk_at "call builtin:dict.get") => `(tactic| (k_here; k_dflt (first
  | refine kdg_get1 (knd := PySem.intKind _ _) (by k_asm) (by k_mem) (by assumption) (by assumption) (intKind_is _ _ _ _) none (by first | rfl | exact comma_none (by assumption)) ?_
  | refine kdg_get1 (knd := PySem.intKind _ _) (by k_asm) (by k_mem) (by assumption) (by assumption) (intKind_is _ _ _ _) (some _) (by rfl) ?_); (try dsimp only [Option.getD])))
local macro_rules | `(tactic| walk_at "getMethod ref") => `(tactic| (k_here; (with_reducible show wpAny _ _ (getMethod (Value.ref _) (Str.ofString "get") _) _ _ _); k_dflt (refine kdg_method (knd := PySem.intKind _ _) (by k_asm) (by k_mem) (by assumption) ?_)))
local macro_rules | `(tactic| k_all) => `(tactic| exact rest_off (by assumption) (by walk_at "m rest") (by k_mem) (by first | exact list_noTup _ _ | exact dict_noTup _ _) (by assumption) (by first | assumption | walk_at "m off9"))
local macro_rules | `(tactic| walk_at "call ref") => `(tactic| (k_here; (with_reducible show wpAny _ _ (call (Value.ref 458) [_, _]) _ _ _); refine hold ?_))
local macro_rules | `(tactic| walk_at "call ref") => `(tactic| (k_here; (with_reducible show wpAny _ _ (call (Value.ref 383) _) _ _ _); refine hold ?_))
set_option maxHeartbeats 8000000 in
theorem mis_nam (w : World) (β : BA) (π : PA) (kp : Tok) (lim : Int) (kl : Tok) (tm : Value) (pr : Int) (kr : Tok) (tvs : List Value) (i : Nat) (q : Addr) (z : Int) (dn : TK) (xt : Str) (ω : OA) (c : BC) (os : Str) (ot : Tok) (hlt : i < 1000) (hq0q : tvs[i]? = some (.ref q)) (hpd : π.pd < π.p) (hoO : OOk w ω) (hord : ω.od < π.o ∧ π.o < ω.pf ∧ ω.pf < ω.nf ∧ ω.nf < ω.qf ∧ ω.qf < π.pd) (hsz : c.size < 100000) (h7 : c.texts[7]? = some (Str.ofString ",")) (hoff : ∀ a ∈ [π.p, π.pd, π.o, ω.od, ω.pf, ω.nf, ω.qf], a ∉ (c.L w.params β).map (·.1)) (hdk : dn.kind = Str.ofString "name") (hdv : ∀ t, dn.val t = .str xt t) (hcm : xt ≠ Str.ofString ",") (hc : cloT dn = false) :
    Does w 390 8 [.ref π.p, .ref q, .str os ot] ((PL w.params β π (i : Int) kp lim kl tm pr kr ++ OL w.params β π.o ω) ++ c.L w.params β)
     (fun h => c.Ok w h β ∧ h.IsList π.tl tvs.toArray ∧ TupTk h q dn z ∧ (∀ a ∈ [π.tl, q], a ∉ ((PL w.params β π (i : Int) kp lim kl tm pr kr ++ OL w.params β π.o ω) ++ c.L w.params β).map (·.1)))
     (fun h h' r => ∃ (c' : BC), c.Grow c' 1 ∧ c'.Ok w h' β ∧ Has h' ((PL w.params β π (i : Int) kp lim kl tm pr kr ++ OL w.params β π.o ω) ++ c'.L w.params β) ∧ ∃ e dx od mA ns, FaultAt h h' r os z e dx od mA ns) := by
  walk_at "m fill"
  intro p loose mean mg mb A env outer A₀ base h₀ L m s Q E B F X N T hA hf hk hd hu hh hpre hret
  obtain ⟨ah, dp, fr, gd, un⟩ := A
  obtain rfl : fr = some (env :: outer) := hA
  obtain rfl : ah = none := hh
  replace hd : dp + _ < recursionLimit := hd
  replace hu : un + _ < cLine := hu
  obtain ⟨hok, hl0, hq00, hno⟩ := hpre
  have hx0 : tvs[Int.toNat (i : Int)]? = some (.ref q) := hq0q
  obtain ⟨od1, od2, od3, lo1, lo2, lo3⟩ := hoO
  obtain ⟨or1, or2, or3, or4, or5⟩ := hord
  have ho1 := hoff π.pd (by simp)
  refine wpAny_call ?_
  k_dflt (refine' enterD (binds := [(Str.ofString "self", .ref π.p), (Str.ofString "token", .ref q), (Str.ofString "otherwise", .str os ot)]) ?k1 ?k2 ?k3 ?k4 ?k5 ?kA ?kF ?kK ?k6 ?k7 ?k8 ?k9 ?kB ?_ ?c2 ?c3 ?c4 ?c5; (case kA => walk_at "m frames"); (case kF => first | assumption | exact rfl); (case kK => first | assumption | exact rfl); (case k1 => k_asm); (case k2 => k_asm); (case k3 => k_asm); (case k4 => k_asm); (case k5 => k_asm); (case k6 => k_is); (case k7 => k_is); (case k8 => walk_at "m room"); (case k9 => first | exact BindsTo.of_eq rfl | exact binds_K (by k_in) rfl (by k_is) rfl rfl rfl); (case c5 => decide); (case kB => exact locs rfl); (case c2 => exact rfl); (case c3 => exact rfl); (case c4 => exact rfl); k_whole)
  intro g L' h₁ F' N' B' X' T' hg hgs
  k_fold
  have hl := list_base hl0 hg (hno _ (by simp))
  obtain ⟨ka0, kb0, kc0, hq00⟩ := hq00
  have hqg0 := hg _ _ hq00 (hno _ (by simp))
  have htk0 : TupTk g q dn z := ⟨_, _, _, hqg0⟩
  rw [hdk, hdv] at hqg0
  have hqt0 : IsTup g q [.str (Str.ofString "name") ka0, .str xt kb0, .int z kc0].toArray := ⟨_, hqg0, rfl, _, rfl⟩
  have okg := hok.keepT (keepT_of hg (fun p hp => (N p hp).1) (((PL_noTup _ _ _ _ _ _ _ _ _ _).app (OOk.noTup ⟨od1, od2, od3, lo1, lo2, lo3⟩ _ _ _)).app (hok.noTup _)))
  replace N' := rest_start' N'
  dsimp only [List.cons_append, List.nil_append] at N'
  have hTup0 : ∀ p ∈ ([] : List (Addr × Obj)), isTup p.2 := fun _ q => nomatch q
  k_steps
  unfold Hold
  rename News g L' _ _ => N5
  rename Fr g L' _ _ => F5
  k_dflt (refine' use_bk2 (own := [_, _, _, _, _, _, _]) (n := 1) (opn_nam w β π kp lim kl tm pr kr tvs i q z dn xt c hlt hq0q hpd hsz h7 (fun a ha => hoff a (List.mem_append_left [π.o, ω.od, ω.pf, ω.nf, ω.qf] ha)) hdk hdv hcm) ?k1 ?k2 ?k3 N5 ?k5 ?kA ?kf ?kk ?kd ?ku ?kh ?ko ?kp ?kx ?ks ?kn ?_; walk_at "m fin"; (case ko => walk_at "m ok"); (case kx => exact off_own hoff rfl); (case ks => exact fun p hp => List.mem_append_left (OL w.params β π.o ω) hp); (case kn => exact PL_noTup _ _ _ _ _ _ _ _ _ _))
  case kp => exact ⟨Fr.lst F5 hl, TupTk.keep (Fr.keep F5) htk0, fun a ha hm => hno a ha (map_sub mid_sub hm)⟩
  intro r h' tk' c' im' F' N' hIm hT hO hG hKT hR
  obtain ⟨n, tn, rfl, hne⟩ := hR
  dsimp only [List.nil_append, List.cons_append] at N'
  clear N5 F5
  k_steps
  unfold Hold
  rename News g L' _ _ => N5
  rename Fr g L' _ _ => F5
  have hkt : KeepT _ _ := hIm _ _ F5 (fun p hp => (N5 p ((by walk_at "m tail" : ∀ p ∈ im', p ∈ _) p hp)).1)
  k_dflt (refine' use_does (does_fault w π.p q _ _ z (.str (Str.ofString "name") ka0) (.str xt kb0) kc0) ?k1 ?k2 ?k3 N5 ?k5 ?kA ?kf ?kk ?kd ?ku ?kh (List.forall_mem_nil _) ?kp ?_; walk_at "m fin"; (case kp => exact F5.keep _ _ hqg0))
  intro r h' tk' hK hP F6
  obtain ⟨e, dx, od, mA, ns, flt⟩ := hP
  have N6 := news_keep (ms := []) N5 hK (fun _ _ q => nomatch q)
  have n1 := none_back F5 N5 hg (there_app (fun p hp => List.mem_append_left (Rest w.params β c' im') hp) (bk_there' (by walk_at "m rest"))) flt.en
  have n2 := none_back F5 N5 hg (there_app (fun p hp => List.mem_append_left (Rest w.params β c' im') hp) (bk_there' (by walk_at "m rest"))) flt.dn
  clear N5 F5
  k_steps
  rename News g L' _ _ => N9
  show Q _ _
  refine hret _ _ _ (fun b o e n => Fr.keep (by assumption) b o (hg b o e n)) ⟨c', hG, by walk_at "m ok", has_app (has_app (by walk_at "m has") (by walk_at "m has")) (fun p hp => (N9 p (by repeat (first | exact rest_bk p hp | refine List.Mem.tail _ ?_))).1), e, dx, od, mA, ns, flt.rr, flt.ex, flt.dd, flt.ns, flt.kd, flt.at_, flt.ne, n1, n2⟩
end

theorem tick44 {prog : Program} {w : World} {A : Around} {E : Value → Shared → Prop} {s : Shared} {env : Env} {Q : Flow → Shared → Prop} (h : Q .next s) : wpAny (model prog w) A (execs [] env) Q E s := by
  first | (walk1; exact h) | exact wpAny_execs_nil h
section
set_option maxHeartbeats 8000000 in
theorem op_red (w : World) (β : BA) (π : PA) (kp : Tok) (lim : Int) (kl : Tok) (tm : Value) (pr : Int) (kr : Tok) (i : Int) (frs : List Value) (nf : Nat) (la ta : Addr) (fa fd fi : Nat) (kind : Str) (kt : Tok) (flim : Int) (flt : Tok) (fn : Int) (ft : Tok) (nm : Int) (nt : Tok) (fpr : Int) (fpt : Tok) (left : Value) (its : List Value) (nn : Nat) (c1 c2 c3 c4 c5 c6 c7 : Tok) (hpd : π.pd < π.p ∧ π.p < π.fl) (hfr : frs.length < 1000) (hne : π.pd ≠ fa ∧ π.pd ≠ fd ∧ π.pd ≠ fi ∧ π.p ≠ fa ∧ π.p ≠ fd ∧ π.p ≠ fi ∧ π.fl ≠ fa ∧ π.fl ≠ fd ∧ π.fl ≠ fi ∧ fa ≠ fd ∧ fa ≠ fi ∧ fd ≠ fi) (hleft : left = .ref la) (htm : tm = .ref ta) :
    Does w 493 8 [.ref π.p] ((PL w.params β π i kp lim kl tm pr kr ++ [(π.fl, listOf (frs ++ [Value.ref fa]).toArray nf)]) ++ [(fa, instObj 309 fd), (fd, FD w.params kind kt flim flt fn ft nm nt fpr fpt left fi c1 c2 c3 c4 c5 c6 c7), (fi, listOf its.toArray nn)]) (fun _ => True) (fun h h' r => ∃ (kp' kl' kr' k1 k2 : Tok) (nf' : Nat) (t u : Addr), r = .none ∧ Has h' (PL w.params β π i kp' flim kl' (.ref t) fpr kr' ++ [(π.fl, listOf frs.toArray nf')]) ∧ h'.get? t = some (tupOf [.str (Str.ofString "s") k1, .int fn k2, .ref u]) ∧ h'.get? u = some (tupOf [.ref la, tm])) := by
  walk_at "m fill"
  intro p loose mean mg mb A env outer A₀ base h₀ L m s Q E B F X N T hA hf hk hd hu hh hpre hret
  obtain ⟨ah, dp, fr, gd, un⟩ := A
  obtain rfl : fr = some (env :: outer) := hA
  obtain rfl : ah = none := hh
  replace hd : dp + _ < recursionLimit := hd
  replace hu : un + _ < cLine := hu
  obtain ⟨or1, or2⟩ := hpd
  obtain ⟨e1, e2, e3, e4, e5, e6, e7, e8, e9, e10, e11, e12⟩ := hne
  subst hleft
  subst htm
  refine wpAny_call ?_
  k_dflt (refine' enterD (binds := [(Str.ofString "self", .ref π.p)]) ?k1 ?k2 ?k3 ?k4 ?k5 ?kA ?kF ?kK ?k6 ?k7 ?k8 ?k9 ?kB ?_ ?c2 ?c3 ?c4 ?c5; (case kA => walk_at "m frames"); (case kF => first | assumption | exact rfl); (case kK => first | assumption | exact rfl); (case k1 => k_asm); (case k2 => k_asm); (case k3 => k_asm); (case k4 => k_asm); (case k5 => k_asm); (case k6 => k_is); (case k7 => k_is); (case k8 => walk_at "m room"); (case k9 => first | exact BindsTo.of_eq rfl | exact binds_K (by k_in) rfl (by k_is) rfl rfl rfl); (case c5 => decide); (case kB => exact locs rfl); (case c2 => exact rfl); (case c3 => exact rfl); (case c4 => exact rfl); k_whole)
  intro g L' h₁ F' N' B' X' T' hg hgs
  k_fold
  dsimp only [List.cons_append, List.nil_append] at N'
  k_steps
  rename News g L' _ _ => N9
  show Q _ _
  refine hret _ _ _ (fun b o e n => Fr.keep (by assumption) b o (hg b o e n)) ?_
  refine' ⟨_, _, _, _, _, _, _, _, rfl, ?has, ?t, ?u⟩
  case has => exact has_app (by walk_at "m has") (by walk_at "m has")
  case t => exact News.get N9 (by k_mem)
  case u => exact News.get N9 (by k_mem)
end

theorem tick45 {prog : Program} {w : World} {A : Around} {E : Value → Shared → Prop} {s : Shared} {env : Env} {Q : Flow → Shared → Prop} (h : Q .next s) : wpAny (model prog w) A (execs [] env) Q E s := by
  first | (walk1; exact h) | exact wpAny_execs_nil h
section
local macro_rules | `(tactic| walk_at "subscriptTail Attribute Name UnaryOp") => `(tactic| (k_here; (with_reducible show wpAny _ _ (subscriptTail _ _ (Value.ref _) (Value.int _ _)) _ _ _); (with_unfolding_all refine' item_last ?k1 ?_ ?k6; (case k1 => exact News.isList (by assumption) (by k_mem)); (case k6 => with_unfolding_all rfl); k_whole)))
set_option maxHeartbeats 8000000 in
theorem cl_round (w : World) (β : BA) (π : PA) (kp : Tok) (lim : Int) (kl : Tok) (tm : Value) (pr : Int) (kr : Tok) (tvs : List Value) (i : Nat) (q : Addr) (z : Int) (frs : List Value) (nf : Nat) (ta : Addr) (fa fd fi : Nat) (kind : Str) (kt : Tok) (flim : Int) (flt : Tok) (fn : Int) (ft : Tok) (nm : Int) (nt : Tok) (fpr : Int) (fpt : Tok) (left : Value) (its : List Value) (nn : Nat) (c1 c2 c3 c4 c5 c6 c7 : Tok) (hlt : i < 1000) (hq0q : tvs[i]? = some (.ref q)) (hpd : π.pd < π.p ∧ π.p < π.fl) (hfr : frs.length < 1000) (hne : π.pd ≠ fa ∧ π.pd ≠ fd ∧ π.pd ≠ fi ∧ π.p ≠ fa ∧ π.p ≠ fd ∧ π.p ≠ fi ∧ π.fl ≠ fa ∧ π.fl ≠ fd ∧ π.fl ≠ fi ∧ fa ≠ fd ∧ fa ≠ fi ∧ fd ≠ fi) (hkd : kind = Str.ofString "round") (htm : tm = .ref ta) :
    Does w 500 8 [.ref π.p, .ref q] ((PL w.params β π (i : Int) kp lim kl tm pr kr ++ [(π.fl, listOf (frs ++ [Value.ref fa]).toArray nf)]) ++ [(fa, instObj 309 fd), (fd, FD w.params kind kt flim flt fn ft nm nt fpr fpt left fi c1 c2 c3 c4 c5 c6 c7), (fi, listOf its.toArray nn)])
     (fun h => h.IsList π.tl tvs.toArray ∧ TupTk h q (TK.pun .rp) z ∧ (∀ a ∈ [π.tl, q], a ∉ ((PL w.params β π (i : Int) kp lim kl tm pr kr ++ [(π.fl, listOf (frs ++ [Value.ref fa]).toArray nf)]) ++ [(fa, instObj 309 fd), (fd, FD w.params kind kt flim flt fn ft nm nt fpr fpt left fi c1 c2 c3 c4 c5 c6 c7), (fi, listOf its.toArray nn)]).map (·.1)))
     (fun h h' r => ∃ (kp' kl' kr' k : Tok) (nf' : Nat), r = .int 1 k ∧ Has h' (PL w.params β π ((i : Int) + 1) kp' flim kl' (.ref ta) 0 kr' ++ [(π.fl, listOf frs.toArray nf')])) := by
  walk_at "m fill"
  intro p loose mean mg mb A env outer A₀ base h₀ L m s Q E B F X N T hA hf hk hd hu hh hpre hret
  obtain ⟨ah, dp, fr, gd, un⟩ := A
  obtain rfl : fr = some (env :: outer) := hA
  obtain rfl : ah = none := hh
  replace hd : dp + _ < recursionLimit := hd
  replace hu : un + _ < cLine := hu
  obtain ⟨hl0, hq00, hno⟩ := hpre
  have hx0 : tvs[Int.toNat (i : Int)]? = some (.ref q) := hq0q
  obtain ⟨or1, or2⟩ := hpd
  obtain ⟨e1, e2, e3, e4, e5, e6, e7, e8, e9, e10, e11, e12⟩ := hne
  subst hkd
  subst htm
  refine wpAny_call ?_
  k_dflt (refine' enterD (binds := [(Str.ofString "self", .ref π.p), (Str.ofString "token", .ref q)]) ?k1 ?k2 ?k3 ?k4 ?k5 ?kA ?kF ?kK ?k6 ?k7 ?k8 ?k9 ?kB ?_ ?c2 ?c3 ?c4 ?c5; (case kA => walk_at "m frames"); (case kF => first | assumption | exact rfl); (case kK => first | assumption | exact rfl); (case k1 => k_asm); (case k2 => k_asm); (case k3 => k_asm); (case k4 => k_asm); (case k5 => k_asm); (case k6 => k_is); (case k7 => k_is); (case k8 => walk_at "m room"); (case k9 => first | exact BindsTo.of_eq rfl | exact binds_K (by k_in) rfl (by k_is) rfl rfl rfl); (case c5 => decide); (case kB => exact locs rfl); (case c2 => exact rfl); (case c3 => exact rfl); (case c4 => exact rfl); k_whole)
  intro g L' h₁ F' N' B' X' T' hg hgs
  k_fold
  have hl := list_base hl0 hg (hno _ (by simp))
  obtain ⟨ka0, kb0, kc0, hq00⟩ := hq00
  have hqg0 := hg _ _ hq00 (hno _ (by simp))
  have hqt0 : IsTup g q [.str (Str.ofString "punct") ka0, .str (Sg.str .rp) kb0, .int z kc0].toArray := ⟨_, hqg0, rfl, _, rfl⟩
  have htk0 : TupTk g q (TK.pun .rp) z := ⟨_, _, _, hqg0⟩
  dsimp only [List.cons_append, List.nil_append] at N'
  k_steps
  rename News g L' _ _ => N9
  show Q _ _
  refine hret _ _ _ (fun b o e n => Fr.keep (by assumption) b o (hg b o e n)) ?_
  refine' ⟨_, _, _, _, _, rfl, ?has⟩
  case has => exact has_app (by walk_at "m has") (by walk_at "m has")
end

theorem tick46 {prog : Program} {w : World} {A : Around} {E : Value → Shared → Prop} {s : Shared} {env : Env} {Q : Flow → Shared → Prop} (h : Q .next s) : wpAny (model prog w) A (execs [] env) Q E s := by
  first | (walk1; exact h) | exact wpAny_execs_nil h
section
local macro_rules | `(tactic| walk_at "subscriptTail Attribute Name UnaryOp") => `(tactic| (k_here; (with_reducible show wpAny _ _ (subscriptTail _ _ (Value.ref _) (Value.int _ _)) _ _ _); (with_unfolding_all refine' item_last ?k1 ?_ ?k6; (case k1 => exact News.isList (by assumption) (by k_mem)); (case k6 => with_unfolding_all rfl); k_whole)))
set_option maxHeartbeats 8000000 in
theorem cl_curly (w : World) (β : BA) (π : PA) (kp : Tok) (lim : Int) (kl : Tok) (tm : Value) (pr : Int) (kr : Tok) (tvs : List Value) (i : Nat) (q : Addr) (z : Int) (frs : List Value) (nf : Nat) (ta : Addr) (fa fd fi : Nat) (kind : Str) (kt : Tok) (flim : Int) (flt : Tok) (fn : Int) (ft : Tok) (nm : Int) (nt : Tok) (fpr : Int) (fpt : Tok) (left : Value) (its : List Value) (nn : Nat) (c1 c2 c3 c4 c5 c6 c7 : Tok) (hlt : i < 1000) (hq0q : tvs[i]? = some (.ref q)) (hpd : π.pd < π.p ∧ π.p < π.fl) (hfr : frs.length < 1000) (hne : π.pd ≠ fa ∧ π.pd ≠ fd ∧ π.pd ≠ fi ∧ π.p ≠ fa ∧ π.p ≠ fd ∧ π.p ≠ fi ∧ π.fl ≠ fa ∧ π.fl ≠ fd ∧ π.fl ≠ fi ∧ fa ≠ fd ∧ fa ≠ fi ∧ fd ≠ fi) (hkd : kind = Str.ofString "curly") (htm : tm = .ref ta) :
    Does w 500 8 [.ref π.p, .ref q] ((PL w.params β π (i : Int) kp lim kl tm pr kr ++ [(π.fl, listOf (frs ++ [Value.ref fa]).toArray nf)]) ++ [(fa, instObj 309 fd), (fd, FD w.params kind kt flim flt fn ft nm nt fpr fpt left fi c1 c2 c3 c4 c5 c6 c7), (fi, listOf its.toArray nn)])
     (fun h => h.IsList π.tl tvs.toArray ∧ TupTk h q (TK.pun .rc) z ∧ (∀ a ∈ [π.tl, q], a ∉ ((PL w.params β π (i : Int) kp lim kl tm pr kr ++ [(π.fl, listOf (frs ++ [Value.ref fa]).toArray nf)]) ++ [(fa, instObj 309 fd), (fd, FD w.params kind kt flim flt fn ft nm nt fpr fpt left fi c1 c2 c3 c4 c5 c6 c7), (fi, listOf its.toArray nn)]).map (·.1)))
     (fun h h' r => ∃ (kp' kl' kr' k : Tok) (nf' : Nat) (k1 k2 : Tok) (t u : Addr), r = .int 1 k ∧ Has h' (PL w.params β π ((i : Int) + 1) kp' flim kl' (.ref t) 0 kr' ++ [(π.fl, listOf frs.toArray nf')]) ∧ h'.get? t = some (tupOf [.str (Str.ofString "s") k1, .int 9 k2, .ref u]) ∧ h'.get? u = some (tupOf [.ref ta])) := by
  walk_at "m fill"
  intro p loose mean mg mb A env outer A₀ base h₀ L m s Q E B F X N T hA hf hk hd hu hh hpre hret
  obtain ⟨ah, dp, fr, gd, un⟩ := A
  obtain rfl : fr = some (env :: outer) := hA
  obtain rfl : ah = none := hh
  replace hd : dp + _ < recursionLimit := hd
  replace hu : un + _ < cLine := hu
  obtain ⟨hl0, hq00, hno⟩ := hpre
  have hx0 : tvs[Int.toNat (i : Int)]? = some (.ref q) := hq0q
  obtain ⟨or1, or2⟩ := hpd
  obtain ⟨e1, e2, e3, e4, e5, e6, e7, e8, e9, e10, e11, e12⟩ := hne
  subst hkd
  subst htm
  refine wpAny_call ?_
  k_dflt (refine' enterD (binds := [(Str.ofString "self", .ref π.p), (Str.ofString "token", .ref q)]) ?k1 ?k2 ?k3 ?k4 ?k5 ?kA ?kF ?kK ?k6 ?k7 ?k8 ?k9 ?kB ?_ ?c2 ?c3 ?c4 ?c5; (case kA => walk_at "m frames"); (case kF => first | assumption | exact rfl); (case kK => first | assumption | exact rfl); (case k1 => k_asm); (case k2 => k_asm); (case k3 => k_asm); (case k4 => k_asm); (case k5 => k_asm); (case k6 => k_is); (case k7 => k_is); (case k8 => walk_at "m room"); (case k9 => first | exact BindsTo.of_eq rfl | exact binds_K (by k_in) rfl (by k_is) rfl rfl rfl); (case c5 => decide); (case kB => exact locs rfl); (case c2 => exact rfl); (case c3 => exact rfl); (case c4 => exact rfl); k_whole)
  intro g L' h₁ F' N' B' X' T' hg hgs
  k_fold
  have hl := list_base hl0 hg (hno _ (by simp))
  obtain ⟨ka0, kb0, kc0, hq00⟩ := hq00
  have hqg0 := hg _ _ hq00 (hno _ (by simp))
  have hqt0 : IsTup g q [.str (Str.ofString "punct") ka0, .str (Sg.str .rc) kb0, .int z kc0].toArray := ⟨_, hqg0, rfl, _, rfl⟩
  have htk0 : TupTk g q (TK.pun .rc) z := ⟨_, _, _, hqg0⟩
  dsimp only [List.cons_append, List.nil_append] at N'
  k_steps
  rename News g L' _ _ => N9
  show Q _ _
  refine hret _ _ _ (fun b o e n => Fr.keep (by assumption) b o (hg b o e n)) ?_
  refine' ⟨_, _, _, _, _, _, _, _, _, rfl, ?has, ?t, ?u⟩
  case has => exact has_app (by walk_at "m has") (by walk_at "m has")
  case t => exact News.get N9 (by k_mem)
  case u => exact News.get N9 (by k_mem)
end

theorem tick47 {prog : Program} {w : World} {A : Around} {E : Value → Shared → Prop} {s : Shared} {env : Env} {Q : Flow → Shared → Prop} (h : Q .next s) : wpAny (model prog w) A (execs [] env) Q E s := by
  first | (walk1; exact h) | exact wpAny_execs_nil h
section
local macro_rules | `(tactic| walk_at "subscriptTail Attribute Name UnaryOp") => `(tactic| (k_here; (with_reducible show wpAny _ _ (subscriptTail _ _ (Value.ref _) (Value.int _ _)) _ _ _); (with_unfolding_all refine' item_last ?k1 ?_ ?k6; (case k1 => exact News.isList (by assumption) (by k_mem)); (case k6 => with_unfolding_all rfl); k_whole)))
local macro_rules | `(tactic| walk_at "call builtin:list.append") => `(tactic| (k_here; (with_reducible show wpAny _ _ (call (Value.builtin _) [Value.ref _, _]) _ _ _); k_dflt (refine' append_K ?k1 ?k2 ?k3 ?_ ?z; (case k1 => k_asm); (case k2 => k_asm); (case k3 => k_upd); (case z => (simp only [List.size_toArray]; rw [sizeLine_eq]; omega)); k_whole); intro h' F' N'; (try k_sweep)))
set_option maxHeartbeats 8000000 in
theorem cl_sepA (w : World) (β : BA) (π : PA) (kp : Tok) (lim : Int) (kl : Tok) (tm : Value) (pr : Int) (kr : Tok) (tvs : List Value) (i : Nat) (q : Addr) (z : Int) (frs : List Value) (nf : Nat) (ta : Addr) (fa fd fi : Nat) (kind : Str) (kt : Tok) (flim : Int) (flt : Tok) (fn : Int) (ft : Tok) (nm : Int) (nt : Tok) (fpr : Int) (fpt : Tok) (left : Value) (its : List Value) (nn : Nat) (c1 c2 c3 c4 c5 c6 c7 : Tok) (hlt : i < 1000) (hq0q : tvs[i]? = some (.ref q)) (hpd : π.pd < π.p ∧ π.p < π.fl) (hfr : frs.length < 1000) (hne : π.pd ≠ fa ∧ π.pd ≠ fd ∧ π.pd ≠ fi ∧ π.p ≠ fa ∧ π.p ≠ fd ∧ π.p ≠ fi ∧ π.fl ≠ fa ∧ π.fl ≠ fd ∧ π.fl ≠ fi ∧ fa ≠ fd ∧ fa ≠ fi ∧ fd ≠ fi) (hkd : kind = Str.ofString "args") (htm : tm = .ref ta) (hits : its.length < 1000) :
    Does w 500 8 [.ref π.p, .ref q] ((PL w.params β π (i : Int) kp lim kl tm pr kr ++ [(π.fl, listOf (frs ++ [Value.ref fa]).toArray nf)]) ++ [(fa, instObj 309 fd), (fd, FD w.params kind kt flim flt fn ft nm nt fpr fpt left fi c1 c2 c3 c4 c5 c6 c7), (fi, listOf its.toArray nn)])
     (fun h => h.IsList π.tl tvs.toArray ∧ TupTk h q (TK.pun .cma) z ∧ (∀ a ∈ [π.tl, q], a ∉ ((PL w.params β π (i : Int) kp lim kl tm pr kr ++ [(π.fl, listOf (frs ++ [Value.ref fa]).toArray nf)]) ++ [(fa, instObj 309 fd), (fd, FD w.params kind kt flim flt fn ft nm nt fpr fpt left fi c1 c2 c3 c4 c5 c6 c7), (fi, listOf its.toArray nn)]).map (·.1)))
     (fun h h' r => ∃ (kp' kl' k : Tok) (nn' : Nat), r = .int 0 k ∧ Has h' ((PL w.params β π ((i : Int) + 1) kp' 999 kl' (.ref ta) pr kr ++ [(π.fl, listOf (frs ++ [Value.ref fa]).toArray nf)]) ++ [(fa, instObj 309 fd), (fd, FD w.params (Str.ofString "args") kt flim flt fn ft nm nt fpr fpt left fi c1 c2 c3 c4 c5 c6 c7), (fi, listOf (its ++ [Value.ref ta]).toArray nn')])) := by
  walk_at "m fill"
  intro p loose mean mg mb A env outer A₀ base h₀ L m s Q E B F X N T hA hf hk hd hu hh hpre hret
  obtain ⟨ah, dp, fr, gd, un⟩ := A
  obtain rfl : fr = some (env :: outer) := hA
  obtain rfl : ah = none := hh
  replace hd : dp + _ < recursionLimit := hd
  replace hu : un + _ < cLine := hu
  obtain ⟨hl0, hq00, hno⟩ := hpre
  have hx0 : tvs[Int.toNat (i : Int)]? = some (.ref q) := hq0q
  obtain ⟨or1, or2⟩ := hpd
  obtain ⟨e1, e2, e3, e4, e5, e6, e7, e8, e9, e10, e11, e12⟩ := hne
  subst hkd
  subst htm
  refine wpAny_call ?_
  k_dflt (refine' enterD (binds := [(Str.ofString "self", .ref π.p), (Str.ofString "token", .ref q)]) ?k1 ?k2 ?k3 ?k4 ?k5 ?kA ?kF ?kK ?k6 ?k7 ?k8 ?k9 ?kB ?_ ?c2 ?c3 ?c4 ?c5; (case kA => walk_at "m frames"); (case kF => first | assumption | exact rfl); (case kK => first | assumption | exact rfl); (case k1 => k_asm); (case k2 => k_asm); (case k3 => k_asm); (case k4 => k_asm); (case k5 => k_asm); (case k6 => k_is); (case k7 => k_is); (case k8 => walk_at "m room"); (case k9 => first | exact BindsTo.of_eq rfl | exact binds_K (by k_in) rfl (by k_is) rfl rfl rfl); (case c5 => decide); (case kB => exact locs rfl); (case c2 => exact rfl); (case c3 => exact rfl); (case c4 => exact rfl); k_whole)
  intro g L' h₁ F' N' B' X' T' hg hgs
  k_fold
  have hl := list_base hl0 hg (hno _ (by simp))
  obtain ⟨ka0, kb0, kc0, hq00⟩ := hq00
  have hqg0 := hg _ _ hq00 (hno _ (by simp))
  have hqt0 : IsTup g q [.str (Str.ofString "punct") ka0, .str (Sg.str .cma) kb0, .int z kc0].toArray := ⟨_, hqg0, rfl, _, rfl⟩
  have htk0 : TupTk g q (TK.pun .cma) z := ⟨_, _, _, hqg0⟩
  dsimp only [List.cons_append, List.nil_append] at N'
  k_steps
  rename News g L' _ _ => N9
  simp only [List.push_toArray] at N9
  show Q _ _
  refine hret _ _ _ (fun b o e n => Fr.keep (by assumption) b o (hg b o e n)) ?_
  refine' ⟨_, _, _, _, rfl, ?has⟩
  case has => exact has_app (has_app (by walk_at "m has") (by walk_at "m has")) (by walk_at "m has")
end

theorem tick48 {prog : Program} {w : World} {A : Around} {E : Value → Shared → Prop} {s : Shared} {env : Env} {Q : Flow → Shared → Prop} (h : Q .next s) : wpAny (model prog w) A (execs [] env) Q E s := by
  first | (walk1; exact h) | exact wpAny_execs_nil h
section
local macro_rules | `(tactic| walk_at "subscriptTail Attribute Name UnaryOp") => `(tactic| (k_here; (with_reducible show wpAny _ _ (subscriptTail _ _ (Value.ref _) (Value.int _ _)) _ _ _); (with_unfolding_all refine' item_last ?k1 ?_ ?k6; (case k1 => exact News.isList (by assumption) (by k_mem)); (case k6 => with_unfolding_all rfl); k_whole)))
local macro_rules | `(tactic| walk_at "call builtin:list.append") => `(tactic| (k_here; (with_reducible show wpAny _ _ (call (Value.builtin _) [Value.ref _, _]) _ _ _); k_dflt (refine' append_K ?k1 ?k2 ?k3 ?_ ?z; (case k1 => k_asm); (case k2 => k_asm); (case k3 => k_upd); (case z => (simp only [List.size_toArray]; rw [sizeLine_eq]; omega)); k_whole); intro h' F' N'; (try k_sweep)))
set_option maxHeartbeats 8000000 in
theorem cl_sepL (w : World) (β : BA) (π : PA) (kp : Tok) (lim : Int) (kl : Tok) (tm : Value) (pr : Int) (kr : Tok) (tvs : List Value) (i : Nat) (q : Addr) (z : Int) (frs : List Value) (nf : Nat) (ta : Addr) (fa fd fi : Nat) (kind : Str) (kt : Tok) (flim : Int) (flt : Tok) (fn : Int) (ft : Tok) (nm : Int) (nt : Tok) (fpr : Int) (fpt : Tok) (left : Value) (its : List Value) (nn : Nat) (c1 c2 c3 c4 c5 c6 c7 : Tok) (hlt : i < 1000) (hq0q : tvs[i]? = some (.ref q)) (hpd : π.pd < π.p ∧ π.p < π.fl) (hfr : frs.length < 1000) (hne : π.pd ≠ fa ∧ π.pd ≠ fd ∧ π.pd ≠ fi ∧ π.p ≠ fa ∧ π.p ≠ fd ∧ π.p ≠ fi ∧ π.fl ≠ fa ∧ π.fl ≠ fd ∧ π.fl ≠ fi ∧ fa ≠ fd ∧ fa ≠ fi ∧ fd ≠ fi) (hkd : kind = Str.ofString "list") (htm : tm = .ref ta) (hits : its.length < 1000) :
    Does w 500 8 [.ref π.p, .ref q] ((PL w.params β π (i : Int) kp lim kl tm pr kr ++ [(π.fl, listOf (frs ++ [Value.ref fa]).toArray nf)]) ++ [(fa, instObj 309 fd), (fd, FD w.params kind kt flim flt fn ft nm nt fpr fpt left fi c1 c2 c3 c4 c5 c6 c7), (fi, listOf its.toArray nn)])
     (fun h => h.IsList π.tl tvs.toArray ∧ TupTk h q (TK.pun .cma) z ∧ (∀ a ∈ [π.tl, q], a ∉ ((PL w.params β π (i : Int) kp lim kl tm pr kr ++ [(π.fl, listOf (frs ++ [Value.ref fa]).toArray nf)]) ++ [(fa, instObj 309 fd), (fd, FD w.params kind kt flim flt fn ft nm nt fpr fpt left fi c1 c2 c3 c4 c5 c6 c7), (fi, listOf its.toArray nn)]).map (·.1)))
     (fun h h' r => ∃ (kp' kl' k : Tok) (nn' : Nat), r = .int 0 k ∧ Has h' ((PL w.params β π ((i : Int) + 1) kp' 999 kl' (.ref ta) pr kr ++ [(π.fl, listOf (frs ++ [Value.ref fa]).toArray nf)]) ++ [(fa, instObj 309 fd), (fd, FD w.params (Str.ofString "list") kt flim flt fn ft nm nt fpr fpt left fi c1 c2 c3 c4 c5 c6 c7), (fi, listOf (its ++ [Value.ref ta]).toArray nn')])) := by
  walk_at "m fill"
  intro p loose mean mg mb A env outer A₀ base h₀ L m s Q E B F X N T hA hf hk hd hu hh hpre hret
  obtain ⟨ah, dp, fr, gd, un⟩ := A
  obtain rfl : fr = some (env :: outer) := hA
  obtain rfl : ah = none := hh
  replace hd : dp + _ < recursionLimit := hd
  replace hu : un + _ < cLine := hu
  obtain ⟨hl0, hq00, hno⟩ := hpre
  have hx0 : tvs[Int.toNat (i : Int)]? = some (.ref q) := hq0q
  obtain ⟨or1, or2⟩ := hpd
  obtain ⟨e1, e2, e3, e4, e5, e6, e7, e8, e9, e10, e11, e12⟩ := hne
  subst hkd
  subst htm
  refine wpAny_call ?_
  k_dflt (refine' enterD (binds := [(Str.ofString "self", .ref π.p), (Str.ofString "token", .ref q)]) ?k1 ?k2 ?k3 ?k4 ?k5 ?kA ?kF ?kK ?k6 ?k7 ?k8 ?k9 ?kB ?_ ?c2 ?c3 ?c4 ?c5; (case kA => walk_at "m frames"); (case kF => first | assumption | exact rfl); (case kK => first | assumption | exact rfl); (case k1 => k_asm); (case k2 => k_asm); (case k3 => k_asm); (case k4 => k_asm); (case k5 => k_asm); (case k6 => k_is); (case k7 => k_is); (case k8 => walk_at "m room"); (case k9 => first | exact BindsTo.of_eq rfl | exact binds_K (by k_in) rfl (by k_is) rfl rfl rfl); (case c5 => decide); (case kB => exact locs rfl); (case c2 => exact rfl); (case c3 => exact rfl); (case c4 => exact rfl); k_whole)
  intro g L' h₁ F' N' B' X' T' hg hgs
  k_fold
  have hl := list_base hl0 hg (hno _ (by simp))
  obtain ⟨ka0, kb0, kc0, hq00⟩ := hq00
  have hqg0 := hg _ _ hq00 (hno _ (by simp))
  have hqt0 : IsTup g q [.str (Str.ofString "punct") ka0, .str (Sg.str .cma) kb0, .int z kc0].toArray := ⟨_, hqg0, rfl, _, rfl⟩
  have htk0 : TupTk g q (TK.pun .cma) z := ⟨_, _, _, hqg0⟩
  dsimp only [List.cons_append, List.nil_append] at N'
  k_steps
  rename News g L' _ _ => N9
  simp only [List.push_toArray] at N9
  show Q _ _
  refine hret _ _ _ (fun b o e n => Fr.keep (by assumption) b o (hg b o e n)) ?_
  refine' ⟨_, _, _, _, rfl, ?has⟩
  case has => exact has_app (has_app (by walk_at "m has") (by walk_at "m has")) (by walk_at "m has")
end

theorem tick49 {prog : Program} {w : World} {A : Around} {E : Value → Shared → Prop} {s : Shared} {env : Env} {Q : Flow → Shared → Prop} (h : Q .next s) : wpAny (model prog w) A (execs [] env) Q E s := by
  first | (walk1; exact h) | exact wpAny_execs_nil h
section
local macro_rules | `(tactic| walk_at "subscriptTail Attribute Name UnaryOp") => `(tactic| (k_here; (with_reducible show wpAny _ _ (subscriptTail _ _ (Value.ref _) (Value.int _ _)) _ _ _); (with_unfolding_all refine' item_last ?k1 ?_ ?k6; (case k1 => exact News.isList (by assumption) (by k_mem)); (case k6 => with_unfolding_all rfl); k_whole)))
local macro_rules | `(tactic| walk_at "call builtin:list.append") => `(tactic| (k_here; (with_reducible show wpAny _ _ (call (Value.builtin _) [Value.ref _, _]) _ _ _); k_dflt (refine' append_K ?k1 ?k2 ?k3 ?_ ?z; (case k1 => k_asm); (case k2 => k_asm); (case k3 => k_upd); (case z => (simp only [List.size_toArray]; rw [sizeLine_eq]; omega)); k_whole); intro h' F' N'; (try k_sweep)))
set_option maxHeartbeats 8000000 in
theorem cl_sepT (w : World) (β : BA) (π : PA) (kp : Tok) (lim : Int) (kl : Tok) (tm : Value) (pr : Int) (kr : Tok) (tvs : List Value) (i : Nat) (q : Addr) (z : Int) (frs : List Value) (nf : Nat) (ta : Addr) (fa fd fi : Nat) (kind : Str) (kt : Tok) (flim : Int) (flt : Tok) (fn : Int) (ft : Tok) (nm : Int) (nt : Tok) (fpr : Int) (fpt : Tok) (left : Value) (its : List Value) (nn : Nat) (c1 c2 c3 c4 c5 c6 c7 : Tok) (hlt : i < 1000) (hq0q : tvs[i]? = some (.ref q)) (hpd : π.pd < π.p ∧ π.p < π.fl) (hfr : frs.length < 1000) (hne : π.pd ≠ fa ∧ π.pd ≠ fd ∧ π.pd ≠ fi ∧ π.p ≠ fa ∧ π.p ≠ fd ∧ π.p ≠ fi ∧ π.fl ≠ fa ∧ π.fl ≠ fd ∧ π.fl ≠ fi ∧ fa ≠ fd ∧ fa ≠ fi ∧ fd ≠ fi) (hkd : kind = Str.ofString "list") (htm : tm = .ref ta) (hits : its.length < 1000) :
    Does w 500 8 [.ref π.p, .ref q] ((PL w.params β π (i : Int) kp lim kl tm pr kr ++ [(π.fl, listOf (frs ++ [Value.ref fa]).toArray nf)]) ++ [(fa, instObj 309 fd), (fd, FD w.params kind kt flim flt fn ft nm nt fpr fpt left fi c1 c2 c3 c4 c5 c6 c7), (fi, listOf its.toArray nn)])
     (fun h => h.IsList π.tl tvs.toArray ∧ TupTk h q (TK.pun .bar) z ∧ (∀ a ∈ [π.tl, q], a ∉ ((PL w.params β π (i : Int) kp lim kl tm pr kr ++ [(π.fl, listOf (frs ++ [Value.ref fa]).toArray nf)]) ++ [(fa, instObj 309 fd), (fd, FD w.params kind kt flim flt fn ft nm nt fpr fpt left fi c1 c2 c3 c4 c5 c6 c7), (fi, listOf its.toArray nn)]).map (·.1)))
     (fun h h' r => ∃ (kp' kl' k kt' : Tok) (nn' : Nat), r = .int 0 k ∧ Has h' ((PL w.params β π ((i : Int) + 1) kp' 999 kl' (.ref ta) pr kr ++ [(π.fl, listOf (frs ++ [Value.ref fa]).toArray nf)]) ++ [(fa, instObj 309 fd), (fd, FD w.params (Str.ofString "tail") kt' flim flt fn ft nm nt fpr fpt left fi c1 c2 c3 c4 c5 c6 c7), (fi, listOf (its ++ [Value.ref ta]).toArray nn')])) := by
  walk_at "m fill"
  intro p loose mean mg mb A env outer A₀ base h₀ L m s Q E B F X N T hA hf hk hd hu hh hpre hret
  obtain ⟨ah, dp, fr, gd, un⟩ := A
  obtain rfl : fr = some (env :: outer) := hA
  obtain rfl : ah = none := hh
  replace hd : dp + _ < recursionLimit := hd
  replace hu : un + _ < cLine := hu
  obtain ⟨hl0, hq00, hno⟩ := hpre
  have hx0 : tvs[Int.toNat (i : Int)]? = some (.ref q) := hq0q
  obtain ⟨or1, or2⟩ := hpd
  obtain ⟨e1, e2, e3, e4, e5, e6, e7, e8, e9, e10, e11, e12⟩ := hne
  subst hkd
  subst htm
  refine wpAny_call ?_
  k_dflt (refine' enterD (binds := [(Str.ofString "self", .ref π.p), (Str.ofString "token", .ref q)]) ?k1 ?k2 ?k3 ?k4 ?k5 ?kA ?kF ?kK ?k6 ?k7 ?k8 ?k9 ?kB ?_ ?c2 ?c3 ?c4 ?c5; (case kA => walk_at "m frames"); (case kF => first | assumption | exact rfl); (case kK => first | assumption | exact rfl); (case k1 => k_asm); (case k2 => k_asm); (case k3 => k_asm); (case k4 => k_asm); (case k5 => k_asm); (case k6 => k_is); (case k7 => k_is); (case k8 => walk_at "m room"); (case k9 => first | exact BindsTo.of_eq rfl | exact binds_K (by k_in) rfl (by k_is) rfl rfl rfl); (case c5 => decide); (case kB => exact locs rfl); (case c2 => exact rfl); (case c3 => exact rfl); (case c4 => exact rfl); k_whole)
  intro g L' h₁ F' N' B' X' T' hg hgs
  k_fold
  have hl := list_base hl0 hg (hno _ (by simp))
  obtain ⟨ka0, kb0, kc0, hq00⟩ := hq00
  have hqg0 := hg _ _ hq00 (hno _ (by simp))
  have hqt0 : IsTup g q [.str (Str.ofString "punct") ka0, .str (Sg.str .bar) kb0, .int z kc0].toArray := ⟨_, hqg0, rfl, _, rfl⟩
  have htk0 : TupTk g q (TK.pun .bar) z := ⟨_, _, _, hqg0⟩
  dsimp only [List.cons_append, List.nil_append] at N'
  k_steps
  rename News g L' _ _ => N9
  simp only [List.push_toArray] at N9
  show Q _ _
  refine hret _ _ _ (fun b o e n => Fr.keep (by assumption) b o (hg b o e n)) ?_
  refine' ⟨_, _, _, _, _, rfl, ?has⟩
  case has => exact has_app (has_app (by walk_at "m has") (by walk_at "m has")) (by walk_at "m has")
end

theorem tick50 {prog : Program} {w : World} {A : Around} {E : Value → Shared → Prop} {s : Shared} {env : Env} {Q : Flow → Shared → Prop} (h : Q .next s) : wpAny (model prog w) A (execs [] env) Q E s := by
  first | (walk1; exact h) | exact wpAny_execs_nil h
section
local macro_rules | `(tactic| walk_at "subscriptTail Attribute Name UnaryOp") => `(tactic| (k_here; (with_reducible show wpAny _ _ (subscriptTail _ _ (Value.ref _) (Value.int _ _)) _ _ _); (with_unfolding_all refine' item_last ?k1 ?_ ?k6; (case k1 => exact News.isList (by assumption) (by k_mem)); (case k6 => with_unfolding_all rfl); k_whole)))
local macro_rules | `(tactic| walk_at "call ref") => `(tactic| (k_here; (with_reducible show wpAny _ _ (call (Value.ref 195) _) _ _ _); refine hold ?_))
local macro_rules | `(tactic| k_all) => `(tactic| exact tups_off (by assumption) (by walk_at "m rest") (by assumption) (by k_mem) (by first | exact list_noTup _ _ | exact dict_noTup _ _))
local macro_rules | `(tactic| walk_at "binaryOp Add ref ref") => `(tactic| (k_here; (with_reducible show wpAny _ _ (binaryOp _ (Value.ref _) (Value.ref _)) _ _ _); k_dflt (refine' add_K ?k1 ?k2 ?k3 ?k4 ?z ?_; (case k1 => k_asm); (case k2 => k_asm); (case k3 => walk_at "m list"); (case k4 => walk_at "m list"); (case z => (simp only [List.length_cons, List.length_nil]; omega)); k_whole); intro D' h' F' N' l1; (try k_lt l1); (try k_sweep)))
set_option maxHeartbeats 8000000 in
theorem cl_tail (w : World) (β : BA) (π : PA) (kp : Tok) (lim : Int) (kl : Tok) (tm : Value) (pr : Int) (kr : Tok) (tvs : List Value) (i : Nat) (q : Addr) (z : Int) (frs : List Value) (nf : Nat) (ta : Addr) (fa fd fi : Nat) (kind : Str) (kt : Tok) (flim : Int) (flt : Tok) (fn : Int) (ft : Tok) (nm : Int) (nt : Tok) (fpr : Int) (fpt : Tok) (left : Value) (its : List Value) (nn : Nat) (c1 c2 c3 c4 c5 c6 c7 : Tok) (tx : List Str) (fs : List (Int × Int)) (ts : List T) (t0 : T) (hlt : i < 1000) (hq0q : tvs[i]? = some (.ref q)) (hpd : π.pd < π.p ∧ π.p < π.fl) (hfr : frs.length < 1000) (hne : π.pd ≠ fa ∧ π.pd ≠ fd ∧ π.pd ≠ fi ∧ π.p ≠ fa ∧ π.p ≠ fd ∧ π.p ≠ fi ∧ π.fl ≠ fa ∧ π.fl ≠ fd ∧ π.fl ≠ fi ∧ fa ≠ fd ∧ fa ≠ fi ∧ fd ≠ fi) (hkd : kind = Str.ofString "tail") (htm : tm = .ref ta) (hits : its.length < 999) :
    Does w 500 8 [.ref π.p, .ref q] ((PL w.params β π (i : Int) kp lim kl tm pr kr ++ [(π.fl, listOf (frs ++ [Value.ref fa]).toArray nf)]) ++ [(fa, instObj 309 fd), (fd, FD w.params kind kt flim flt fn ft nm nt fpr fpt left fi c1 c2 c3 c4 c5 c6 c7), (fi, listOf its.toArray nn)])
     (fun h => (TermsAt tx fs h ts its ∧ TermAt tx fs h t0 (.ref ta)) ∧ h.IsList π.tl tvs.toArray ∧ TupTk h q (TK.pun .rb) z ∧ (∀ a ∈ [π.tl, q], a ∉ ((PL w.params β π (i : Int) kp lim kl tm pr kr ++ [(π.fl, listOf (frs ++ [Value.ref fa]).toArray nf)]) ++ [(fa, instObj 309 fd), (fd, FD w.params kind kt flim flt fn ft nm nt fpr fpt left fi c1 c2 c3 c4 c5 c6 c7), (fi, listOf its.toArray nn)]).map (·.1)))
     (fun h h' r => ∃ (kp' kl' kr' k : Tok) (nf' : Nat) (t : Addr), r = .int 1 k ∧ Has h' (PL w.params β π ((i : Int) + 1) kp' flim kl' (.ref t) 0 kr' ++ [(π.fl, listOf frs.toArray nf')]) ∧ TermAt tx fs h' (dots ts t0) (.ref t)) := by
  walk_at "m fill"
  intro p loose mean mg mb A env outer A₀ base h₀ L m s Q E B F X N T hA hf hk hd hu hh hpre hret
  obtain ⟨ah, dp, fr, gd, un⟩ := A
  obtain rfl : fr = some (env :: outer) := hA
  obtain rfl : ah = none := hh
  replace hd : dp + _ < recursionLimit := hd
  replace hu : un + _ < cLine := hu
  obtain ⟨hok, hl0, hq00, hno⟩ := hpre
  have hx0 : tvs[Int.toNat (i : Int)]? = some (.ref q) := hq0q
  obtain ⟨or1, or2⟩ := hpd
  obtain ⟨e1, e2, e3, e4, e5, e6, e7, e8, e9, e10, e11, e12⟩ := hne
  subst hkd
  subst htm
  refine wpAny_call ?_
  k_dflt (refine' enterD (binds := [(Str.ofString "self", .ref π.p), (Str.ofString "token", .ref q)]) ?k1 ?k2 ?k3 ?k4 ?k5 ?kA ?kF ?kK ?k6 ?k7 ?k8 ?k9 ?kB ?_ ?c2 ?c3 ?c4 ?c5; (case kA => walk_at "m frames"); (case kF => first | assumption | exact rfl); (case kK => first | assumption | exact rfl); (case k1 => k_asm); (case k2 => k_asm); (case k3 => k_asm); (case k4 => k_asm); (case k5 => k_asm); (case k6 => k_is); (case k7 => k_is); (case k8 => walk_at "m room"); (case k9 => first | exact BindsTo.of_eq rfl | exact binds_K (by k_in) rfl (by k_is) rfl rfl rfl); (case c5 => decide); (case kB => exact locs rfl); (case c2 => exact rfl); (case c3 => exact rfl); (case c4 => exact rfl); k_whole)
  intro g L' h₁ F' N' B' X' T' hg hgs
  k_fold
  have hl := list_base hl0 hg (hno _ (by simp))
  obtain ⟨ka0, kb0, kc0, hq00⟩ := hq00
  have hqg0 := hg _ _ hq00 (hno _ (by simp))
  have hqt0 : IsTup g q [.str (Str.ofString "punct") ka0, .str (Sg.str .rb) kb0, .int z kc0].toArray := ⟨_, hqg0, rfl, _, rfl⟩
  have htk0 : TupTk g q (TK.pun .rb) z := ⟨_, _, _, hqg0⟩
  dsimp only [List.cons_append, List.nil_append] at N'
  have ktg : KeepT s.heap g := keepT_of hg (fun p hp => (N p hp).1) (((PL_noTup _ _ _ _ _ _ _ _ _ _).app (fun p hp => by rw [List.mem_singleton.mp hp]; exact list_noTup _ _)).app (List.forall_mem_cons.mpr ⟨inst_noTup _ _, List.forall_mem_cons.mpr ⟨dict_noTup _ _, List.forall_mem_cons.mpr ⟨list_noTup _ _, List.forall_mem_nil _⟩⟩⟩))
  have htsg := TermsAt.keep (List.prefix_refl _) (List.prefix_refl _) ktg _ _ hok.1
  have ht0g := TermAt.keep (List.prefix_refl _) (List.prefix_refl _) ktg _ _ hok.2
  k_steps
  unfold Hold
  rename News g L' _ _ => N5
  rename Fr g L' _ _ => F5
  k_dflt (refine' use_pure (does_lt2 w tx fs fi its ts ta t0 (by omega)) ?k1 ?k2 ?k3 N5 ?k5 ?kA ?kf ?kk ?kd ?ku ?kh ?kp ?_; walk_at "m fin")
  case kp => exact ⟨News.isList N5 (by k_mem), TermsAt.keep (List.prefix_refl _) (List.prefix_refl _) (.of_keep (Fr.keep F5)) _ _ htsg, TermAt.keep (List.prefix_refl _) (List.prefix_refl _) (.of_keep (Fr.keep F5)) _ _ ht0g⟩
  intro r h' tk' F6 N6 hR
  obtain ⟨tr, rfl⟩ := hR.ref
  obtain ⟨im, N7, hIm, hTup⟩ := fresh_tups (own := [_, _, _, _, _, _]) (im := []) F6 (by simpa using N6)
  dsimp only [List.nil_append, List.cons_append] at N7
  clear N5 F5 N6
  k_steps
  rename News g L' _ _ => N9
  rename Fr g L' _ _ => F9
  have hk9 := hIm _ _ F9 (fun p hp => (N9 p ((by walk_at "m rest" : ∀ p ∈ im, p ∈ _) p hp)).1)
  show Q _ _
  refine hret _ _ _ (fun b o e n => Fr.keep (by assumption) b o (hg b o e n)) ?_
  refine' ⟨_, _, _, _, _, _, rfl, ?has, ?t⟩
  case has => exact has_app (by walk_at "m has") (by walk_at "m has")
  case t => exact TermAt.keep (List.prefix_refl _) (List.prefix_refl _) hk9 _ _ hR
end

theorem tick51 {prog : Program} {w : World} {A : Around} {E : Value → Shared → Prop} {s : Shared} {env : Env} {Q : Flow → Shared → Prop} (h : Q .next s) : wpAny (model prog w) A (execs [] env) Q E s := by
  first | (walk1; exact h) | exact wpAny_execs_nil h
section
local macro_rules | `(tactic| walk_at "subscriptTail Attribute Name UnaryOp") => `(tactic| (k_here; (with_reducible show wpAny _ _ (subscriptTail _ _ (Value.ref _) (Value.int _ _)) _ _ _); (with_unfolding_all refine' item_last ?k1 ?_ ?k6; (case k1 => exact News.isList (by assumption) (by k_mem)); (case k6 => with_unfolding_all rfl); k_whole)))
local macro_rules | `(tactic| walk_at "call ref") => `(tactic| (k_here; (with_reducible show wpAny _ _ (call (Value.ref 195) _) _ _ _); refine hold ?_))
local macro_rules | `(tactic| k_all) => `(tactic| exact tups_off (by assumption) (by walk_at "m rest") (by assumption) (by k_mem) (by first | exact list_noTup _ _ | exact dict_noTup _ _))
local macro_rules | `(tactic| walk_at "binaryOp Add ref ref") => `(tactic| (k_here; (with_reducible show wpAny _ _ (binaryOp _ (Value.ref _) (Value.ref _)) _ _ _); k_dflt (refine' add_K ?k1 ?k2 ?k3 ?k4 ?z ?_; (case k1 => k_asm); (case k2 => k_asm); (case k3 => walk_at "m list"); (case k4 => walk_at "m list"); (case z => (simp only [List.length_cons, List.length_nil]; omega)); k_whole); intro D' h' F' N' l1; (try k_lt l1); (try k_sweep)))
set_option maxHeartbeats 8000000 in
theorem cl_list (w : World) (β : BA) (π : PA) (kp : Tok) (lim : Int) (kl : Tok) (tm : Value) (pr : Int) (kr : Tok) (tvs : List Value) (i : Nat) (q : Addr) (z : Int) (frs : List Value) (nf : Nat) (ta : Addr) (fa fd fi : Nat) (kind : Str) (kt : Tok) (flim : Int) (flt : Tok) (fn : Int) (ft : Tok) (nm : Int) (nt : Tok) (fpr : Int) (fpt : Tok) (left : Value) (its : List Value) (nn : Nat) (c1 c2 c3 c4 c5 c6 c7 : Tok) (tx : List Str) (fs : List (Int × Int)) (ts : List T) (t0 : T) (hlt : i < 1000) (hq0q : tvs[i]? = some (.ref q)) (hpd : π.pd < π.p ∧ π.p < π.fl) (hfr : frs.length < 1000) (hne : π.pd ≠ fa ∧ π.pd ≠ fd ∧ π.pd ≠ fi ∧ π.p ≠ fa ∧ π.p ≠ fd ∧ π.p ≠ fi ∧ π.fl ≠ fa ∧ π.fl ≠ fd ∧ π.fl ≠ fi ∧ fa ≠ fd ∧ fa ≠ fi ∧ fd ≠ fi) (hkd : kind = Str.ofString "list") (htm : tm = .ref ta) (hits : its.length < 999) :
    Does w 500 8 [.ref π.p, .ref q] ((PL w.params β π (i : Int) kp lim kl tm pr kr ++ [(π.fl, listOf (frs ++ [Value.ref fa]).toArray nf)]) ++ [(fa, instObj 309 fd), (fd, FD w.params kind kt flim flt fn ft nm nt fpr fpt left fi c1 c2 c3 c4 c5 c6 c7), (fi, listOf its.toArray nn)])
     (fun h => (TermsAt tx fs h ts its ∧ TermAt tx fs h t0 (.ref ta)) ∧ h.IsList π.tl tvs.toArray ∧ TupTk h q (TK.pun .rb) z ∧ (∀ a ∈ [π.tl, q], a ∉ ((PL w.params β π (i : Int) kp lim kl tm pr kr ++ [(π.fl, listOf (frs ++ [Value.ref fa]).toArray nf)]) ++ [(fa, instObj 309 fd), (fd, FD w.params kind kt flim flt fn ft nm nt fpr fpt left fi c1 c2 c3 c4 c5 c6 c7), (fi, listOf its.toArray nn)]).map (·.1)))
     (fun h h' r => ∃ (kp' kl' kr' k : Tok) (nf' : Nat) (t : Addr), r = .int 1 k ∧ Has h' (PL w.params β π ((i : Int) + 1) kp' flim kl' (.ref t) 0 kr' ++ [(π.fl, listOf frs.toArray nf')]) ∧ TermAt tx fs h' (dots (ts ++ [t0]) .nil) (.ref t)) := by
  walk_at "m fill"
  intro p loose mean mg mb A env outer A₀ base h₀ L m s Q E B F X N T hA hf hk hd hu hh hpre hret
  obtain ⟨ah, dp, fr, gd, un⟩ := A
  obtain rfl : fr = some (env :: outer) := hA
  obtain rfl : ah = none := hh
  replace hd : dp + _ < recursionLimit := hd
  replace hu : un + _ < cLine := hu
  obtain ⟨hok, hl0, hq00, hno⟩ := hpre
  have hx0 : tvs[Int.toNat (i : Int)]? = some (.ref q) := hq0q
  obtain ⟨or1, or2⟩ := hpd
  obtain ⟨e1, e2, e3, e4, e5, e6, e7, e8, e9, e10, e11, e12⟩ := hne
  subst hkd
  subst htm
  refine wpAny_call ?_
  k_dflt (refine' enterD (binds := [(Str.ofString "self", .ref π.p), (Str.ofString "token", .ref q)]) ?k1 ?k2 ?k3 ?k4 ?k5 ?kA ?kF ?kK ?k6 ?k7 ?k8 ?k9 ?kB ?_ ?c2 ?c3 ?c4 ?c5; (case kA => walk_at "m frames"); (case kF => first | assumption | exact rfl); (case kK => first | assumption | exact rfl); (case k1 => k_asm); (case k2 => k_asm); (case k3 => k_asm); (case k4 => k_asm); (case k5 => k_asm); (case k6 => k_is); (case k7 => k_is); (case k8 => walk_at "m room"); (case k9 => first | exact BindsTo.of_eq rfl | exact binds_K (by k_in) rfl (by k_is) rfl rfl rfl); (case c5 => decide); (case kB => exact locs rfl); (case c2 => exact rfl); (case c3 => exact rfl); (case c4 => exact rfl); k_whole)
  intro g L' h₁ F' N' B' X' T' hg hgs
  k_fold
  have hl := list_base hl0 hg (hno _ (by simp))
  obtain ⟨ka0, kb0, kc0, hq00⟩ := hq00
  have hqg0 := hg _ _ hq00 (hno _ (by simp))
  have hqt0 : IsTup g q [.str (Str.ofString "punct") ka0, .str (Sg.str .rb) kb0, .int z kc0].toArray := ⟨_, hqg0, rfl, _, rfl⟩
  have htk0 : TupTk g q (TK.pun .rb) z := ⟨_, _, _, hqg0⟩
  dsimp only [List.cons_append, List.nil_append] at N'
  have ktg : KeepT s.heap g := keepT_of hg (fun p hp => (N p hp).1) (((PL_noTup _ _ _ _ _ _ _ _ _ _).app (fun p hp => by rw [List.mem_singleton.mp hp]; exact list_noTup _ _)).app (List.forall_mem_cons.mpr ⟨inst_noTup _ _, List.forall_mem_cons.mpr ⟨dict_noTup _ _, List.forall_mem_cons.mpr ⟨list_noTup _ _, List.forall_mem_nil _⟩⟩⟩))
  have htsg := TermsAt.keep (List.prefix_refl _) (List.prefix_refl _) ktg _ _ hok.1
  have ht0g := TermAt.keep (List.prefix_refl _) (List.prefix_refl _) ktg _ _ hok.2
  k_steps
  unfold Hold
  rename News g L' _ _ => N5
  rename Fr g L' _ _ => F5
  k_dflt (refine' use_pure (does_lt1 w tx fs _ (its ++ [.ref ta]) (ts ++ [t0]) (by simp; omega)) ?k1 ?k2 ?k3 N5 ?k5 ?kA ?kf ?kk ?kd ?ku ?kh ?kp ?_; walk_at "m fin")
  case kp => exact ⟨by first | exact News.isList N5 (.head _) | (simpa using News.isList N5 (.head _)), TermsAt.app (TermsAt.keep (List.prefix_refl _) (List.prefix_refl _) (.of_keep (Fr.keep F5)) _ _ htsg) (TermsAt.one (TermAt.keep (List.prefix_refl _) (List.prefix_refl _) (.of_keep (Fr.keep F5)) _ _ ht0g))⟩
  intro r h' tk' F6 N6 hR
  obtain ⟨tr, rfl⟩ := hR.ref
  obtain ⟨im, N7, hIm, hTup⟩ := fresh_tups (own := [_, _, _, _, _, _, _, _]) (im := []) F6 (by simpa using N6)
  dsimp only [List.nil_append, List.cons_append] at N7
  clear N5 F5 N6
  k_steps
  rename News g L' _ _ => N9
  rename Fr g L' _ _ => F9
  have hk9 := hIm _ _ F9 (fun p hp => (N9 p ((by walk_at "m rest" : ∀ p ∈ im, p ∈ _) p hp)).1)
  show Q _ _
  refine hret _ _ _ (fun b o e n => Fr.keep (by assumption) b o (hg b o e n)) ?_
  refine' ⟨_, _, _, _, _, _, rfl, ?has, ?t⟩
  case has => exact has_app (by walk_at "m has") (by walk_at "m has")
  case t => exact TermAt.keep (List.prefix_refl _) (List.prefix_refl _) hk9 _ _ hR
end

theorem tick52 {prog : Program} {w : World} {A : Around} {E : Value → Shared → Prop} {s : Shared} {env : Env} {Q : Flow → Shared → Prop} (h : Q .next s) : wpAny (model prog w) A (execs [] env) Q E s := by
  first | (walk1; exact h) | exact wpAny_execs_nil h
section
local macro_rules | `(tactic| walk_at "subscriptTail Attribute Name UnaryOp") => `(tactic| (k_here; (with_reducible show wpAny _ _ (subscriptTail _ _ (Value.ref _) (Value.int _ _)) _ _ _); (with_unfolding_all refine' item_last ?k1 ?_ ?k6; (case k1 => exact News.isList (by assumption) (by k_mem)); (case k6 => with_unfolding_all rfl); k_whole)))
local macro_rules | `(tactic| k_all) => `(tactic| exact rest_off (by assumption) (by walk_at "m rest") (by k_mem) (by first | exact list_noTup _ _ | exact dict_noTup _ _) (by assumption) (by first | assumption | walk_at "m off9"))
local macro_rules | `(tactic| walk_at "call builtin:len") => `(tactic| (k_here; (with_reducible show wpAny _ _ (call (Value.builtin "len") [Value.ref _]) _ _ _); k_dflt (refine' call_len_list ?k1 ?k2 ?_; (case k1 => walk_at "m list"); (case k2 => (simp only [List.size_toArray, List.length_append, List.length_cons, List.length_nil]; omega)); k_whole)))
local macro_rules | `(tactic| walk_at "call type:tuple") => `(tactic| (k_here; (with_reducible show wpAny _ _ (call (Value.type _) [Value.ref _]) _ _ _); k_dflt (refine' tuple_K ?k1 ?k2 ?k3 ?k4 ?_; (case k1 => k_asm); (case k2 => k_asm); (case k3 => walk_at "m list"); (case k4 => (simp only [List.length_append, List.length_cons, List.length_nil]; omega)); k_whole); intro D' h' F' N' l1; (try k_lt l1); (try k_sweep)))
local macro_rules | `(tactic| walk_at "binaryOp Add ref ref") => `(tactic| (k_here; (with_reducible show wpAny _ _ (binaryOp _ (Value.ref _) (Value.ref _)) _ _ _); k_dflt (refine' add_K ?k1 ?k2 ?k3 ?k4 ?z ?_; (case k1 => k_asm); (case k2 => k_asm); (case k3 => walk_at "m list"); (case k4 => walk_at "m list"); (case z => (simp only [List.length_cons, List.length_nil]; omega)); k_whole); intro D' h' F' N' l1; (try k_lt l1); (try k_sweep)))
local macro_rules | `(tactic| walk_at "call ref") => `(tactic| (k_here; (with_reducible show wpAny _ _ (call (Value.ref 102) [_, _, _]) _ _ _); refine hold ?_))
set_option maxHeartbeats 8000000 in
theorem cl_args (w : World) (β : BA) (π : PA) (kp : Tok) (lim : Int) (kl : Tok) (tm : Value) (pr : Int) (kr : Tok) (tvs : List Value) (i : Nat) (q : Addr) (z : Int) (frs : List Value) (nf : Nat) (ta : Addr) (fa fd fi : Nat) (kind : Str) (kt : Tok) (flim : Int) (flt : Tok) (fn : Int) (ft : Tok) (nm : Int) (nt : Tok) (fpr : Int) (fpt : Tok) (left : Value) (its : List Value) (nn : Nat) (c1 c2 c3 c4 c5 c6 c7 : Tok) (c : BC) (j : Nat) (ts : List T) (t0 : T) (hlt : i < 1000) (hq0q : tvs[i]? = some (.ref q)) (hpd : π.pd < π.p ∧ π.p < π.fl) (hfr : frs.length < 1000) (hne : π.pd ≠ fa ∧ π.pd ≠ fd ∧ π.pd ≠ fi ∧ π.p ≠ fa ∧ π.p ≠ fd ∧ π.p ≠ fi ∧ π.fl ≠ fa ∧ π.fl ≠ fd ∧ π.fl ≠ fi ∧ fa ≠ fd ∧ fa ≠ fi ∧ fd ≠ fi) (hkd : kind = Str.ofString "args") (htm : tm = .ref ta) (hits : its.length < 999) (hnm : nm = (j : Int)) (hj : c.texts[j]? = some (Str.ofString "f")) (hsz : c.size < 100000) (hoff : ∀ a ∈ [π.p, π.pd, π.fl, fa, fd, fi], a ∉ (c.L w.params β).map (·.1)) :
    Does w 500 8 [.ref π.p, .ref q] (((PL w.params β π (i : Int) kp lim kl tm pr kr ++ [(π.fl, listOf (frs ++ [Value.ref fa]).toArray nf)]) ++ [(fa, instObj 309 fd), (fd, FD w.params kind kt flim flt fn ft nm nt fpr fpt left fi c1 c2 c3 c4 c5 c6 c7), (fi, listOf its.toArray nn)]) ++ c.L w.params β)
     (fun h => (c.Ok w h β ∧ TermsAt c.texts c.fns h ts its ∧ TermAt c.texts c.fns h t0 (.ref ta)) ∧ h.IsList π.tl tvs.toArray ∧ TupTk h q (TK.pun .rp) z ∧ (∀ a ∈ [π.tl, q], a ∉ (((PL w.params β π (i : Int) kp lim kl tm pr kr ++ [(π.fl, listOf (frs ++ [Value.ref fa]).toArray nf)]) ++ [(fa, instObj 309 fd), (fd, FD w.params kind kt flim flt fn ft nm nt fpr fpt left fi c1 c2 c3 c4 c5 c6 c7), (fi, listOf its.toArray nn)]) ++ c.L w.params β).map (·.1)))
     (fun h h' r => ∃ (c' : BC) (kp' kl' kr' k : Tok) (nf' : Nat) (t : Addr), r = .int 1 k ∧ c.Grow c' 1 ∧ c'.Ok w h' β ∧ Has h' ((PL w.params β π ((i : Int) + 1) kp' flim kl' (.ref t) 0 kr' ++ [(π.fl, listOf frs.toArray nf')]) ++ c'.L w.params β) ∧ TermAt c'.texts c'.fns h' (.f (ts ++ [t0])) (.ref t)) := by
  walk_at "m fill"
  intro p loose mean mg mb A env outer A₀ base h₀ L m s Q E B F X N T hA hf hk hd hu hh hpre hret
  obtain ⟨ah, dp, fr, gd, un⟩ := A
  obtain rfl : fr = some (env :: outer) := hA
  obtain rfl : ah = none := hh
  replace hd : dp + _ < recursionLimit := hd
  replace hu : un + _ < cLine := hu
  obtain ⟨hok, hl0, hq00, hno⟩ := hpre
  have hx0 : tvs[Int.toNat (i : Int)]? = some (.ref q) := hq0q
  obtain ⟨or1, or2⟩ := hpd
  obtain ⟨e1, e2, e3, e4, e5, e6, e7, e8, e9, e10, e11, e12⟩ := hne
  subst hkd
  subst htm
  subst hnm
  have ho1 := hoff π.pd (by simp)
  have ho2 := hoff π.fl (by simp)
  refine wpAny_call ?_
  k_dflt (refine' enterD (binds := [(Str.ofString "self", .ref π.p), (Str.ofString "token", .ref q)]) ?k1 ?k2 ?k3 ?k4 ?k5 ?kA ?kF ?kK ?k6 ?k7 ?k8 ?k9 ?kB ?_ ?c2 ?c3 ?c4 ?c5; (case kA => walk_at "m frames"); (case kF => first | assumption | exact rfl); (case kK => first | assumption | exact rfl); (case k1 => k_asm); (case k2 => k_asm); (case k3 => k_asm); (case k4 => k_asm); (case k5 => k_asm); (case k6 => k_is); (case k7 => k_is); (case k8 => walk_at "m room"); (case k9 => first | exact BindsTo.of_eq rfl | exact binds_K (by k_in) rfl (by k_is) rfl rfl rfl); (case c5 => decide); (case kB => exact locs rfl); (case c2 => exact rfl); (case c3 => exact rfl); (case c4 => exact rfl); k_whole)
  intro g L' h₁ F' N' B' X' T' hg hgs
  k_fold
  have hl := list_base hl0 hg (hno _ (by simp))
  obtain ⟨ka0, kb0, kc0, hq00⟩ := hq00
  have hqg0 := hg _ _ hq00 (hno _ (by simp))
  have hqt0 : IsTup g q [.str (Str.ofString "punct") ka0, .str (Sg.str .rp) kb0, .int z kc0].toArray := ⟨_, hqg0, rfl, _, rfl⟩
  have htk0 : TupTk g q (TK.pun .rp) z := ⟨_, _, _, hqg0⟩
  have ktg : KeepT s.heap g := keepT_of hg (fun p hp => (N p hp).1) ((((PL_noTup _ _ _ _ _ _ _ _ _ _).app (fun p hp => by rw [List.mem_singleton.mp hp]; exact list_noTup _ _)).app (List.forall_mem_cons.mpr ⟨inst_noTup _ _, List.forall_mem_cons.mpr ⟨dict_noTup _ _, List.forall_mem_cons.mpr ⟨list_noTup _ _, List.forall_mem_nil _⟩⟩⟩)).app (hok.1.noTup _))
  have htsg := TermsAt.keep (List.prefix_refl _) (List.prefix_refl _) ktg _ _ hok.2.1
  have ht0g := TermAt.keep (List.prefix_refl _) (List.prefix_refl _) ktg _ _ hok.2.2
  have okg := hok.1.keepT ktg
  replace N' := rest_start' N'
  dsimp only [List.cons_append, List.nil_append] at N'
  have hTup0 : ∀ p ∈ ([] : List (Addr × Obj)), isTup p.2 := fun _ q => nomatch q
  k_steps
  unfold Hold
  rename News g L' _ _ => N5
  rename Fr g L' _ _ => F5
  k_dflt (refine' use_bk (own := [_, _, _, _, _, _, _, _]) (n := 1) (does_functor w β c _ _ _ _ hsz) ?k1 ?k2 ?k3 N5 ?k5 ?kA ?kf ?kk ?kd ?ku ?kh ?ko True.intro ?kx ?_; walk_at "m fin"; (case ko => walk_at "m ok"); (case kx => exact List.forall_mem_cons.mpr ⟨by walk_at "m off9", List.forall_mem_cons.mpr ⟨by walk_at "m off9", off_own hoff rfl⟩⟩))
  intro r h' tk' c' im' F' N' hIm hT hO hG hKT hR
  obtain ⟨n, tn, rfl, hx⟩ := hR
  dsimp only [List.nil_append, List.cons_append] at N'
  clear N5 F5
  k_steps
  rename News g L' _ _ => N9
  rename Fr g L' _ _ => F9
  have hk9 : KeepT _ _ := hIm _ _ F9 (fun p hp => (N9 p ((by walk_at "m tail" : ∀ p ∈ im', p ∈ _) p hp)).1)
  have htg9 : KeepT g _ := .of_keep (Fr.keep F9)
  show Q _ _
  refine hret _ _ _ (fun b o e n => Fr.keep (by assumption) b o (hg b o e n)) ?_
  refine' ⟨c', _, _, _, _, _, _, rfl, hG, hO.keepT hk9, ?has, ?t⟩
  case has => exact has_app (has_app (by walk_at "m has") (by walk_at "m has")) (fun p hp => (N9 p (by repeat (first | exact rest_bk p hp | refine List.Mem.tail _ ?_))).1)
  case t =>
    rw [TermAt]
    exact ⟨n, j, _, _, _, _, _, rfl, News.isTup N9 (by k_mem), News.isTup N9 (by k_mem), by rw [hx]; simp [htsg.length], prefix_get hG.texts hj, TermsAt.app (TermsAt.keep hG.texts hG.fns htg9 _ _ htsg) (TermsAt.one (TermAt.keep hG.texts hG.fns htg9 _ _ ht0g))⟩
end

theorem Does.more {w : World} {f : Addr} {cost : Nat} {vs : List Value} {ms : List (Addr × Obj)} {Pre Pre' : Heap → Prop} {P : Heap → Heap → Value → Prop} (D : Does w f cost vs ms Pre P) (ALL : List (Addr × Obj)) (hs : ∀ p ∈ ms, p ∈ ALL) (hp : ∀ h, Pre' h → Pre h) :
    Does w f cost vs ALL (fun h => Pre' h) (fun h h' r => P h h' r ∧ Keep (ms.map (·.1)) h h' ∧ Has h ALL ∧ Pre' h) :=
  fun p loose mean mg mb A env outer A₀ base h₀ L m s Q E B F X N T hA hf hk hd hu hh hpre hret => D p loose mean mg mb A env outer A₀ base h₀ L m s Q E B F X (sub_news N hs) T hA hf hk hd hu hh (hp _ hpre)
    fun r h' tk' k q => hret r h' tk' (k.mono fun a ha => map_sub hs ha) ⟨q, k, fun p hp => (N p hp).1, hpre⟩
def misKind (d : TK) (os : Str) : Str := if cloT d then Str.ofString "unbalanced" else if (match d with | .pun x => x.sep | _ => false) then Str.ofString "unexpected_token" else os

theorem does_mis (w : World) (β : BA) (π : PA) (kp : Tok) (lim : Int) (kl : Tok) (tm : Value) (pr : Int) (kr : Tok) (tvs : List Value) (i : Nat) (q : Addr) (z : Int) (d : TK) (ω : OA) (c : BC) (os : Str) (ot : Tok) (hlt : i < 1000) (hq0q : tvs[i]? = some (.ref q)) (hpd : π.pd < π.p) (hoO : OOk w ω) (hord : ω.od < π.o ∧ π.o < ω.pf ∧ ω.pf < ω.nf ∧ ω.nf < ω.qf ∧ ω.qf < π.pd) (hsz : c.size < 100000) (h7 : c.texts[7]? = some (Str.ofString ",")) (hoff : ∀ a ∈ [π.p, π.pd, π.o, ω.od, ω.pf, ω.nf, ω.qf], a ∉ (c.L w.params β).map (·.1)) :
    Does w 390 8 [.ref π.p, .ref q, .str os ot] ((PL w.params β π (i : Int) kp lim kl tm pr kr ++ OL w.params β π.o ω) ++ c.L w.params β)
     (fun h => c.Ok w h β ∧ h.IsList π.tl tvs.toArray ∧ TupTk h q d z ∧ (∀ a ∈ [π.tl, q], a ∉ ((PL w.params β π (i : Int) kp lim kl tm pr kr ++ OL w.params β π.o ω) ++ c.L w.params β).map (·.1)))
     (fun h h' r => ∃ (c' : BC), c.Grow c' 1 ∧ c'.Ok w h' β ∧ Has h' ((PL w.params β π (i : Int) kp lim kl tm pr kr ++ OL w.params β π.o ω) ++ c'.L w.params β) ∧ ∃ e dx od mA ns, FaultAt h h' r (misKind d os) z e dx od mA ns) := by
  obtain ⟨r1, r2, r3, r4, r5⟩ := hord
  have fr : ∀ {k : Str}, k = misKind d os → Does w 390 8 [.ref π.p, .ref q, .str os ot] (PL w.params β π (i : Int) kp lim kl tm pr kr) (fun h => h.IsList π.tl tvs.toArray ∧ TupTk h q d z ∧ (∀ a ∈ [π.tl, q], a ∉ (PL w.params β π (i : Int) kp lim kl tm pr kr).map (·.1))) (fun h h' r => Has h' (PL w.params β π (i : Int) kp lim kl tm pr kr) ∧ ∃ e dx od mA ns, FaultAt h h' r k z e dx od mA ns) →
      Does w 390 8 [.ref π.p, .ref q, .str os ot] ((PL w.params β π (i : Int) kp lim kl tm pr kr ++ OL w.params β π.o ω) ++ c.L w.params β) (fun h => c.Ok w h β ∧ h.IsList π.tl tvs.toArray ∧ TupTk h q d z ∧ (∀ a ∈ [π.tl, q], a ∉ ((PL w.params β π (i : Int) kp lim kl tm pr kr ++ OL w.params β π.o ω) ++ c.L w.params β).map (·.1)))
       (fun h h' r => ∃ (c' : BC), c.Grow c' 1 ∧ c'.Ok w h' β ∧ Has h' ((PL w.params β π (i : Int) kp lim kl tm pr kr ++ OL w.params β π.o ω) ++ c'.L w.params β) ∧ ∃ e dx od mA ns, FaultAt h h' r (misKind d os) z e dx od mA ns) := by
    intro k hk D
    subst hk
    refine (D.more ((PL w.params β π (i : Int) kp lim kl tm pr kr ++ OL w.params β π.o ω) ++ c.L w.params β) (fun p hp => List.mem_append_left _ (List.mem_append_left _ hp)) (fun h x => ⟨x.2.1, x.2.2.1, fun a ha hm => x.2.2.2 a ha (map_sub (fun p hp => List.mem_append_left _ (List.mem_append_left _ hp)) hm)⟩)).post ?_
    rintro h h' r ⟨⟨hP, hF⟩, hK, hA, hok, _⟩
    have hPL : ∀ a, a ∈ (PL w.params β π (i : Int) kp lim kl tm pr kr).map (·.1) → a = π.p ∨ a = π.pd := fun a ha => by simpa using ha
    refine ⟨c, (BC.Grow.refl c).le (by omega), hok.keepT (keepT_of hK (fun p hp => hA p (List.mem_append_left _ (List.mem_append_left _ hp))) (PL_noTup _ _ _ _ _ _ _ _ _ _)), has_app (has_app hP fun p hp => hK _ _ (hA p (List.mem_append_left _ (List.mem_append_right _ hp))) fun hm => ?_) (fun p hp => hK _ _ (hA p (List.mem_append_right _ hp)) fun hm => ?_), hF⟩
    · have := hPL _ hm
      simp only [OL, List.mem_cons, List.mem_nil_iff, or_false] at hp
      rcases hp with rfl | rfl | rfl | rfl | rfl <;> (dsimp only at this; omega)
    · rcases hPL _ hm with e | e
      · exact hoff π.p (by simp) (e ▸ List.mem_map_of_mem hp)
      · exact hoff π.pd (by simp) (e ▸ List.mem_map_of_mem hp)
  have nam : ∀ xt : Str, d.kind = Str.ofString "name" → (∀ t, d.val t = .str xt t) → xt ≠ Str.ofString "," → cloT d = false → misKind d os = os → _ := fun xt e1 e2 e3 e4 e5 => mis_nam w β π kp lim kl tm pr kr tvs i q z d xt ω c os ot hlt hq0q hpd hoO ⟨r1, r2, r3, r4, r5⟩ hsz h7 hoff e1 e2 e3 e4
  cases d with
  | fin => exact fr rfl (mis_clo w β π kp lim kl tm pr kr tvs i q z _ os ot hlt hq0q hpd rfl)
  | int7 => exact fr rfl (mis_oth w β π kp lim kl tm pr kr tvs i q z _ os ot hlt hq0q hpd rfl (by decide +kernel) (by decide +kernel) (by decide +kernel) rfl rfl)
  | opn => exact fr rfl (mis_oth w β π kp lim kl tm pr kr tvs i q z _ os ot hlt hq0q hpd rfl (by decide +kernel) (by decide +kernel) (by decide +kernel) rfl rfl)
  | opc => exact fr rfl (mis_oth w β π kp lim kl tm pr kr tvs i q z _ os ot hlt hq0q hpd rfl (by decide +kernel) (by decide +kernel) (by decide +kernel) rfl rfl)
  | namA => exact nam (Str.ofString "a") rfl (fun _ => rfl) (by decide) rfl rfl
  | namF => exact nam (Str.ofString "f") rfl (fun _ => rfl) (by decide) rfl rfl
  | pun x =>
    by_cases hc : cloT (.pun x) = true
    · exact fr (by simp only [misKind, hc, if_true]) (mis_clo w β π kp lim kl tm pr kr tvs i q z _ os ot hlt hq0q hpd hc)
    · rw [Bool.not_eq_true] at hc
      by_cases hs : x.sep = true
      · exact fr (by simp only [misKind, hc, hs, if_true, Bool.false_eq_true, if_false]) (mis_sep w β π kp lim kl tm pr kr tvs i q z x os ot hlt hq0q hpd hc (by rw [sep_any]; exact hs))
      · rw [Bool.not_eq_true] at hs
        exact fr (by simp only [misKind, hc, hs, Bool.false_eq_true, if_false]) (mis_pun w β π kp lim kl tm pr kr tvs i q z x os ot hlt hq0q hpd hc (by rw [sep_any]; exact hs) (by cases x <;> first | rfl | decide +kernel | cases hs) (by cases x <;> first | rfl | decide +kernel | cases hs))

theorem tick53 {prog : Program} {w : World} {A : Around} {E : Value → Shared → Prop} {s : Shared} {env : Env} {Q : Flow → Shared → Prop} (h : Q .next s) : wpAny (model prog w) A (execs [] env) Q E s := by
  first | (walk1; exact h) | exact wpAny_execs_nil h
section
local macro_rules | `(tactic| walk_at "subscriptTail Attribute Name UnaryOp") => `(tactic| (k_here; (with_reducible show wpAny _ _ (subscriptTail _ _ (Value.ref _) (Value.int _ _)) _ _ _); (with_unfolding_all refine' item_last ?k1 ?_ ?k6; (case k1 => exact News.isList (by assumption) (by k_mem)); (case k6 => with_unfolding_all rfl); k_whole)))
local macro_rules | `(tactic| k_all) => `(tactic| exact rest_off (by assumption) (by walk_at "m rest") (by k_mem) (by first | exact list_noTup _ _ | exact dict_noTup _ _) (by assumption) (by first | assumption | walk_at "m off9"))
local macro_rules | `(tactic| walk_at "exec Raise some none") => `(tactic| (k_dflt (refine' raise_K ?k1 ?_; (case k1 => exact rfl); k_whole)))
local macro_rules | `(tactic| walk_at "call ref") => `(tactic| (k_here; (with_reducible show wpAny _ _ (call (Value.ref 390) _) _ _ _); refine hold ?_))
set_option maxHeartbeats 8000000 in
theorem cl_badR (w : World) (β : BA) (π : PA) (kp : Tok) (lim : Int) (kl : Tok) (tm : Value) (pr : Int) (kr : Tok) (tvs : List Value) (i : Nat) (q : Addr) (z : Int) (frs : List Value) (nf : Nat) (ta : Addr) (fa fd fi : Nat) (kind : Str) (kt : Tok) (flim : Int) (flt : Tok) (fn : Int) (ft : Tok) (nm : Int) (nt : Tok) (fpr : Int) (fpt : Tok) (left : Value) (its : List Value) (nn : Nat) (c1 c2 c3 c4 c5 c6 c7 : Tok) (d : TK) (ω : OA) (c : BC) (hlt : i < 1000) (hq0q : tvs[i]? = some (.ref q)) (hpd : π.pd < π.p ∧ π.p < π.fl) (hfr : frs.length < 1000) (hne : π.pd ≠ fa ∧ π.pd ≠ fd ∧ π.pd ≠ fi ∧ π.p ≠ fa ∧ π.p ≠ fd ∧ π.p ≠ fi ∧ π.fl ≠ fa ∧ π.fl ≠ fd ∧ π.fl ≠ fi ∧ fa ≠ fd ∧ fa ≠ fi ∧ fd ≠ fi) (hkd : kind = Str.ofString "round") (htm : tm = .ref ta) (hoO : OOk w ω) (hord : ω.od < π.o ∧ π.o < ω.pf ∧ ω.pf < ω.nf ∧ ω.nf < ω.qf ∧ ω.qf < π.pd) (hsz : c.size < 100000) (h7 : c.texts[7]? = some (Str.ofString ",")) (hoff : ∀ a ∈ [π.p, π.pd, π.o, ω.od, ω.pf, ω.nf, ω.qf, π.fl, fa, fd, fi], a ∉ (c.L w.params β).map (·.1)) (hno2 : ∀ a ∈ [π.fl, fa, fd, fi], a ∉ (OL w.params β π.o ω).map (·.1)) (hb0 : isP d (Str.ofString ")") = false) :
    DoesX w 500 14 [.ref π.p, .ref q] ((((PL w.params β π (i : Int) kp lim kl tm pr kr ++ [(π.fl, listOf (frs ++ [Value.ref fa]).toArray nf)]) ++ [(fa, instObj 309 fd), (fd, FD w.params kind kt flim flt fn ft nm nt fpr fpt left fi c1 c2 c3 c4 c5 c6 c7), (fi, listOf its.toArray nn)]) ++ OL w.params β π.o ω) ++ c.L w.params β)
     (fun h => c.Ok w h β ∧ h.IsList π.tl tvs.toArray ∧ TupTk h q d z ∧ (∀ a ∈ [π.tl, q], a ∉ ((((PL w.params β π (i : Int) kp lim kl tm pr kr ++ [(π.fl, listOf (frs ++ [Value.ref fa]).toArray nf)]) ++ [(fa, instObj 309 fd), (fd, FD w.params kind kt flim flt fn ft nm nt fpr fpt left fi c1 c2 c3 c4 c5 c6 c7), (fi, listOf its.toArray nn)]) ++ OL w.params β π.o ω) ++ c.L w.params β).map (·.1)))
     (fun h h' r => False) (fun _ kind9 z9 => kind9 = misKind d (Str.ofString "operator_expected") ∧ z9 = z) := by
  walk_at "m fill"
  intro p loose mean mg mb A env outer A₀ base h₀ L m s Q E B F X N T hA hf hk hd hu hh hpre hret hexc
  obtain ⟨ah, dp, fr, gd, un⟩ := A
  obtain rfl : fr = some (env :: outer) := hA
  obtain rfl : ah = none := hh
  replace hd : dp + _ < recursionLimit := hd
  replace hu : un + _ < cLine := hu
  obtain ⟨hok, hl0, hq00, hno⟩ := hpre
  have hx0 : tvs[Int.toNat (i : Int)]? = some (.ref q) := hq0q
  obtain ⟨or1, or2⟩ := hpd
  obtain ⟨e1, e2, e3, e4, e5, e6, e7, e8, e9, e10, e11, e12⟩ := hne
  subst hkd
  subst htm
  obtain ⟨r1, r2, r3, r4, r5⟩ := hord
  have ho1 := hoff π.pd (by simp)
  have ho2 := hoff π.fl (by simp)
  refine wpAny_call ?_
  k_dflt (refine' enterD (binds := [(Str.ofString "self", .ref π.p), (Str.ofString "token", .ref q)]) ?k1 ?k2 ?k3 ?k4 ?k5 ?kA ?kF ?kK ?k6 ?k7 ?k8 ?k9 ?kB ?_ ?c2 ?c3 ?c4 ?c5; (case kA => walk_at "m frames"); (case kF => first | assumption | exact rfl); (case kK => first | assumption | exact rfl); (case k1 => k_asm); (case k2 => k_asm); (case k3 => k_asm); (case k4 => k_asm); (case k5 => k_asm); (case k6 => k_is); (case k7 => k_is); (case k8 => walk_at "m room"); (case k9 => first | exact BindsTo.of_eq rfl | exact binds_K (by k_in) rfl (by k_is) rfl rfl rfl); (case c5 => decide); (case kB => exact locs rfl); (case c2 => exact rfl); (case c3 => exact rfl); (case c4 => exact rfl); k_whole)
  intro g L' h₁ F' N' B' X' T' hg hgs
  k_fold
  have hl := list_base hl0 hg (hno _ (by simp))
  obtain ⟨ka0, kb0, kc0, hq00⟩ := hq00
  have hqg0 := hg _ _ hq00 (hno _ (by simp))
  have hqt0 : IsTup g q [.str (TK.kind d) ka0, TK.val d kb0, .int z kc0].toArray := ⟨_, hqg0, rfl, _, rfl⟩
  have htk0 : TupTk g q d z := ⟨_, _, _, hqg0⟩
  have okg := hok.keepT (keepT_of hg (fun p hp => (N p hp).1) (((((PL_noTup _ _ _ _ _ _ _ _ _ _).app (fun p hp => by rw [List.mem_singleton.mp hp]; exact list_noTup _ _)).app (List.forall_mem_cons.mpr ⟨inst_noTup _ _, List.forall_mem_cons.mpr ⟨dict_noTup _ _, List.forall_mem_cons.mpr ⟨list_noTup _ _, List.forall_mem_nil _⟩⟩⟩)).app (hoO.noTup _ _ _)).app (hok.noTup _)))
  replace N' := rest_start' N'
  dsimp only [List.cons_append, List.nil_append] at N'
  have hTup0 : ∀ p ∈ ([] : List (Addr × Obj)), isTup p.2 := fun _ q => nomatch q
  k_steps
  unfold Hold
  rename News g L' _ _ => N5
  rename Fr g L' _ _ => F5
  k_dflt (refine' use_bk2 (own := [_, _, _, _, _, _, _, _, _, _, _]) (own1 := PL w.params β π (i : Int) kp lim kl (.ref ta) pr kr ++ OL w.params β π.o ω) (n := 1) ((does_mis w β π kp lim kl (.ref ta) pr kr tvs i q z d ω c (Str.ofString "operator_expected") _ hlt hq0q or1 hoO ⟨r1, r2, r3, r4, r5⟩ hsz h7 (fun a ha => hoff a (List.mem_append_left [π.fl, fa, fd, fi] ha))).post (fun _ _ _ ⟨c', a, b, d, e⟩ => ⟨c', a, d, b, e⟩)) ?k1 ?k2 ?k3 N5 ?k5 ?kA ?kf ?kk ?kd ?ku ?kh ?ko ?kp ?kx ?ks ?kn ?_; walk_at "m fin"; (case ko => walk_at "m ok"))
  case kp => exact ⟨Fr.lst F5 hl, TupTk.keep (Fr.keep F5) htk0, fun a ha hm => hno a ha (map_sub (fun p hp => (List.mem_append.mp hp).elim (fun q => (List.mem_append.mp q).elim (fun q => List.mem_append_left _ (List.mem_append_left _ (List.mem_append_left _ (List.mem_append_left _ q)))) (fun q => List.mem_append_left _ (List.mem_append_right _ q))) (fun q => List.mem_append_right _ q)) hm)⟩
  case kx => exact off_own (as := [π.p, π.pd, π.fl, fa, fd, fi, π.o, ω.od, ω.pf, ω.nf, ω.qf]) (fun a ha => hoff a (by simp only [List.mem_cons, List.mem_nil_iff, or_false] at ha ⊢; rcases ha with h | h | h | h | h | h | h | h | h | h | h <;> simp [h])) rfl
  case ks => exact fun p hp => (List.mem_append.mp hp).elim (fun q => List.mem_append_left (OL w.params β π.o ω) (List.mem_append_left [(fa, instObj 309 fd), (fd, FD w.params (Str.ofString "round") kt flim flt fn ft nm nt fpr fpt left fi c1 c2 c3 c4 c5 c6 c7), (fi, listOf its.toArray nn)] (List.mem_append_left [(π.fl, listOf (frs ++ [Value.ref fa]).toArray nf)] q))) (fun q => List.mem_append_right (((PL w.params β π (i : Int) kp lim kl (.ref ta) pr kr ++ [(π.fl, listOf (frs ++ [Value.ref fa]).toArray nf)]) ++ [(fa, instObj 309 fd), (fd, FD w.params (Str.ofString "round") kt flim flt fn ft nm nt fpr fpt left fi c1 c2 c3 c4 c5 c6 c7), (fi, listOf its.toArray nn)])) q)
  case kn => exact (PL_noTup _ _ _ _ _ _ _ _ _ _).app (hoO.noTup _ _ _)
  intro r h' tk' c' im' F6 N6 hIm hT hO hG hKT hR
  obtain ⟨e, dx, od9, mA, ns, fx⟩ := hR
  refine' raise_end ?b ?x ?f0 ?f ?flt ?hE ?hk
  case hk => exact rfl
  case b => exact B'
  case x => exact X'
  case f => exact F6
  case f0 => exact F5
  case flt => exact fx
  intro h'' hf hu
  show E _ _
  have kk : Keep (((((PL w.params β π (i : Int) kp lim kl (.ref ta) pr kr ++ [(π.fl, listOf (frs ++ [Value.ref fa]).toArray nf)]) ++ [(fa, instObj 309 fd), (fd, FD w.params (Str.ofString "round") kt flim flt fn ft nm nt fpr fpt left fi c1 c2 c3 c4 c5 c6 c7), (fi, listOf its.toArray nn)]) ++ OL w.params β π.o ω) ++ c.L w.params β).map (·.1)) s.heap _ := (fun b o e n => Fr.keep (by assumption) b o (hg b o e n))
  exact hexc e dx h'' _ _ _ hf (KeepU.of kk hu) (fx.flt.slots hu) ⟨rfl, rfl⟩
end

theorem tick54 {prog : Program} {w : World} {A : Around} {E : Value → Shared → Prop} {s : Shared} {env : Env} {Q : Flow → Shared → Prop} (h : Q .next s) : wpAny (model prog w) A (execs [] env) Q E s := by
  first | (walk1; exact h) | exact wpAny_execs_nil h
section
local macro_rules | `(tactic| walk_at "subscriptTail Attribute Name UnaryOp") => `(tactic| (k_here; (with_reducible show wpAny _ _ (subscriptTail _ _ (Value.ref _) (Value.int _ _)) _ _ _); (with_unfolding_all refine' item_last ?k1 ?_ ?k6; (case k1 => exact News.isList (by assumption) (by k_mem)); (case k6 => with_unfolding_all rfl); k_whole)))
local macro_rules | `(tactic| k_all) => `(tactic| exact rest_off (by assumption) (by walk_at "m rest") (by k_mem) (by first | exact list_noTup _ _ | exact dict_noTup _ _) (by assumption) (by first | assumption | walk_at "m off9"))
local macro_rules | `(tactic| walk_at "exec Raise some none") => `(tactic| (k_dflt (refine' raise_K ?k1 ?_; (case k1 => exact rfl); k_whole)))
local macro_rules | `(tactic| walk_at "call ref") => `(tactic| (k_here; (with_reducible show wpAny _ _ (call (Value.ref 390) _) _ _ _); refine hold ?_))
set_option maxHeartbeats 8000000 in
theorem cl_badC (w : World) (β : BA) (π : PA) (kp : Tok) (lim : Int) (kl : Tok) (tm : Value) (pr : Int) (kr : Tok) (tvs : List Value) (i : Nat) (q : Addr) (z : Int) (frs : List Value) (nf : Nat) (ta : Addr) (fa fd fi : Nat) (kind : Str) (kt : Tok) (flim : Int) (flt : Tok) (fn : Int) (ft : Tok) (nm : Int) (nt : Tok) (fpr : Int) (fpt : Tok) (left : Value) (its : List Value) (nn : Nat) (c1 c2 c3 c4 c5 c6 c7 : Tok) (d : TK) (ω : OA) (c : BC) (hlt : i < 1000) (hq0q : tvs[i]? = some (.ref q)) (hpd : π.pd < π.p ∧ π.p < π.fl) (hfr : frs.length < 1000) (hne : π.pd ≠ fa ∧ π.pd ≠ fd ∧ π.pd ≠ fi ∧ π.p ≠ fa ∧ π.p ≠ fd ∧ π.p ≠ fi ∧ π.fl ≠ fa ∧ π.fl ≠ fd ∧ π.fl ≠ fi ∧ fa ≠ fd ∧ fa ≠ fi ∧ fd ≠ fi) (hkd : kind = Str.ofString "curly") (htm : tm = .ref ta) (hoO : OOk w ω) (hord : ω.od < π.o ∧ π.o < ω.pf ∧ ω.pf < ω.nf ∧ ω.nf < ω.qf ∧ ω.qf < π.pd) (hsz : c.size < 100000) (h7 : c.texts[7]? = some (Str.ofString ",")) (hoff : ∀ a ∈ [π.p, π.pd, π.o, ω.od, ω.pf, ω.nf, ω.qf, π.fl, fa, fd, fi], a ∉ (c.L w.params β).map (·.1)) (hno2 : ∀ a ∈ [π.fl, fa, fd, fi], a ∉ (OL w.params β π.o ω).map (·.1)) (hb0 : isP d (Str.ofString "}") = false) :
    DoesX w 500 14 [.ref π.p, .ref q] ((((PL w.params β π (i : Int) kp lim kl tm pr kr ++ [(π.fl, listOf (frs ++ [Value.ref fa]).toArray nf)]) ++ [(fa, instObj 309 fd), (fd, FD w.params kind kt flim flt fn ft nm nt fpr fpt left fi c1 c2 c3 c4 c5 c6 c7), (fi, listOf its.toArray nn)]) ++ OL w.params β π.o ω) ++ c.L w.params β)
     (fun h => c.Ok w h β ∧ h.IsList π.tl tvs.toArray ∧ TupTk h q d z ∧ (∀ a ∈ [π.tl, q], a ∉ ((((PL w.params β π (i : Int) kp lim kl tm pr kr ++ [(π.fl, listOf (frs ++ [Value.ref fa]).toArray nf)]) ++ [(fa, instObj 309 fd), (fd, FD w.params kind kt flim flt fn ft nm nt fpr fpt left fi c1 c2 c3 c4 c5 c6 c7), (fi, listOf its.toArray nn)]) ++ OL w.params β π.o ω) ++ c.L w.params β).map (·.1)))
     (fun h h' r => False) (fun _ kind9 z9 => kind9 = misKind d (Str.ofString "operator_expected") ∧ z9 = z) := by
  walk_at "m fill"
  intro p loose mean mg mb A env outer A₀ base h₀ L m s Q E B F X N T hA hf hk hd hu hh hpre hret hexc
  obtain ⟨ah, dp, fr, gd, un⟩ := A
  obtain rfl : fr = some (env :: outer) := hA
  obtain rfl : ah = none := hh
  replace hd : dp + _ < recursionLimit := hd
  replace hu : un + _ < cLine := hu
  obtain ⟨hok, hl0, hq00, hno⟩ := hpre
  have hx0 : tvs[Int.toNat (i : Int)]? = some (.ref q) := hq0q
  obtain ⟨or1, or2⟩ := hpd
  obtain ⟨e1, e2, e3, e4, e5, e6, e7, e8, e9, e10, e11, e12⟩ := hne
  subst hkd
  subst htm
  obtain ⟨r1, r2, r3, r4, r5⟩ := hord
  have ho1 := hoff π.pd (by simp)
  have ho2 := hoff π.fl (by simp)
  refine wpAny_call ?_
  k_dflt (refine' enterD (binds := [(Str.ofString "self", .ref π.p), (Str.ofString "token", .ref q)]) ?k1 ?k2 ?k3 ?k4 ?k5 ?kA ?kF ?kK ?k6 ?k7 ?k8 ?k9 ?kB ?_ ?c2 ?c3 ?c4 ?c5; (case kA => walk_at "m frames"); (case kF => first | assumption | exact rfl); (case kK => first | assumption | exact rfl); (case k1 => k_asm); (case k2 => k_asm); (case k3 => k_asm); (case k4 => k_asm); (case k5 => k_asm); (case k6 => k_is); (case k7 => k_is); (case k8 => walk_at "m room"); (case k9 => first | exact BindsTo.of_eq rfl | exact binds_K (by k_in) rfl (by k_is) rfl rfl rfl); (case c5 => decide); (case kB => exact locs rfl); (case c2 => exact rfl); (case c3 => exact rfl); (case c4 => exact rfl); k_whole)
  intro g L' h₁ F' N' B' X' T' hg hgs
  k_fold
  have hl := list_base hl0 hg (hno _ (by simp))
  obtain ⟨ka0, kb0, kc0, hq00⟩ := hq00
  have hqg0 := hg _ _ hq00 (hno _ (by simp))
  have hqt0 : IsTup g q [.str (TK.kind d) ka0, TK.val d kb0, .int z kc0].toArray := ⟨_, hqg0, rfl, _, rfl⟩
  have htk0 : TupTk g q d z := ⟨_, _, _, hqg0⟩
  have okg := hok.keepT (keepT_of hg (fun p hp => (N p hp).1) (((((PL_noTup _ _ _ _ _ _ _ _ _ _).app (fun p hp => by rw [List.mem_singleton.mp hp]; exact list_noTup _ _)).app (List.forall_mem_cons.mpr ⟨inst_noTup _ _, List.forall_mem_cons.mpr ⟨dict_noTup _ _, List.forall_mem_cons.mpr ⟨list_noTup _ _, List.forall_mem_nil _⟩⟩⟩)).app (hoO.noTup _ _ _)).app (hok.noTup _)))
  replace N' := rest_start' N'
  dsimp only [List.cons_append, List.nil_append] at N'
  have hTup0 : ∀ p ∈ ([] : List (Addr × Obj)), isTup p.2 := fun _ q => nomatch q
  k_steps
  unfold Hold
  rename News g L' _ _ => N5
  rename Fr g L' _ _ => F5
  k_dflt (refine' use_bk2 (own := [_, _, _, _, _, _, _, _, _, _, _]) (own1 := PL w.params β π (i : Int) kp lim kl (.ref ta) pr kr ++ OL w.params β π.o ω) (n := 1) ((does_mis w β π kp lim kl (.ref ta) pr kr tvs i q z d ω c (Str.ofString "operator_expected") _ hlt hq0q or1 hoO ⟨r1, r2, r3, r4, r5⟩ hsz h7 (fun a ha => hoff a (List.mem_append_left [π.fl, fa, fd, fi] ha))).post (fun _ _ _ ⟨c', a, b, d, e⟩ => ⟨c', a, d, b, e⟩)) ?k1 ?k2 ?k3 N5 ?k5 ?kA ?kf ?kk ?kd ?ku ?kh ?ko ?kp ?kx ?ks ?kn ?_; walk_at "m fin"; (case ko => walk_at "m ok"))
  case kp => exact ⟨Fr.lst F5 hl, TupTk.keep (Fr.keep F5) htk0, fun a ha hm => hno a ha (map_sub (fun p hp => (List.mem_append.mp hp).elim (fun q => (List.mem_append.mp q).elim (fun q => List.mem_append_left _ (List.mem_append_left _ (List.mem_append_left _ (List.mem_append_left _ q)))) (fun q => List.mem_append_left _ (List.mem_append_right _ q))) (fun q => List.mem_append_right _ q)) hm)⟩
  case kx => exact off_own (as := [π.p, π.pd, π.fl, fa, fd, fi, π.o, ω.od, ω.pf, ω.nf, ω.qf]) (fun a ha => hoff a (by simp only [List.mem_cons, List.mem_nil_iff, or_false] at ha ⊢; rcases ha with h | h | h | h | h | h | h | h | h | h | h <;> simp [h])) rfl
  case ks => exact fun p hp => (List.mem_append.mp hp).elim (fun q => List.mem_append_left (OL w.params β π.o ω) (List.mem_append_left [(fa, instObj 309 fd), (fd, FD w.params (Str.ofString "curly") kt flim flt fn ft nm nt fpr fpt left fi c1 c2 c3 c4 c5 c6 c7), (fi, listOf its.toArray nn)] (List.mem_append_left [(π.fl, listOf (frs ++ [Value.ref fa]).toArray nf)] q))) (fun q => List.mem_append_right (((PL w.params β π (i : Int) kp lim kl (.ref ta) pr kr ++ [(π.fl, listOf (frs ++ [Value.ref fa]).toArray nf)]) ++ [(fa, instObj 309 fd), (fd, FD w.params (Str.ofString "curly") kt flim flt fn ft nm nt fpr fpt left fi c1 c2 c3 c4 c5 c6 c7), (fi, listOf its.toArray nn)])) q)
  case kn => exact (PL_noTup _ _ _ _ _ _ _ _ _ _).app (hoO.noTup _ _ _)
  intro r h' tk' c' im' F6 N6 hIm hT hO hG hKT hR
  obtain ⟨e, dx, od9, mA, ns, fx⟩ := hR
  refine' raise_end ?b ?x ?f0 ?f ?flt ?hE ?hk
  case hk => exact rfl
  case b => exact B'
  case x => exact X'
  case f => exact F6
  case f0 => exact F5
  case flt => exact fx
  intro h'' hf hu
  show E _ _
  have kk : Keep (((((PL w.params β π (i : Int) kp lim kl (.ref ta) pr kr ++ [(π.fl, listOf (frs ++ [Value.ref fa]).toArray nf)]) ++ [(fa, instObj 309 fd), (fd, FD w.params (Str.ofString "curly") kt flim flt fn ft nm nt fpr fpt left fi c1 c2 c3 c4 c5 c6 c7), (fi, listOf its.toArray nn)]) ++ OL w.params β π.o ω) ++ c.L w.params β).map (·.1)) s.heap _ := (fun b o e n => Fr.keep (by assumption) b o (hg b o e n))
  exact hexc e dx h'' _ _ _ hf (KeepU.of kk hu) (fx.flt.slots hu) ⟨rfl, rfl⟩
end

theorem tick55 {prog : Program} {w : World} {A : Around} {E : Value → Shared → Prop} {s : Shared} {env : Env} {Q : Flow → Shared → Prop} (h : Q .next s) : wpAny (model prog w) A (execs [] env) Q E s := by
  first | (walk1; exact h) | exact wpAny_execs_nil h
section
local macro_rules | `(tactic| walk_at "subscriptTail Attribute Name UnaryOp") => `(tactic| (k_here; (with_reducible show wpAny _ _ (subscriptTail _ _ (Value.ref _) (Value.int _ _)) _ _ _); (with_unfolding_all refine' item_last ?k1 ?_ ?k6; (case k1 => exact News.isList (by assumption) (by k_mem)); (case k6 => with_unfolding_all rfl); k_whole)))
local macro_rules | `(tactic| k_all) => `(tactic| exact rest_off (by assumption) (by walk_at "m rest") (by k_mem) (by first | exact list_noTup _ _ | exact dict_noTup _ _) (by assumption) (by first | assumption | walk_at "m off9"))
local macro_rules | `(tactic| walk_at "exec Raise some none") => `(tactic| (k_dflt (refine' raise_K ?k1 ?_; (case k1 => exact rfl); k_whole)))
local macro_rules | `(tactic| walk_at "call ref") => `(tactic| (k_here; (with_reducible show wpAny _ _ (call (Value.ref 390) _) _ _ _); refine hold ?_))
set_option maxHeartbeats 8000000 in
theorem cl_badT (w : World) (β : BA) (π : PA) (kp : Tok) (lim : Int) (kl : Tok) (tm : Value) (pr : Int) (kr : Tok) (tvs : List Value) (i : Nat) (q : Addr) (z : Int) (frs : List Value) (nf : Nat) (ta : Addr) (fa fd fi : Nat) (kind : Str) (kt : Tok) (flim : Int) (flt : Tok) (fn : Int) (ft : Tok) (nm : Int) (nt : Tok) (fpr : Int) (fpt : Tok) (left : Value) (its : List Value) (nn : Nat) (c1 c2 c3 c4 c5 c6 c7 : Tok) (d : TK) (ω : OA) (c : BC) (hlt : i < 1000) (hq0q : tvs[i]? = some (.ref q)) (hpd : π.pd < π.p ∧ π.p < π.fl) (hfr : frs.length < 1000) (hne : π.pd ≠ fa ∧ π.pd ≠ fd ∧ π.pd ≠ fi ∧ π.p ≠ fa ∧ π.p ≠ fd ∧ π.p ≠ fi ∧ π.fl ≠ fa ∧ π.fl ≠ fd ∧ π.fl ≠ fi ∧ fa ≠ fd ∧ fa ≠ fi ∧ fd ≠ fi) (hkd : kind = Str.ofString "tail") (htm : tm = .ref ta) (hoO : OOk w ω) (hord : ω.od < π.o ∧ π.o < ω.pf ∧ ω.pf < ω.nf ∧ ω.nf < ω.qf ∧ ω.qf < π.pd) (hsz : c.size < 100000) (h7 : c.texts[7]? = some (Str.ofString ",")) (hoff : ∀ a ∈ [π.p, π.pd, π.o, ω.od, ω.pf, ω.nf, ω.qf, π.fl, fa, fd, fi], a ∉ (c.L w.params β).map (·.1)) (hno2 : ∀ a ∈ [π.fl, fa, fd, fi], a ∉ (OL w.params β π.o ω).map (·.1)) (hb0 : isP d (Str.ofString "]") = false) :
    DoesX w 500 14 [.ref π.p, .ref q] ((((PL w.params β π (i : Int) kp lim kl tm pr kr ++ [(π.fl, listOf (frs ++ [Value.ref fa]).toArray nf)]) ++ [(fa, instObj 309 fd), (fd, FD w.params kind kt flim flt fn ft nm nt fpr fpt left fi c1 c2 c3 c4 c5 c6 c7), (fi, listOf its.toArray nn)]) ++ OL w.params β π.o ω) ++ c.L w.params β)
     (fun h => c.Ok w h β ∧ h.IsList π.tl tvs.toArray ∧ TupTk h q d z ∧ (∀ a ∈ [π.tl, q], a ∉ ((((PL w.params β π (i : Int) kp lim kl tm pr kr ++ [(π.fl, listOf (frs ++ [Value.ref fa]).toArray nf)]) ++ [(fa, instObj 309 fd), (fd, FD w.params kind kt flim flt fn ft nm nt fpr fpt left fi c1 c2 c3 c4 c5 c6 c7), (fi, listOf its.toArray nn)]) ++ OL w.params β π.o ω) ++ c.L w.params β).map (·.1)))
     (fun h h' r => False) (fun _ kind9 z9 => kind9 = misKind d (Str.ofString "operator_expected") ∧ z9 = z) := by
  walk_at "m fill"
  intro p loose mean mg mb A env outer A₀ base h₀ L m s Q E B F X N T hA hf hk hd hu hh hpre hret hexc
  obtain ⟨ah, dp, fr, gd, un⟩ := A
  obtain rfl : fr = some (env :: outer) := hA
  obtain rfl : ah = none := hh
  replace hd : dp + _ < recursionLimit := hd
  replace hu : un + _ < cLine := hu
  obtain ⟨hok, hl0, hq00, hno⟩ := hpre
  have hx0 : tvs[Int.toNat (i : Int)]? = some (.ref q) := hq0q
  obtain ⟨or1, or2⟩ := hpd
  obtain ⟨e1, e2, e3, e4, e5, e6, e7, e8, e9, e10, e11, e12⟩ := hne
  subst hkd
  subst htm
  obtain ⟨r1, r2, r3, r4, r5⟩ := hord
  have ho1 := hoff π.pd (by simp)
  have ho2 := hoff π.fl (by simp)
  refine wpAny_call ?_
  k_dflt (refine' enterD (binds := [(Str.ofString "self", .ref π.p), (Str.ofString "token", .ref q)]) ?k1 ?k2 ?k3 ?k4 ?k5 ?kA ?kF ?kK ?k6 ?k7 ?k8 ?k9 ?kB ?_ ?c2 ?c3 ?c4 ?c5; (case kA => walk_at "m frames"); (case kF => first | assumption | exact rfl); (case kK => first | assumption | exact rfl); (case k1 => k_asm); (case k2 => k_asm); (case k3 => k_asm); (case k4 => k_asm); (case k5 => k_asm); (case k6 => k_is); (case k7 => k_is); (case k8 => walk_at "m room"); (case k9 => first | exact BindsTo.of_eq rfl | exact binds_K (by k_in) rfl (by k_is) rfl rfl rfl); (case c5 => decide); (case kB => exact locs rfl); (case c2 => exact rfl); (case c3 => exact rfl); (case c4 => exact rfl); k_whole)
  intro g L' h₁ F' N' B' X' T' hg hgs
  k_fold
  have hl := list_base hl0 hg (hno _ (by simp))
  obtain ⟨ka0, kb0, kc0, hq00⟩ := hq00
  have hqg0 := hg _ _ hq00 (hno _ (by simp))
  have hqt0 : IsTup g q [.str (TK.kind d) ka0, TK.val d kb0, .int z kc0].toArray := ⟨_, hqg0, rfl, _, rfl⟩
  have htk0 : TupTk g q d z := ⟨_, _, _, hqg0⟩
  have okg := hok.keepT (keepT_of hg (fun p hp => (N p hp).1) (((((PL_noTup _ _ _ _ _ _ _ _ _ _).app (fun p hp => by rw [List.mem_singleton.mp hp]; exact list_noTup _ _)).app (List.forall_mem_cons.mpr ⟨inst_noTup _ _, List.forall_mem_cons.mpr ⟨dict_noTup _ _, List.forall_mem_cons.mpr ⟨list_noTup _ _, List.forall_mem_nil _⟩⟩⟩)).app (hoO.noTup _ _ _)).app (hok.noTup _)))
  replace N' := rest_start' N'
  dsimp only [List.cons_append, List.nil_append] at N'
  have hTup0 : ∀ p ∈ ([] : List (Addr × Obj)), isTup p.2 := fun _ q => nomatch q
  k_steps
  unfold Hold
  rename News g L' _ _ => N5
  rename Fr g L' _ _ => F5
  k_dflt (refine' use_bk2 (own := [_, _, _, _, _, _, _, _, _, _, _]) (own1 := PL w.params β π (i : Int) kp lim kl (.ref ta) pr kr ++ OL w.params β π.o ω) (n := 1) ((does_mis w β π kp lim kl (.ref ta) pr kr tvs i q z d ω c (Str.ofString "operator_expected") _ hlt hq0q or1 hoO ⟨r1, r2, r3, r4, r5⟩ hsz h7 (fun a ha => hoff a (List.mem_append_left [π.fl, fa, fd, fi] ha))).post (fun _ _ _ ⟨c', a, b, d, e⟩ => ⟨c', a, d, b, e⟩)) ?k1 ?k2 ?k3 N5 ?k5 ?kA ?kf ?kk ?kd ?ku ?kh ?ko ?kp ?kx ?ks ?kn ?_; walk_at "m fin"; (case ko => walk_at "m ok"))
  case kp => exact ⟨Fr.lst F5 hl, TupTk.keep (Fr.keep F5) htk0, fun a ha hm => hno a ha (map_sub (fun p hp => (List.mem_append.mp hp).elim (fun q => (List.mem_append.mp q).elim (fun q => List.mem_append_left _ (List.mem_append_left _ (List.mem_append_left _ (List.mem_append_left _ q)))) (fun q => List.mem_append_left _ (List.mem_append_right _ q))) (fun q => List.mem_append_right _ q)) hm)⟩
  case kx => exact off_own (as := [π.p, π.pd, π.fl, fa, fd, fi, π.o, ω.od, ω.pf, ω.nf, ω.qf]) (fun a ha => hoff a (by simp only [List.mem_cons, List.mem_nil_iff, or_false] at ha ⊢; rcases ha with h | h | h | h | h | h | h | h | h | h | h <;> simp [h])) rfl
  case ks => exact fun p hp => (List.mem_append.mp hp).elim (fun q => List.mem_append_left (OL w.params β π.o ω) (List.mem_append_left [(fa, instObj 309 fd), (fd, FD w.params (Str.ofString "tail") kt flim flt fn ft nm nt fpr fpt left fi c1 c2 c3 c4 c5 c6 c7), (fi, listOf its.toArray nn)] (List.mem_append_left [(π.fl, listOf (frs ++ [Value.ref fa]).toArray nf)] q))) (fun q => List.mem_append_right (((PL w.params β π (i : Int) kp lim kl (.ref ta) pr kr ++ [(π.fl, listOf (frs ++ [Value.ref fa]).toArray nf)]) ++ [(fa, instObj 309 fd), (fd, FD w.params (Str.ofString "tail") kt flim flt fn ft nm nt fpr fpt left fi c1 c2 c3 c4 c5 c6 c7), (fi, listOf its.toArray nn)])) q)
  case kn => exact (PL_noTup _ _ _ _ _ _ _ _ _ _).app (hoO.noTup _ _ _)
  intro r h' tk' c' im' F6 N6 hIm hT hO hG hKT hR
  obtain ⟨e, dx, od9, mA, ns, fx⟩ := hR
  refine' raise_end ?b ?x ?f0 ?f ?flt ?hE ?hk
  case hk => exact rfl
  case b => exact B'
  case x => exact X'
  case f => exact F6
  case f0 => exact F5
  case flt => exact fx
  intro h'' hf hu
  show E _ _
  have kk : Keep (((((PL w.params β π (i : Int) kp lim kl (.ref ta) pr kr ++ [(π.fl, listOf (frs ++ [Value.ref fa]).toArray nf)]) ++ [(fa, instObj 309 fd), (fd, FD w.params (Str.ofString "tail") kt flim flt fn ft nm nt fpr fpt left fi c1 c2 c3 c4 c5 c6 c7), (fi, listOf its.toArray nn)]) ++ OL w.params β π.o ω) ++ c.L w.params β).map (·.1)) s.heap _ := (fun b o e n => Fr.keep (by assumption) b o (hg b o e n))
  exact hexc e dx h'' _ _ _ hf (KeepU.of kk hu) (fx.flt.slots hu) ⟨rfl, rfl⟩
end

theorem tick56 {prog : Program} {w : World} {A : Around} {E : Value → Shared → Prop} {s : Shared} {env : Env} {Q : Flow → Shared → Prop} (h : Q .next s) : wpAny (model prog w) A (execs [] env) Q E s := by
  first | (walk1; exact h) | exact wpAny_execs_nil h
section
local macro_rules | `(tactic| walk_at "subscriptTail Attribute Name UnaryOp") => `(tactic| (k_here; (with_reducible show wpAny _ _ (subscriptTail _ _ (Value.ref _) (Value.int _ _)) _ _ _); (with_unfolding_all refine' item_last ?k1 ?_ ?k6; (case k1 => exact News.isList (by assumption) (by k_mem)); (case k6 => with_unfolding_all rfl); k_whole)))
local macro_rules | `(tactic| k_all) => `(tactic| exact rest_off (by assumption) (by walk_at "m rest") (by k_mem) (by first | exact list_noTup _ _ | exact dict_noTup _ _) (by assumption) (by first | assumption | walk_at "m off9"))
local macro_rules | `(tactic| walk_at "exec Raise some none") => `(tactic| (k_dflt (refine' raise_K ?k1 ?_; (case k1 => exact rfl); k_whole)))
local macro_rules | `(tactic| walk_at "call ref") => `(tactic| (k_here; (with_reducible show wpAny _ _ (call (Value.ref 390) _) _ _ _); refine hold ?_))
set_option maxHeartbeats 8000000 in
theorem cl_badL (w : World) (β : BA) (π : PA) (kp : Tok) (lim : Int) (kl : Tok) (tm : Value) (pr : Int) (kr : Tok) (tvs : List Value) (i : Nat) (q : Addr) (z : Int) (frs : List Value) (nf : Nat) (ta : Addr) (fa fd fi : Nat) (kind : Str) (kt : Tok) (flim : Int) (flt : Tok) (fn : Int) (ft : Tok) (nm : Int) (nt : Tok) (fpr : Int) (fpt : Tok) (left : Value) (its : List Value) (nn : Nat) (c1 c2 c3 c4 c5 c6 c7 : Tok) (d : TK) (ω : OA) (c : BC) (hlt : i < 1000) (hq0q : tvs[i]? = some (.ref q)) (hpd : π.pd < π.p ∧ π.p < π.fl) (hfr : frs.length < 1000) (hne : π.pd ≠ fa ∧ π.pd ≠ fd ∧ π.pd ≠ fi ∧ π.p ≠ fa ∧ π.p ≠ fd ∧ π.p ≠ fi ∧ π.fl ≠ fa ∧ π.fl ≠ fd ∧ π.fl ≠ fi ∧ fa ≠ fd ∧ fa ≠ fi ∧ fd ≠ fi) (hkd : kind = Str.ofString "list") (htm : tm = .ref ta) (hoO : OOk w ω) (hord : ω.od < π.o ∧ π.o < ω.pf ∧ ω.pf < ω.nf ∧ ω.nf < ω.qf ∧ ω.qf < π.pd) (hsz : c.size < 100000) (h7 : c.texts[7]? = some (Str.ofString ",")) (hoff : ∀ a ∈ [π.p, π.pd, π.o, ω.od, ω.pf, ω.nf, ω.qf, π.fl, fa, fd, fi], a ∉ (c.L w.params β).map (·.1)) (hno2 : ∀ a ∈ [π.fl, fa, fd, fi], a ∉ (OL w.params β π.o ω).map (·.1)) (hb0 : isP d (Str.ofString ",") = false) (hb1 : isP d (Str.ofString "|") = false) (hb2 : isP d (Str.ofString "]") = false) :
    DoesX w 500 14 [.ref π.p, .ref q] ((((PL w.params β π (i : Int) kp lim kl tm pr kr ++ [(π.fl, listOf (frs ++ [Value.ref fa]).toArray nf)]) ++ [(fa, instObj 309 fd), (fd, FD w.params kind kt flim flt fn ft nm nt fpr fpt left fi c1 c2 c3 c4 c5 c6 c7), (fi, listOf its.toArray nn)]) ++ OL w.params β π.o ω) ++ c.L w.params β)
     (fun h => c.Ok w h β ∧ h.IsList π.tl tvs.toArray ∧ TupTk h q d z ∧ (∀ a ∈ [π.tl, q], a ∉ ((((PL w.params β π (i : Int) kp lim kl tm pr kr ++ [(π.fl, listOf (frs ++ [Value.ref fa]).toArray nf)]) ++ [(fa, instObj 309 fd), (fd, FD w.params kind kt flim flt fn ft nm nt fpr fpt left fi c1 c2 c3 c4 c5 c6 c7), (fi, listOf its.toArray nn)]) ++ OL w.params β π.o ω) ++ c.L w.params β).map (·.1)))
     (fun h h' r => False) (fun _ kind9 z9 => kind9 = misKind d (Str.ofString "operator_expected") ∧ z9 = z) := by
  walk_at "m fill"
  intro p loose mean mg mb A env outer A₀ base h₀ L m s Q E B F X N T hA hf hk hd hu hh hpre hret hexc
  obtain ⟨ah, dp, fr, gd, un⟩ := A
  obtain rfl : fr = some (env :: outer) := hA
  obtain rfl : ah = none := hh
  replace hd : dp + _ < recursionLimit := hd
  replace hu : un + _ < cLine := hu
  obtain ⟨hok, hl0, hq00, hno⟩ := hpre
  have hx0 : tvs[Int.toNat (i : Int)]? = some (.ref q) := hq0q
  obtain ⟨or1, or2⟩ := hpd
  obtain ⟨e1, e2, e3, e4, e5, e6, e7, e8, e9, e10, e11, e12⟩ := hne
  subst hkd
  subst htm
  obtain ⟨r1, r2, r3, r4, r5⟩ := hord
  have ho1 := hoff π.pd (by simp)
  have ho2 := hoff π.fl (by simp)
  refine wpAny_call ?_
  k_dflt (refine' enterD (binds := [(Str.ofString "self", .ref π.p), (Str.ofString "token", .ref q)]) ?k1 ?k2 ?k3 ?k4 ?k5 ?kA ?kF ?kK ?k6 ?k7 ?k8 ?k9 ?kB ?_ ?c2 ?c3 ?c4 ?c5; (case kA => walk_at "m frames"); (case kF => first | assumption | exact rfl); (case kK => first | assumption | exact rfl); (case k1 => k_asm); (case k2 => k_asm); (case k3 => k_asm); (case k4 => k_asm); (case k5 => k_asm); (case k6 => k_is); (case k7 => k_is); (case k8 => walk_at "m room"); (case k9 => first | exact BindsTo.of_eq rfl | exact binds_K (by k_in) rfl (by k_is) rfl rfl rfl); (case c5 => decide); (case kB => exact locs rfl); (case c2 => exact rfl); (case c3 => exact rfl); (case c4 => exact rfl); k_whole)
  intro g L' h₁ F' N' B' X' T' hg hgs
  k_fold
  have hl := list_base hl0 hg (hno _ (by simp))
  obtain ⟨ka0, kb0, kc0, hq00⟩ := hq00
  have hqg0 := hg _ _ hq00 (hno _ (by simp))
  have hqt0 : IsTup g q [.str (TK.kind d) ka0, TK.val d kb0, .int z kc0].toArray := ⟨_, hqg0, rfl, _, rfl⟩
  have htk0 : TupTk g q d z := ⟨_, _, _, hqg0⟩
  have okg := hok.keepT (keepT_of hg (fun p hp => (N p hp).1) (((((PL_noTup _ _ _ _ _ _ _ _ _ _).app (fun p hp => by rw [List.mem_singleton.mp hp]; exact list_noTup _ _)).app (List.forall_mem_cons.mpr ⟨inst_noTup _ _, List.forall_mem_cons.mpr ⟨dict_noTup _ _, List.forall_mem_cons.mpr ⟨list_noTup _ _, List.forall_mem_nil _⟩⟩⟩)).app (hoO.noTup _ _ _)).app (hok.noTup _)))
  replace N' := rest_start' N'
  dsimp only [List.cons_append, List.nil_append] at N'
  have hTup0 : ∀ p ∈ ([] : List (Addr × Obj)), isTup p.2 := fun _ q => nomatch q
  k_steps
  unfold Hold
  rename News g L' _ _ => N5
  rename Fr g L' _ _ => F5
  k_dflt (refine' use_bk2 (own := [_, _, _, _, _, _, _, _, _, _, _]) (own1 := PL w.params β π (i : Int) kp lim kl (.ref ta) pr kr ++ OL w.params β π.o ω) (n := 1) ((does_mis w β π kp lim kl (.ref ta) pr kr tvs i q z d ω c (Str.ofString "operator_expected") _ hlt hq0q or1 hoO ⟨r1, r2, r3, r4, r5⟩ hsz h7 (fun a ha => hoff a (List.mem_append_left [π.fl, fa, fd, fi] ha))).post (fun _ _ _ ⟨c', a, b, d, e⟩ => ⟨c', a, d, b, e⟩)) ?k1 ?k2 ?k3 N5 ?k5 ?kA ?kf ?kk ?kd ?ku ?kh ?ko ?kp ?kx ?ks ?kn ?_; walk_at "m fin"; (case ko => walk_at "m ok"))
  case kp => exact ⟨Fr.lst F5 hl, TupTk.keep (Fr.keep F5) htk0, fun a ha hm => hno a ha (map_sub (fun p hp => (List.mem_append.mp hp).elim (fun q => (List.mem_append.mp q).elim (fun q => List.mem_append_left _ (List.mem_append_left _ (List.mem_append_left _ (List.mem_append_left _ q)))) (fun q => List.mem_append_left _ (List.mem_append_right _ q))) (fun q => List.mem_append_right _ q)) hm)⟩
  case kx => exact off_own (as := [π.p, π.pd, π.fl, fa, fd, fi, π.o, ω.od, ω.pf, ω.nf, ω.qf]) (fun a ha => hoff a (by simp only [List.mem_cons, List.mem_nil_iff, or_false] at ha ⊢; rcases ha with h | h | h | h | h | h | h | h | h | h | h <;> simp [h])) rfl
  case ks => exact fun p hp => (List.mem_append.mp hp).elim (fun q => List.mem_append_left (OL w.params β π.o ω) (List.mem_append_left [(fa, instObj 309 fd), (fd, FD w.params (Str.ofString "list") kt flim flt fn ft nm nt fpr fpt left fi c1 c2 c3 c4 c5 c6 c7), (fi, listOf its.toArray nn)] (List.mem_append_left [(π.fl, listOf (frs ++ [Value.ref fa]).toArray nf)] q))) (fun q => List.mem_append_right (((PL w.params β π (i : Int) kp lim kl (.ref ta) pr kr ++ [(π.fl, listOf (frs ++ [Value.ref fa]).toArray nf)]) ++ [(fa, instObj 309 fd), (fd, FD w.params (Str.ofString "list") kt flim flt fn ft nm nt fpr fpt left fi c1 c2 c3 c4 c5 c6 c7), (fi, listOf its.toArray nn)])) q)
  case kn => exact (PL_noTup _ _ _ _ _ _ _ _ _ _).app (hoO.noTup _ _ _)
  intro r h' tk' c' im' F6 N6 hIm hT hO hG hKT hR
  obtain ⟨e, dx, od9, mA, ns, fx⟩ := hR
  refine' raise_end ?b ?x ?f0 ?f ?flt ?hE ?hk
  case hk => exact rfl
  case b => exact B'
  case x => exact X'
  case f => exact F6
  case f0 => exact F5
  case flt => exact fx
  intro h'' hf hu
  show E _ _
  have kk : Keep (((((PL w.params β π (i : Int) kp lim kl (.ref ta) pr kr ++ [(π.fl, listOf (frs ++ [Value.ref fa]).toArray nf)]) ++ [(fa, instObj 309 fd), (fd, FD w.params (Str.ofString "list") kt flim flt fn ft nm nt fpr fpt left fi c1 c2 c3 c4 c5 c6 c7), (fi, listOf its.toArray nn)]) ++ OL w.params β π.o ω) ++ c.L w.params β).map (·.1)) s.heap _ := (fun b o e n => Fr.keep (by assumption) b o (hg b o e n))
  exact hexc e dx h'' _ _ _ hf (KeepU.of kk hu) (fx.flt.slots hu) ⟨rfl, rfl⟩
end

theorem tick57 {prog : Program} {w : World} {A : Around} {E : Value → Shared → Prop} {s : Shared} {env : Env} {Q : Flow → Shared → Prop} (h : Q .next s) : wpAny (model prog w) A (execs [] env) Q E s := by
  first | (walk1; exact h) | exact wpAny_execs_nil h
section
local macro_rules | `(tactic| walk_at "subscriptTail Attribute Name UnaryOp") => `(tactic| (k_here; (with_reducible show wpAny _ _ (subscriptTail _ _ (Value.ref _) (Value.int _ _)) _ _ _); (with_unfolding_all refine' item_last ?k1 ?_ ?k6; (case k1 => exact News.isList (by assumption) (by k_mem)); (case k6 => with_unfolding_all rfl); k_whole)))
local macro_rules | `(tactic| k_all) => `(tactic| exact rest_off (by assumption) (by walk_at "m rest") (by k_mem) (by first | exact list_noTup _ _ | exact dict_noTup _ _) (by assumption) (by first | assumption | walk_at "m off9"))
local macro_rules | `(tactic| walk_at "exec Raise some none") => `(tactic| (k_dflt (refine' raise_K ?k1 ?_; (case k1 => exact rfl); k_whole)))
local macro_rules | `(tactic| walk_at "call ref") => `(tactic| (k_here; (with_reducible show wpAny _ _ (call (Value.ref 390) _) _ _ _); refine hold ?_))
set_option maxHeartbeats 8000000 in
theorem cl_badA (w : World) (β : BA) (π : PA) (kp : Tok) (lim : Int) (kl : Tok) (tm : Value) (pr : Int) (kr : Tok) (tvs : List Value) (i : Nat) (q : Addr) (z : Int) (frs : List Value) (nf : Nat) (ta : Addr) (fa fd fi : Nat) (kind : Str) (kt : Tok) (flim : Int) (flt : Tok) (fn : Int) (ft : Tok) (nm : Int) (nt : Tok) (fpr : Int) (fpt : Tok) (left : Value) (its : List Value) (nn : Nat) (c1 c2 c3 c4 c5 c6 c7 : Tok) (d : TK) (ω : OA) (c : BC) (hlt : i < 1000) (hq0q : tvs[i]? = some (.ref q)) (hpd : π.pd < π.p ∧ π.p < π.fl) (hfr : frs.length < 1000) (hne : π.pd ≠ fa ∧ π.pd ≠ fd ∧ π.pd ≠ fi ∧ π.p ≠ fa ∧ π.p ≠ fd ∧ π.p ≠ fi ∧ π.fl ≠ fa ∧ π.fl ≠ fd ∧ π.fl ≠ fi ∧ fa ≠ fd ∧ fa ≠ fi ∧ fd ≠ fi) (hkd : kind = Str.ofString "args") (htm : tm = .ref ta) (hoO : OOk w ω) (hord : ω.od < π.o ∧ π.o < ω.pf ∧ ω.pf < ω.nf ∧ ω.nf < ω.qf ∧ ω.qf < π.pd) (hsz : c.size < 100000) (h7 : c.texts[7]? = some (Str.ofString ",")) (hoff : ∀ a ∈ [π.p, π.pd, π.o, ω.od, ω.pf, ω.nf, ω.qf, π.fl, fa, fd, fi], a ∉ (c.L w.params β).map (·.1)) (hno2 : ∀ a ∈ [π.fl, fa, fd, fi], a ∉ (OL w.params β π.o ω).map (·.1)) (hb0 : isP d (Str.ofString ",") = false) (hb1 : isP d (Str.ofString ")") = false) :
    DoesX w 500 14 [.ref π.p, .ref q] ((((PL w.params β π (i : Int) kp lim kl tm pr kr ++ [(π.fl, listOf (frs ++ [Value.ref fa]).toArray nf)]) ++ [(fa, instObj 309 fd), (fd, FD w.params kind kt flim flt fn ft nm nt fpr fpt left fi c1 c2 c3 c4 c5 c6 c7), (fi, listOf its.toArray nn)]) ++ OL w.params β π.o ω) ++ c.L w.params β)
     (fun h => c.Ok w h β ∧ h.IsList π.tl tvs.toArray ∧ TupTk h q d z ∧ (∀ a ∈ [π.tl, q], a ∉ ((((PL w.params β π (i : Int) kp lim kl tm pr kr ++ [(π.fl, listOf (frs ++ [Value.ref fa]).toArray nf)]) ++ [(fa, instObj 309 fd), (fd, FD w.params kind kt flim flt fn ft nm nt fpr fpt left fi c1 c2 c3 c4 c5 c6 c7), (fi, listOf its.toArray nn)]) ++ OL w.params β π.o ω) ++ c.L w.params β).map (·.1)))
     (fun h h' r => False) (fun _ kind9 z9 => kind9 = misKind d (Str.ofString "operator_expected") ∧ z9 = z) := by
  walk_at "m fill"
  intro p loose mean mg mb A env outer A₀ base h₀ L m s Q E B F X N T hA hf hk hd hu hh hpre hret hexc
  obtain ⟨ah, dp, fr, gd, un⟩ := A
  obtain rfl : fr = some (env :: outer) := hA
  obtain rfl : ah = none := hh
  replace hd : dp + _ < recursionLimit := hd
  replace hu : un + _ < cLine := hu
  obtain ⟨hok, hl0, hq00, hno⟩ := hpre
  have hx0 : tvs[Int.toNat (i : Int)]? = some (.ref q) := hq0q
  obtain ⟨or1, or2⟩ := hpd
  obtain ⟨e1, e2, e3, e4, e5, e6, e7, e8, e9, e10, e11, e12⟩ := hne
  subst hkd
  subst htm
  obtain ⟨r1, r2, r3, r4, r5⟩ := hord
  have ho1 := hoff π.pd (by simp)
  have ho2 := hoff π.fl (by simp)
  refine wpAny_call ?_
  k_dflt (refine' enterD (binds := [(Str.ofString "self", .ref π.p), (Str.ofString "token", .ref q)]) ?k1 ?k2 ?k3 ?k4 ?k5 ?kA ?kF ?kK ?k6 ?k7 ?k8 ?k9 ?kB ?_ ?c2 ?c3 ?c4 ?c5; (case kA => walk_at "m frames"); (case kF => first | assumption | exact rfl); (case kK => first | assumption | exact rfl); (case k1 => k_asm); (case k2 => k_asm); (case k3 => k_asm); (case k4 => k_asm); (case k5 => k_asm); (case k6 => k_is); (case k7 => k_is); (case k8 => walk_at "m room"); (case k9 => first | exact BindsTo.of_eq rfl | exact binds_K (by k_in) rfl (by k_is) rfl rfl rfl); (case c5 => decide); (case kB => exact locs rfl); (case c2 => exact rfl); (case c3 => exact rfl); (case c4 => exact rfl); k_whole)
  intro g L' h₁ F' N' B' X' T' hg hgs
  k_fold
  have hl := list_base hl0 hg (hno _ (by simp))
  obtain ⟨ka0, kb0, kc0, hq00⟩ := hq00
  have hqg0 := hg _ _ hq00 (hno _ (by simp))
  have hqt0 : IsTup g q [.str (TK.kind d) ka0, TK.val d kb0, .int z kc0].toArray := ⟨_, hqg0, rfl, _, rfl⟩
  have htk0 : TupTk g q d z := ⟨_, _, _, hqg0⟩
  have okg := hok.keepT (keepT_of hg (fun p hp => (N p hp).1) (((((PL_noTup _ _ _ _ _ _ _ _ _ _).app (fun p hp => by rw [List.mem_singleton.mp hp]; exact list_noTup _ _)).app (List.forall_mem_cons.mpr ⟨inst_noTup _ _, List.forall_mem_cons.mpr ⟨dict_noTup _ _, List.forall_mem_cons.mpr ⟨list_noTup _ _, List.forall_mem_nil _⟩⟩⟩)).app (hoO.noTup _ _ _)).app (hok.noTup _)))
  replace N' := rest_start' N'
  dsimp only [List.cons_append, List.nil_append] at N'
  have hTup0 : ∀ p ∈ ([] : List (Addr × Obj)), isTup p.2 := fun _ q => nomatch q
  k_steps
  unfold Hold
  rename News g L' _ _ => N5
  rename Fr g L' _ _ => F5
  k_dflt (refine' use_bk2 (own := [_, _, _, _, _, _, _, _, _, _, _]) (own1 := PL w.params β π (i : Int) kp lim kl (.ref ta) pr kr ++ OL w.params β π.o ω) (n := 1) ((does_mis w β π kp lim kl (.ref ta) pr kr tvs i q z d ω c (Str.ofString "operator_expected") _ hlt hq0q or1 hoO ⟨r1, r2, r3, r4, r5⟩ hsz h7 (fun a ha => hoff a (List.mem_append_left [π.fl, fa, fd, fi] ha))).post (fun _ _ _ ⟨c', a, b, d, e⟩ => ⟨c', a, d, b, e⟩)) ?k1 ?k2 ?k3 N5 ?k5 ?kA ?kf ?kk ?kd ?ku ?kh ?ko ?kp ?kx ?ks ?kn ?_; walk_at "m fin"; (case ko => walk_at "m ok"))
  case kp => exact ⟨Fr.lst F5 hl, TupTk.keep (Fr.keep F5) htk0, fun a ha hm => hno a ha (map_sub (fun p hp => (List.mem_append.mp hp).elim (fun q => (List.mem_append.mp q).elim (fun q => List.mem_append_left _ (List.mem_append_left _ (List.mem_append_left _ (List.mem_append_left _ q)))) (fun q => List.mem_append_left _ (List.mem_append_right _ q))) (fun q => List.mem_append_right _ q)) hm)⟩
  case kx => exact off_own (as := [π.p, π.pd, π.fl, fa, fd, fi, π.o, ω.od, ω.pf, ω.nf, ω.qf]) (fun a ha => hoff a (by simp only [List.mem_cons, List.mem_nil_iff, or_false] at ha ⊢; rcases ha with h | h | h | h | h | h | h | h | h | h | h <;> simp [h])) rfl
  case ks => exact fun p hp => (List.mem_append.mp hp).elim (fun q => List.mem_append_left (OL w.params β π.o ω) (List.mem_append_left [(fa, instObj 309 fd), (fd, FD w.params (Str.ofString "args") kt flim flt fn ft nm nt fpr fpt left fi c1 c2 c3 c4 c5 c6 c7), (fi, listOf its.toArray nn)] (List.mem_append_left [(π.fl, listOf (frs ++ [Value.ref fa]).toArray nf)] q))) (fun q => List.mem_append_right (((PL w.params β π (i : Int) kp lim kl (.ref ta) pr kr ++ [(π.fl, listOf (frs ++ [Value.ref fa]).toArray nf)]) ++ [(fa, instObj 309 fd), (fd, FD w.params (Str.ofString "args") kt flim flt fn ft nm nt fpr fpt left fi c1 c2 c3 c4 c5 c6 c7), (fi, listOf its.toArray nn)])) q)
  case kn => exact (PL_noTup _ _ _ _ _ _ _ _ _ _).app (hoO.noTup _ _ _)
  intro r h' tk' c' im' F6 N6 hIm hT hO hG hKT hR
  obtain ⟨e, dx, od9, mA, ns, fx⟩ := hR
  refine' raise_end ?b ?x ?f0 ?f ?flt ?hE ?hk
  case hk => exact rfl
  case b => exact B'
  case x => exact X'
  case f => exact F6
  case f0 => exact F5
  case flt => exact fx
  intro h'' hf hu
  show E _ _
  have kk : Keep (((((PL w.params β π (i : Int) kp lim kl (.ref ta) pr kr ++ [(π.fl, listOf (frs ++ [Value.ref fa]).toArray nf)]) ++ [(fa, instObj 309 fd), (fd, FD w.params (Str.ofString "args") kt flim flt fn ft nm nt fpr fpt left fi c1 c2 c3 c4 c5 c6 c7), (fi, listOf its.toArray nn)]) ++ OL w.params β π.o ω) ++ c.L w.params β).map (·.1)) s.heap _ := (fun b o e n => Fr.keep (by assumption) b o (hg b o e n))
  exact hexc e dx h'' _ _ _ hf (KeepU.of kk hu) (fx.flt.slots hu) ⟨rfl, rfl⟩
end

theorem tick58 {prog : Program} {w : World} {A : Around} {E : Value → Shared → Prop} {s : Shared} {env : Env} {Q : Flow → Shared → Prop} (h : Q .next s) : wpAny (model prog w) A (execs [] env) Q E s := by
  first | (walk1; exact h) | exact wpAny_execs_nil h
section
local macro_rules | `(tactic| walk_at "m allLt") => `(tactic| first | assumption | exact And.right (by assumption) | exact And.right (And.right (by assumption)) | exact And.right (And.right (And.right (by assumption))) | exact And.right (And.right (And.right (And.right (by assumption)))) | exact And.right (And.right (And.right (And.right (And.right (by assumption))))) | exact And.right (And.right (And.right (And.right (And.right (And.right (by assumption)))))) | exact And.right (And.right (And.right (And.right (And.right (And.right (And.right (by assumption))))))) | exact And.right (And.right (And.right (And.right (And.right (And.right (And.right (And.right (by assumption)))))))) | exact And.right (And.right (And.right (And.right (And.right (And.right (And.right (And.right (And.right (by assumption))))))))) | exact And.right (And.right (And.right (And.right (And.right (And.right (And.right (And.right (And.right (And.right (by assumption)))))))))) | exact And.right (And.right (And.right (And.right (And.right (And.right (And.right (And.right (And.right (And.right (And.right (by assumption))))))))))) | exact And.right (And.right (And.right (And.right (And.right (And.right (And.right (And.right (And.right (And.right (And.right (And.right (by assumption)))))))))))) | exact And.right (And.right (And.right (And.right (And.right (And.right (And.right (And.right (And.right (And.right (And.right (And.right (And.right (by assumption))))))))))))) | exact And.right (And.right (And.right (And.right (And.right (And.right (And.right (And.right (And.right (And.right (And.right (And.right (And.right (And.right (by assumption)))))))))))))))
theorem off_rest2 {P : Params} {β : BA} {c c' : BC} {im : List (Addr × Obj)} {d x : Nat} (k : d < x) (h : AllLt d (Rest P β c im)) : x ∉ (c'.L P β).map (·.1) := off_rest (allLt_trans h k)
local macro_rules | `(tactic| walk_at "m off9") => `(tactic| first | exact off_rest (by walk_at "m allLt") | exact off_rest2 (by assumption) (by walk_at "m allLt"))
local macro_rules | `(tactic| walk_at "call builtin:dict.get") => `(tactic| (k_here; k_dflt (first
  | refine kdg_get1 (knd := PySem.intKind _ _) (by k_asm) (by k_mem) (by assumption) (by assumption) (intKind_is _ _ _ _) none (by first | rfl | exact comma_none (by assumption)) ?_
  | refine kdg_get1 (knd := PySem.intKind _ _) (by k_asm) (by k_mem) (by assumption) (by assumption) (intKind_is _ _ _ _) (some _) (by rfl) ?_); (try dsimp only [Option.getD])))
local macro_rules | `(tactic| walk_at "getMethod ref") => `(tactic| (k_here; (with_reducible show wpAny _ _ (getMethod (Value.ref _) (Str.ofString "get") _) _ _ _); k_dflt (refine kdg_method (knd := PySem.intKind _ _) (by k_asm) (by k_mem) (by assumption) ?_)))
local macro_rules | `(tactic| walk_at "call builtin:list.append") => `(tactic| (k_here; (with_reducible show wpAny _ _ (call (Value.builtin _) [Value.ref _, _]) _ _ _); k_dflt (refine' append_K ?k1 ?k2 ?k3 ?_ ?z; (case k1 => k_asm); (case k2 => k_asm); (case k3 => k_upd); (case z => (simp only [List.size_toArray]; rw [sizeLine_eq]; omega)); k_whole); intro h' F' N'; (try k_sweep)))
local macro_rules | `(tactic| k_all) => `(tactic| exact rest_off (by assumption) (by walk_at "m rest") (by k_mem) (by first | exact list_noTup _ _ | exact dict_noTup _ _) (by assumption) (by first | assumption | walk_at "m off9"))
local macro_rules | `(tactic| walk_at "call ref") => `(tactic| (k_here; (with_reducible show wpAny _ _ (call (Value.ref 102) [_, _, _]) _ _ _); refine hold ?_))
set_option maxHeartbeats 8000000 in
theorem op_shf (w : World) (β : BA) (π : PA) (kp : Tok) (lim : Int) (kl : Tok) (tm : Value) (pr : Int) (kr : Tok) (tvs : List Value) (i : Nat) (q : Addr) (z : Int) (frs : List Value) (nf : Nat) (d : TK) (ω : OA) (c : BC) (ta : Addr) (at9 : Tok) (hlt : i < 1000) (hq0q : tvs[i]? = some (.ref q)) (hpd : π.pd < π.p ∧ π.p < π.fl) (hfr : frs.length < 1000) (htm : tm = .ref ta) (hl1 : 1000 ≤ lim) (hp1 : pr ≤ 999) (hoO : OOk w ω) (hord : ω.od < π.o ∧ π.o < ω.pf ∧ ω.pf < ω.nf ∧ ω.nf < ω.qf ∧ ω.qf < π.pd) (hsz : c.size < 100000) (hf1 : c.fns[1]? = some (7, 2)) (hoff : ∀ a ∈ [π.p, π.pd, π.fl, π.o, ω.od, ω.pf, ω.nf, ω.qf], a ∉ (c.L w.params β).map (·.1)) :
    Does w 479 8 [.ref π.p, .int 7 at9] ((PL w.params β π (i : Int) kp lim kl tm pr kr ++ [(π.fl, listOf frs.toArray nf)] ++ OL w.params β π.o ω) ++ c.L w.params β)
     (fun h => (c.Ok w h β ∧ IsTup h ω.ct [.int 1000 ω.t1, .str (Str.ofString "xfy") ω.t2].toArray ∧ ω.ct ∉ ((PL w.params β π (i : Int) kp lim kl tm pr kr ++ [(π.fl, listOf frs.toArray nf)] ++ OL w.params β π.o ω) ++ c.L w.params β).map (·.1)) ∧ h.IsList π.tl tvs.toArray ∧ TupTk h q d z ∧ (∀ a ∈ [π.tl, q], a ∉ ((PL w.params β π (i : Int) kp lim kl tm pr kr ++ [(π.fl, listOf frs.toArray nf)] ++ OL w.params β π.o ω) ++ c.L w.params β).map (·.1)))
     (fun h h' r => ∃ (c' : BC) (kp' kl' : Tok) (f : FC) (nf' : Nat), r = .bool true ∧ c.Grow c' 1 ∧ c'.Ok w h' β ∧ (f.fn = 1 ∧ f.pr = 1000 ∧ f.left = .ref ta) ∧ NewF h f (Str.ofString "operator") lim (-1) ∧ Has h' (((PL w.params β π ((i : Int) + 1) kp' 1000 kl' (.ref ta) pr kr ++ [(π.fl, listOf (frs ++ [Value.ref f.fa]).toArray nf')] ++ FL w.params f) ++ OL w.params β π.o ω) ++ c'.L w.params β)) := by
  walk_at "m fill"
  intro p loose mean mg mb A env outer A₀ base h₀ L m s Q E B F X N T hA hf hk hd hu hh hpre hret
  obtain ⟨ah, dp, fr, gd, un⟩ := A
  obtain rfl : fr = some (env :: outer) := hA
  obtain rfl : ah = none := hh
  replace hd : dp + _ < recursionLimit := hd
  replace hu : un + _ < cLine := hu
  obtain ⟨hok, hl0, hq00, hno⟩ := hpre
  have hx0 : tvs[Int.toNat (i : Int)]? = some (.ref q) := hq0q
  obtain ⟨or1, or2⟩ := hpd
  subst htm
  obtain ⟨od1, od2, od3, lo1, lo2, lo3⟩ := hoO
  obtain ⟨r1, r2, r3, r4, r5⟩ := hord
  have ho1 := hoff π.pd (by simp)
  have ho2 := hoff π.fl (by simp)
  refine wpAny_call ?_
  k_dflt (refine' enterD (binds := [(Str.ofString "self", .ref π.p), (Str.ofString "a", .int 7 at9)]) ?k1 ?k2 ?k3 ?k4 ?k5 ?kA ?kF ?kK ?k6 ?k7 ?k8 ?k9 ?kB ?_ ?c2 ?c3 ?c4 ?c5; (case kA => walk_at "m frames"); (case kF => first | assumption | exact rfl); (case kK => first | assumption | exact rfl); (case k1 => k_asm); (case k2 => k_asm); (case k3 => k_asm); (case k4 => k_asm); (case k5 => k_asm); (case k6 => k_is); (case k7 => k_is); (case k8 => walk_at "m room"); (case k9 => first | exact BindsTo.of_eq rfl | exact binds_K (by k_in) rfl (by k_is) rfl rfl rfl); (case c5 => decide); (case kB => exact locs rfl); (case c2 => exact rfl); (case c3 => exact rfl); (case c4 => exact rfl); k_whole)
  intro g L' h₁ F' N' B' X' T' hg hgs
  k_fold
  have hl := list_base hl0 hg (hno _ (by simp))
  obtain ⟨ka0, kb0, kc0, hq00⟩ := hq00
  have hqg0 := hg _ _ hq00 (hno _ (by simp))
  have hqt0 : IsTup g q [.str (TK.kind d) ka0, TK.val d kb0, .int z kc0].toArray := ⟨_, hqg0, rfl, _, rfl⟩
  have htk0 : TupTk g q d z := ⟨_, _, _, hqg0⟩
  have hct : IsTup g ω.ct [.int 1000 ω.t1, .str (Str.ofString "xfy") ω.t2].toArray := by
    obtain ⟨o9, a9, b9⟩ := hok.2.1
    exact ⟨o9, hg _ _ a9 hok.2.2, b9⟩
  have okg := hok.1.keepT (keepT_of hg (fun p hp => (N p hp).1) ((((PL_noTup _ _ _ _ _ _ _ _ _ _).app (fun p hp => by rw [List.mem_singleton.mp hp]; exact list_noTup _ _)).app (OOk.noTup ⟨od1, od2, od3, lo1, lo2, lo3⟩ _ _ _)).app (hok.1.noTup _)))
  replace N' := rest_start' N'
  dsimp only [List.cons_append, List.nil_append] at N'
  have hTup0 : ∀ p ∈ ([] : List (Addr × Obj)), isTup p.2 := fun _ q => nomatch q
  k_steps
  unfold Hold
  rename News g L' _ _ => N5
  rename Fr g L' _ _ => F5
  k_dflt (refine' use_bk (own := [_, _, _, _, _, _, _, _, _, _, _, _]) (n := 1) (does_functor w β c _ _ _ _ hsz) ?k1 ?k2 ?k3 N5 ?k5 ?kA ?kf ?kk ?kd ?ku ?kh ?ko True.intro ?kx ?_; walk_at "m fin"; (case ko => walk_at "m ok"); (case kx => repeat (first | exact off_own hoff rfl | refine List.forall_mem_cons.mpr ⟨by walk_at "m off9", ?_⟩)))
  intro r h' tk' c' im' F' N' hIm hT hO hG hKT hR
  obtain ⟨n, tn, rfl, hx⟩ := hR
  obtain rfl : n = 1 := nodup_get hO.ndf hx (prefix_get hG.fns hf1)
  dsimp only [List.nil_append, List.cons_append] at N'
  clear N5 F5
  k_steps
  rename News g L' _ _ => N9
  simp only [List.push_toArray] at N9
  show Q _ _
  refine hret _ _ _ (fun b o e n => Fr.keep (by assumption) b o (hg b o e n)) ?_
  refine' ⟨c', _, _, ⟨_, _, _, _, _, _, _, _, _, _, _, _, _, _, _, _, _, _, _, _, _, _, _⟩, _, rfl, hG, ?ok, ⟨rfl, rfl, rfl⟩, ?nw, ?has⟩
  case has => exact has_app (has_app (has_app (has_app (by walk_at "m has") (by walk_at "m has")) (by walk_at "m has")) (by walk_at "m has")) (fun p hp => (N9 p (by repeat (first | exact rest_bk p hp | refine List.Mem.tail _ ?_))).1)
  case ok => walk_at "m ok"
  case nw => exact ⟨rfl, rfl, rfl, rfl, ⟨by k_ne, by k_ne, by k_ne⟩, back_none N9 (by k_mem) hg (nm_app (by walk_at "m nm") (by walk_at "m off9")), back_none N9 (by k_mem) hg (nm_app (by walk_at "m nm") (by walk_at "m off9")), back_none N9 (by k_mem) hg (nm_app (by walk_at "m nm") (by walk_at "m off9"))⟩
end

def opNum (d : TK) : Int := match d with
  | .pun .cma => 7
  | .pun .bar => 8
  | _ => -1
theorem opNum1 {d : TK} (h : isP d (Str.ofString ",") = true) : opNum d = 7 := by
  cases d with
  | pun x => cases x <;> first | rfl | exact absurd h (by decide +kernel)
  | _ => exact absurd h (by decide)
theorem opNum2 {d : TK} (h : isP d (Str.ofString "|") = true) : opNum d = 8 := by
  cases d with
  | pun x => cases x <;> first | rfl | exact absurd h (by decide +kernel)
  | _ => exact absurd h (by decide)
theorem opNum3 {d : TK} (h1 : isP d (Str.ofString ",") = false) (h2 : isP d (Str.ofString "|") = false) : opNum d = -1 := by
  cases d with
  | pun x => cases x <;> first | rfl | exact absurd h1 (by decide +kernel) | exact absurd h2 (by decide +kernel)
  | _ => rfl
/-- a contract of a call that leaves all as it stood -/
theorem use_same {w : World} {f : Addr} {cost : Nat} {vs : List Value} {ms news : List (Addr × Obj)} {Pre : Heap → Prop} {R : Heap → Value → Prop} (D : Does w f cost vs ms Pre (fun _ h' r => Has h' ms ∧ R h' r))
    {p : Program} {loose : List Str} {mean : ExcName → Option Value} {mg mb : Str → Option Value} {A : Around} {env : Env} {outer : List Env} {A₀ : Around} {base h₀ : Heap} {L : Addr} {m : Str → Option Value} {s : Shared} {Q E : Value → Shared → Prop}
    (B : Below A₀ base outer h₀) (F : Fr h₀ L s.heap m) (X : (Mine.hd.heap_39 w.params).In h₀) (N : News h₀ L s.heap news) (T : Top p loose mean mg mb h₀) (hA : A.frames = some (env :: outer)) (hf : env.frame = some L) (hk : env.scope.kind = .function)
    (hd : A.depth + cost < recursionLimit) (hu : A.units + 8 * cost < cLine) (hh : A.handled = none) (hs : ∀ p ∈ ms, p ∈ news) (hpre : Pre s.heap)
    (k : ∀ r h' tk', Fr h₀ L h' m → News h₀ L h' news → KeepT s.heap h' → R h' r → Q r { s with heap := h', toks := tk' }) :
    wpAny (model PR w) A (call (.ref f) vs) Q E s :=
  use_does D B F X N T hA hf hk hd hu hh hs hpre fun r h' tk' hK hP F' => by
    have all : ∀ b o, s.heap.get? b = some o → h'.get? b = some o := fun b o e => by
      by_cases q : b ∈ ms.map (·.1)
      · obtain ⟨p, hp, rfl⟩ := List.mem_map.mp q
        have := (N p (hs p hp)).1
        rw [e] at this
        rw [hP.1 p hp, Option.some.inj this]
      · exact hK b o e q
    exact k r h' tk' F' (fun p hp => ⟨all _ _ (N p hp).1, (N p hp).2⟩) (.of_keep all) hP.2
theorem tick59 {prog : Program} {w : World} {A : Around} {E : Value → Shared → Prop} {s : Shared} {env : Env} {Q : Flow → Shared → Prop} (h : Q .next s) : wpAny (model prog w) A (execs [] env) Q E s := by
  first | (walk1; exact h) | exact wpAny_execs_nil h
section
set_option maxHeartbeats 8000000 in
theorem opn_oth (w : World) (pv q : Addr) (d : TK) (z : Int) (hk1 : (d.kind == Str.ofString "name") = false) (hk2 : (d.kind == Str.ofString "qname") = false) :
    Does w 458 4 [.ref pv, .ref q] [] (fun h => TupTk h q d z) (fun _ _ r => ∃ t, r = .int (opNum d) t) := by
  walk_at "m fill"
  intro p loose mean mg mb A env outer A₀ base h₀ L m s Q E B F X N T hA hf hk hd hu hh hpre hret
  obtain ⟨ah, dp, fr, gd, un⟩ := A
  obtain rfl : fr = some (env :: outer) := hA
  obtain rfl : ah = none := hh
  replace hd : dp + _ < recursionLimit := hd
  replace hu : un + _ < cLine := hu
  refine wpAny_call ?_
  k_dflt (refine' enterD (binds := [(Str.ofString "self", .ref pv), (Str.ofString "token", .ref q)]) ?k1 ?k2 ?k3 ?k4 ?k5 ?kA ?kF ?kK ?k6 ?k7 ?k8 ?k9 ?kB ?_ ?c2 ?c3 ?c4 ?c5; (case kA => walk_at "m frames"); (case kF => first | assumption | exact rfl); (case kK => first | assumption | exact rfl); (case k1 => k_asm); (case k2 => k_asm); (case k3 => k_asm); (case k4 => k_asm); (case k5 => k_asm); (case k6 => k_is); (case k7 => k_is); (case k8 => walk_at "m room"); (case k9 => first | exact BindsTo.of_eq rfl | exact binds_K (by k_in) rfl (by k_is) rfl rfl rfl); (case c5 => decide); (case kB => exact locs rfl); (case c2 => exact rfl); (case c3 => exact rfl); (case c4 => exact rfl); k_whole)
  intro g L' h₁ F' N' B' X' T' hg hgs
  k_fold
  obtain ⟨ka0, kb0, kc0, hq00⟩ := hpre
  have hqg0 := hg _ _ hq00 (by simp)
  have hqt0 : IsTup g q [.str d.kind ka0, d.val kb0, .int z kc0].toArray := ⟨_, hqg0, rfl, _, rfl⟩
  have htk0 : TupTk g q d z := ⟨_, _, _, hqg0⟩
  k_steps
  all_goals (show Q _ _)
  · exact hret _ _ _ (fun b o e n => Fr.keep (by assumption) b o (hg b o e n)) ⟨_, by rw [opNum1 (by assumption)]⟩
  · exact hret _ _ _ (fun b o e n => Fr.keep (by assumption) b o (hg b o e n)) ⟨_, by rw [opNum2 (by assumption)]⟩
  · exact hret _ _ _ (fun b o e n => Fr.keep (by assumption) b o (hg b o e n)) ⟨_, by rw [opNum3 (by assumption) (by assumption)]⟩
end

theorem tick60 {prog : Program} {w : World} {A : Around} {E : Value → Shared → Prop} {s : Shared} {env : Env} {Q : Flow → Shared → Prop} (h : Q .next s) : wpAny (model prog w) A (execs [] env) Q E s := by
  first | (walk1; exact h) | exact wpAny_execs_nil h
section
local macro_rules | `(tactic| walk_at "call builtin:dict.get") => `(tactic| (k_here; k_dflt (first
  | refine kdg_get1 (knd := PySem.intKind _ _) (by k_asm) (by k_mem) (by assumption) (by assumption) (intKind_is _ _ _ _) none (by first | rfl | exact comma_none (by assumption)) ?_
  | refine kdg_get1 (knd := PySem.intKind _ _) (by k_asm) (by k_mem) (by assumption) (by assumption) (intKind_is _ _ _ _) (some _) (by rfl) ?_); (try dsimp only [Option.getD])))
local macro_rules | `(tactic| walk_at "getMethod ref") => `(tactic| (k_here; (with_reducible show wpAny _ _ (getMethod (Value.ref _) (Str.ofString "get") _) _ _ _); k_dflt (refine kdg_method (knd := PySem.intKind _ _) (by k_asm) (by k_mem) (by assumption) ?_)))
set_option maxHeartbeats 8000000 in
theorem shf_no (w : World) (β : BA) (π : PA) (kp : Tok) (lim : Int) (kl : Tok) (tm : Value) (pr : Int) (kr : Tok) (i : Int) (ω : OA) (a : Int) (at9 : Tok) (hpd : π.pd < π.p) (hoO : OOk w ω) (hord : ω.od < π.o ∧ π.o < ω.pf ∧ ω.pf < ω.nf ∧ ω.nf < ω.qf ∧ ω.qf < π.pd) (hne : a ≠ 7) :
    Does w 479 8 [.ref π.p, .int a at9] (PL w.params β π i kp lim kl tm pr kr ++ OL w.params β π.o ω) (fun _ => True) (fun h h' r => Has h' (PL w.params β π i kp lim kl tm pr kr ++ OL w.params β π.o ω) ∧ r = .bool false) := by
  walk_at "m fill"
  intro p loose mean mg mb A env outer A₀ base h₀ L m s Q E B F X N T hA hf hk hd hu hh hpre hret
  obtain ⟨ah, dp, fr, gd, un⟩ := A
  obtain rfl : fr = some (env :: outer) := hA
  obtain rfl : ah = none := hh
  replace hd : dp + _ < recursionLimit := hd
  replace hu : un + _ < cLine := hu
  obtain ⟨od1, od2, od3, lo1, lo2, lo3⟩ := hoO
  obtain ⟨r1, r2, r3, r4, r5⟩ := hord
  refine wpAny_call ?_
  k_dflt (refine' enterD (binds := [(Str.ofString "self", .ref π.p), (Str.ofString "a", .int a at9)]) ?k1 ?k2 ?k3 ?k4 ?k5 ?kA ?kF ?kK ?k6 ?k7 ?k8 ?k9 ?kB ?_ ?c2 ?c3 ?c4 ?c5; (case kA => walk_at "m frames"); (case kF => first | assumption | exact rfl); (case kK => first | assumption | exact rfl); (case k1 => k_asm); (case k2 => k_asm); (case k3 => k_asm); (case k4 => k_asm); (case k5 => k_asm); (case k6 => k_is); (case k7 => k_is); (case k8 => walk_at "m room"); (case k9 => first | exact BindsTo.of_eq rfl | exact binds_K (by k_in) rfl (by k_is) rfl rfl rfl); (case c5 => decide); (case kB => exact locs rfl); (case c2 => exact rfl); (case c3 => exact rfl); (case c4 => exact rfl); k_whole)
  intro g L' h₁ F' N' B' X' T' hg hgs
  k_fold
  dsimp only [List.cons_append, List.nil_append] at N'
  k_steps
  rename News g L' _ _ => N9
  show Q _ _
  exact hret _ _ _ (fun b o e n => Fr.keep (by assumption) b o (hg b o e n)) ⟨has_app (by walk_at "m has") (by walk_at "m has"), rfl⟩
end

theorem tick61 {prog : Program} {w : World} {A : Around} {E : Value → Shared → Prop} {s : Shared} {env : Env} {Q : Flow → Shared → Prop} (h : Q .next s) : wpAny (model prog w) A (execs [] env) Q E s := by
  first | (walk1; exact h) | exact wpAny_execs_nil h
section
local macro_rules | `(tactic| walk_at "call builtin:dict.get") => `(tactic| (k_here; k_dflt (first
  | refine kdg_get1 (knd := PySem.intKind _ _) (by k_asm) (by k_mem) (by assumption) (by assumption) (intKind_is _ _ _ _) none (by first | rfl | exact comma_none (by assumption)) ?_
  | refine kdg_get1 (knd := PySem.intKind _ _) (by k_asm) (by k_mem) (by assumption) (by assumption) (intKind_is _ _ _ _) (some _) (by rfl) ?_); (try dsimp only [Option.getD])))
local macro_rules | `(tactic| walk_at "getMethod ref") => `(tactic| (k_here; (with_reducible show wpAny _ _ (getMethod (Value.ref _) (Str.ofString "get") _) _ _ _); k_dflt (refine kdg_method (knd := PySem.intKind _ _) (by k_asm) (by k_mem) (by assumption) ?_)))
set_option maxHeartbeats 8000000 in
theorem shf_lim (w : World) (β : BA) (π : PA) (kp : Tok) (lim : Int) (kl : Tok) (tm : Value) (pr : Int) (kr : Tok) (i : Int) (ω : OA) (at9 : Tok) (hpd : π.pd < π.p) (hoO : OOk w ω) (hord : ω.od < π.o ∧ π.o < ω.pf ∧ ω.pf < ω.nf ∧ ω.nf < ω.qf ∧ ω.qf < π.pd) (hl1 : lim ≤ 999) :
    Does w 479 8 [.ref π.p, .int 7 at9] (PL w.params β π i kp lim kl tm pr kr ++ OL w.params β π.o ω) (fun h => IsTup h ω.ct [.int 1000 ω.t1, .str (Str.ofString "xfy") ω.t2].toArray ∧ ω.ct ∉ (PL w.params β π i kp lim kl tm pr kr ++ OL w.params β π.o ω).map (·.1)) (fun h h' r => Has h' (PL w.params β π i kp lim kl tm pr kr ++ OL w.params β π.o ω) ∧ r = .bool false) := by
  walk_at "m fill"
  intro p loose mean mg mb A env outer A₀ base h₀ L m s Q E B F X N T hA hf hk hd hu hh hpre hret
  obtain ⟨ah, dp, fr, gd, un⟩ := A
  obtain rfl : fr = some (env :: outer) := hA
  obtain rfl : ah = none := hh
  replace hd : dp + _ < recursionLimit := hd
  replace hu : un + _ < cLine := hu
  obtain ⟨od1, od2, od3, lo1, lo2, lo3⟩ := hoO
  obtain ⟨r1, r2, r3, r4, r5⟩ := hord
  refine wpAny_call ?_
  k_dflt (refine' enterD (binds := [(Str.ofString "self", .ref π.p), (Str.ofString "a", .int 7 at9)]) ?k1 ?k2 ?k3 ?k4 ?k5 ?kA ?kF ?kK ?k6 ?k7 ?k8 ?k9 ?kB ?_ ?c2 ?c3 ?c4 ?c5; (case kA => walk_at "m frames"); (case kF => first | assumption | exact rfl); (case kK => first | assumption | exact rfl); (case k1 => k_asm); (case k2 => k_asm); (case k3 => k_asm); (case k4 => k_asm); (case k5 => k_asm); (case k6 => k_is); (case k7 => k_is); (case k8 => walk_at "m room"); (case k9 => first | exact BindsTo.of_eq rfl | exact binds_K (by k_in) rfl (by k_is) rfl rfl rfl); (case c5 => decide); (case kB => exact locs rfl); (case c2 => exact rfl); (case c3 => exact rfl); (case c4 => exact rfl); k_whole)
  intro g L' h₁ F' N' B' X' T' hg hgs
  k_fold
  have hct : IsTup g ω.ct [.int 1000 ω.t1, .str (Str.ofString "xfy") ω.t2].toArray := by
    obtain ⟨o9, a9, b9⟩ := hpre.1
    exact ⟨o9, hg _ _ a9 hpre.2, b9⟩
  dsimp only [List.cons_append, List.nil_append] at N'
  k_steps
  rename News g L' _ _ => N9
  show Q _ _
  exact hret _ _ _ (fun b o e n => Fr.keep (by assumption) b o (hg b o e n)) ⟨has_app (by walk_at "m has") (by walk_at "m has"), rfl⟩
end

theorem tick62 {prog : Program} {w : World} {A : Around} {E : Value → Shared → Prop} {s : Shared} {env : Env} {Q : Flow → Shared → Prop} (h : Q .next s) : wpAny (model prog w) A (execs [] env) Q E s := by
  first | (walk1; exact h) | exact wpAny_execs_nil h
section
local macro_rules | `(tactic| walk_at "call builtin:dict.get") => `(tactic| (k_here; k_dflt (first
  | refine kdg_get1 (knd := PySem.intKind _ _) (by k_asm) (by k_mem) (by assumption) (by assumption) (intKind_is _ _ _ _) none (by first | rfl | exact comma_none (by assumption)) ?_
  | refine kdg_get1 (knd := PySem.intKind _ _) (by k_asm) (by k_mem) (by assumption) (by assumption) (intKind_is _ _ _ _) (some _) (by rfl) ?_); (try dsimp only [Option.getD])))
local macro_rules | `(tactic| walk_at "getMethod ref") => `(tactic| (k_here; (with_reducible show wpAny _ _ (getMethod (Value.ref _) (Str.ofString "get") _) _ _ _); k_dflt (refine kdg_method (knd := PySem.intKind _ _) (by k_asm) (by k_mem) (by assumption) ?_)))
set_option maxHeartbeats 8000000 in
theorem pfx_no (w : World) (β : BA) (π : PA) (kp : Tok) (lim : Int) (kl : Tok) (tm : Value) (pr : Int) (kr : Tok) (i : Int) (ω : OA) (a : Int) (at9 : Tok) (hpd : π.pd < π.p) (hoO : OOk w ω) (hord : ω.od < π.o ∧ π.o < ω.pf ∧ ω.pf < ω.nf ∧ ω.nf < ω.qf ∧ ω.qf < π.pd) :
    Does w 486 8 [.ref π.p, .int a at9] (PL w.params β π i kp lim kl tm pr kr ++ OL w.params β π.o ω) (fun _ => True) (fun h h' r => Has h' (PL w.params β π i kp lim kl tm pr kr ++ OL w.params β π.o ω) ∧ r = .bool false) := by
  walk_at "m fill"
  intro p loose mean mg mb A env outer A₀ base h₀ L m s Q E B F X N T hA hf hk hd hu hh hpre hret
  obtain ⟨ah, dp, fr, gd, un⟩ := A
  obtain rfl : fr = some (env :: outer) := hA
  obtain rfl : ah = none := hh
  replace hd : dp + _ < recursionLimit := hd
  replace hu : un + _ < cLine := hu
  obtain ⟨od1, od2, od3, lo1, lo2, lo3⟩ := hoO
  obtain ⟨r1, r2, r3, r4, r5⟩ := hord
  refine wpAny_call ?_
  k_dflt (refine' enterD (binds := [(Str.ofString "self", .ref π.p), (Str.ofString "a", .int a at9)]) ?k1 ?k2 ?k3 ?k4 ?k5 ?kA ?kF ?kK ?k6 ?k7 ?k8 ?k9 ?kB ?_ ?c2 ?c3 ?c4 ?c5; (case kA => walk_at "m frames"); (case kF => first | assumption | exact rfl); (case kK => first | assumption | exact rfl); (case k1 => k_asm); (case k2 => k_asm); (case k3 => k_asm); (case k4 => k_asm); (case k5 => k_asm); (case k6 => k_is); (case k7 => k_is); (case k8 => walk_at "m room"); (case k9 => first | exact BindsTo.of_eq rfl | exact binds_K (by k_in) rfl (by k_is) rfl rfl rfl); (case c5 => decide); (case kB => exact locs rfl); (case c2 => exact rfl); (case c3 => exact rfl); (case c4 => exact rfl); k_whole)
  intro g L' h₁ F' N' B' X' T' hg hgs
  k_fold
  dsimp only [List.cons_append, List.nil_append] at N'
  k_steps
  rename News g L' _ _ => N9
  show Q _ _
  exact hret _ _ _ (fun b o e n => Fr.keep (by assumption) b o (hg b o e n)) ⟨has_app (by walk_at "m has") (by walk_at "m has"), rfl⟩
end

/-- what a frame of the parser's stack is -/
inductive Fk where
  | round
  | curly
  | args (ts : List T)
  | list (ts : List T)
  | tail (ts : List T)
  | op (l : T)
structure St where
  w : Bool
  i : Nat
  fs : List (Fk × Int)
  lim : Int
  pr : Int
  tm : T
inductive Res where
  | next (s : St)
  | done
  | flt (k : Str) (j : Nat)
  | stuck
def stepO (sg : List Sg) (s : St) : Res := match sg[s.i]? with
  | some .atm => .next { s with w := true, i := s.i + 1, pr := 0, tm := .a }
  | some .num => .next { s with w := true, i := s.i + 1, pr := 0, tm := .seven }
  | some .lp => .next { s with i := s.i + 1, fs := (.round, s.lim) :: s.fs, lim := 1200 }
  | some .fp => .next { s with i := s.i + 1, fs := (.args [], s.lim) :: s.fs, lim := 999 }
  | some .lb => if sg[s.i + 1]? = some .rb then .next { s with w := true, i := s.i + 2, pr := 0, tm := .nil } else .next { s with i := s.i + 1, fs := (.list [], s.lim) :: s.fs, lim := 999 }
  | some .lc => if sg[s.i + 1]? = some .rc then .next { s with w := true, i := s.i + 2, pr := 0, tm := .curl } else .next { s with i := s.i + 1, fs := (.curly, s.lim) :: s.fs, lim := 1200 }
  | some _ => .flt (Str.ofString "unexpected_token") s.i
  | none => .stuck
def bad (x : Sg) (i : Nat) : Res := .flt (stopKind x (Str.ofString "operator_expected")) i
def stepR (sg : List Sg) (s : St) : Res := match sg[s.i]? with
  | none => .stuck
  | some x =>
    if x = .cma ∧ 1000 ≤ s.lim then if s.pr ≤ 999 then .next { s with w := false, i := s.i + 1, fs := (.op s.tm, s.lim) :: s.fs, lim := 1000 } else .stuck
    else match s.fs with
    | [] => .done
    | (.op l, b) :: fs => .next { s with fs := fs, lim := b, pr := 1000, tm := .comma l s.tm }
    | (.round, b) :: fs => if x = .rp then .next { s with i := s.i + 1, fs := fs, lim := b, pr := 0 } else bad x s.i
    | (.curly, b) :: fs => if x = .rc then .next { s with i := s.i + 1, fs := fs, lim := b, pr := 0, tm := .brace s.tm } else bad x s.i
    | (.tail ts, b) :: fs => if x = .rb then .next { s with i := s.i + 1, fs := fs, lim := b, pr := 0, tm := dots ts s.tm } else bad x s.i
    | (.args ts, b) :: fs =>
      if x = .cma then .next { s with w := false, i := s.i + 1, fs := (.args (ts ++ [s.tm]), b) :: fs, lim := 999 }
      else if x = .rp then .next { s with i := s.i + 1, fs := fs, lim := b, pr := 0, tm := .f (ts ++ [s.tm]) } else bad x s.i
    | (.list ts, b) :: fs =>
      if x = .cma then .next { s with w := false, i := s.i + 1, fs := (.list (ts ++ [s.tm]), b) :: fs, lim := 999 }
      else if x = .bar then .next { s with w := false, i := s.i + 1, fs := (.tail (ts ++ [s.tm]), b) :: fs, lim := 999 }
      else if x = .rb then .next { s with i := s.i + 1, fs := fs, lim := b, pr := 0, tm := dots (ts ++ [s.tm]) .nil } else bad x s.i
def step (sg : List Sg) (s : St) : Res := if s.w then stepR sg s else stepO sg s
inductive Runs (sg : List Sg) : Nat → St → R → Prop
  | done {s : St} : step sg s = .done → Runs sg 0 s (.inl (s.tm, s.i))
  | flt {s : St} {k : Str} {j : Nat} : step sg s = .flt k j → Runs sg 0 s (.inr (k, j))
  | next {s s' : St} {n : Nat} {r : R} : step sg s = .next s' → Runs sg n s' r → Runs sg (n + 1) s r
def Go (sg : List Sg) (s s' : St) (k : Nat) : Prop := ∀ m r, Runs sg m s' r → ∃ m', m' ≤ m + k ∧ Runs sg m' s r
theorem Go.one {sg : List Sg} {s s' : St} {k : Nat} (h : step sg s = .next s') (hk : 1 ≤ k) : Go sg s s' k := fun m _ x => ⟨m + 1, by omega, .next h x⟩
theorem Go.trans {sg : List Sg} {s s' s'' : St} {k k' n : Nat} (a : Go sg s s' k) (b : Go sg s' s'' k') (h : k + k' ≤ n) : Go sg s s'' n := fun m r x => by
  obtain ⟨m1, h1, x1⟩ := b m r x
  obtain ⟨m2, h2, x2⟩ := a m1 r x1
  exact ⟨m2, by omega, x2⟩
/-- it ends so, in at most k steps -/
def Ends (sg : List Sg) (s : St) (r : R) (k : Nat) : Prop := ∃ m, m ≤ k ∧ Runs sg m s r
theorem Go.ends {sg : List Sg} {s s' : St} {r : R} {k k' n : Nat} (a : Go sg s s' k) (b : Ends sg s' r k') (h : k + k' ≤ n) : Ends sg s r n := by
  obtain ⟨m, h1, x⟩ := b
  obtain ⟨m', h2, y⟩ := a m r x
  exact ⟨m', by omega, y⟩
theorem Ends.le {sg : List Sg} {s : St} {r : R} {k n : Nat} (a : Ends sg s r k) (h : k ≤ n) : Ends sg s r n := by
  obtain ⟨m, h1, x⟩ := a
  exact ⟨m, by omega, x⟩
theorem ends_flt {sg : List Sg} {s : St} {k : Str} {j n : Nat} (h : step sg s = .flt k j) : Ends sg s (.inr (k, j)) n := ⟨0, Nat.zero_le _, .flt h⟩
def SimO (sg : List Sg) (n : Nat) : Prop := ∀ i fs lim pr tm, i < sg.length → 2 * (sg.length - i) + 1 ≤ n → match operandS sg n i with
  | .inl (t, j) => Go sg ⟨false, i, fs, lim, pr, tm⟩ ⟨true, j, fs, lim, 0, t⟩ (3 * (j - i) - 1)
  | .inr st => Ends sg ⟨false, i, fs, lim, pr, tm⟩ (.inr st) (3 * (sg.length - i))
def SimI (sg : List Sg) (n : Nat) : Prop := ∀ i cl ts fr fs b pr tm, (cl = .rp ∧ fr = .args ts) ∨ (cl = .rb ∧ fr = .list ts) → i < sg.length → 2 * (sg.length - i) + 2 ≤ n → match itemsS sg n i cl ts with
  | .inl (t, j) => Go sg ⟨false, i, (fr, b) :: fs, 999, pr, tm⟩ ⟨true, j, fs, b, 0, t⟩ (3 * (j - i))
  | .inr st => Ends sg ⟨false, i, (fr, b) :: fs, 999, pr, tm⟩ (.inr st) (3 * (sg.length - i))
def SimW (sg : List Sg) (n : Nat) : Prop := ∀ i fs lim pr tm, 1000 ≤ lim → i < sg.length → 2 * (sg.length - i) + 2 ≤ n → match wholeS sg n i with
  | .inl (t, j) => sg[j]? ≠ some .cma ∧ ∃ pr', Go sg ⟨false, i, fs, lim, pr, tm⟩ ⟨true, j, fs, lim, pr', t⟩ (3 * (j - i) - 1)
  | .inr st => Ends sg ⟨false, i, fs, lim, pr, tm⟩ (.inr st) (3 * (sg.length - i))
theorem stopR_eq {sg : List Sg} {j : Nat} {x : Sg} (h : sg[j]? = some x) (o : Str) : stopR sg j o = .inr (stopKind x o, j) := by simp only [stopR, h]

theorem sim_op {sg : List Sg} (w : WF sg) {n : Nat} (hI : SimI sg n) (hW : SimW sg n) : SimO sg (n + 1) := by
  intro i fs lim pr tm hi hn
  obtain ⟨x, hx⟩ : ∃ x, sg[i]? = some x := ⟨_, List.getElem?_eq_getElem hi⟩
  have lt : x ≠ .dot → i + 1 < sg.length := fun e => w.lt hx e
  cases x with
  | atm => rw [operandS, hx]; exact Go.one (by simp only [step, stepO, hx]; rfl) (by omega)
  | num => rw [operandS, hx]; exact Go.one (by simp only [step, stepO, hx]; rfl) (by omega)
  | rp | rb | rc | cma | bar | dot => rw [operandS, hx]; exact ends_flt (by simp only [step, stepO, hx]; rfl)
  | fp =>
    have l := lt (by decide)
    have a : Go sg ⟨false, i, fs, lim, pr, tm⟩ ⟨false, i + 1, (.args [], lim) :: fs, 999, pr, tm⟩ 1 := Go.one (by simp only [step, stepO, hx]; rfl) (Nat.le_refl _)
    have z := hI (i + 1) .rp [] (.args []) fs lim pr tm (.inl ⟨rfl, rfl⟩) l (by omega)
    have ok := (descent_ok w n).2.1 (i + 1) .rp [] (.inl rfl) l
    rw [operandS, hx]
    dsimp only
    rcases q : itemsS sg n (i + 1) .rp [] with ⟨t, j⟩ | st
    · rw [q] at z ok
      obtain ⟨o1, o2⟩ := ok
      exact a.trans z (by omega)
    · rw [q] at z
      exact a.ends z (by omega)
  | lb =>
    have l := lt (by decide)
    rw [operandS, hx]
    dsimp only
    by_cases e : sg[i + 1]? = some .rb
    · rw [if_pos e]; exact Go.one (by simp only [step, stepO, hx, e, if_true]; rfl) (by omega)
    · rw [if_neg e]
      have a : Go sg ⟨false, i, fs, lim, pr, tm⟩ ⟨false, i + 1, (.list [], lim) :: fs, 999, pr, tm⟩ 1 := Go.one (by simp only [step, stepO, hx, e, if_false]; rfl) (Nat.le_refl _)
      have z := hI (i + 1) .rb [] (.list []) fs lim pr tm (.inr ⟨rfl, rfl⟩) l (by omega)
      have ok := (descent_ok w n).2.1 (i + 1) .rb [] (.inr rfl) l
      rcases q : itemsS sg n (i + 1) .rb [] with ⟨t, j⟩ | st
      · rw [q] at z ok
        obtain ⟨o1, o2⟩ := ok
        exact a.trans z (by omega)
      · rw [q] at z
        exact a.ends z (by omega)
  | lc =>
    have l := lt (by decide)
    rw [operandS, hx]
    dsimp only
    by_cases e : sg[i + 1]? = some .rc
    · rw [if_pos e]; exact Go.one (by simp only [step, stepO, hx, e, if_true]; rfl) (by omega)
    · rw [if_neg e]
      have a : Go sg ⟨false, i, fs, lim, pr, tm⟩ ⟨false, i + 1, (.curly, lim) :: fs, 1200, pr, tm⟩ 1 := Go.one (by simp only [step, stepO, hx, e, if_false]; rfl) (Nat.le_refl _)
      have z := hW (i + 1) ((.curly, lim) :: fs) 1200 pr tm (by omega) l (by omega)
      have ok := (descent_ok w n).2.2 (i + 1) l
      rcases q : wholeS sg n (i + 1) with ⟨t, j⟩ | st
      · rw [q] at z ok
        obtain ⟨o1, o2⟩ := ok
        obtain ⟨nc, pr', z⟩ := z
        dsimp only
        obtain ⟨y, hy⟩ : ∃ y, sg[j]? = some y := ⟨_, List.getElem?_eq_getElem o2⟩
        have ny : y ≠ .cma := fun e => nc (e ▸ hy)
        by_cases e2 : y = .rc
        · subst e2
          rw [if_pos hy]
          exact a.trans (z.trans (Go.one (by simp only [step, stepR, hy]; rfl) (Nat.le_refl 1)) (Nat.le_refl _)) (by omega)
        · rw [if_neg (by rw [hy]; exact fun q => e2 (Option.some.inj q)), stopR_eq hy]
          exact a.ends (z.ends (ends_flt (n := 0) (by simp only [step, stepR, hy, ny, e2, if_true, if_false, false_and, bad])) (Nat.le_refl _)) (by omega)
      · rw [q] at z
        exact a.ends z (by omega)
  | lp =>
    have l := lt (by decide)
    rw [operandS, hx]
    dsimp only
    have a : Go sg ⟨false, i, fs, lim, pr, tm⟩ ⟨false, i + 1, (.round, lim) :: fs, 1200, pr, tm⟩ 1 := Go.one (by simp only [step, stepO, hx]; rfl) (Nat.le_refl _)
    have z := hW (i + 1) ((.round, lim) :: fs) 1200 pr tm (by omega) l (by omega)
    have ok := (descent_ok w n).2.2 (i + 1) l
    rcases q : wholeS sg n (i + 1) with ⟨t, j⟩ | st
    · rw [q] at z ok
      obtain ⟨o1, o2⟩ := ok
      obtain ⟨nc, pr', z⟩ := z
      dsimp only
      obtain ⟨y, hy⟩ : ∃ y, sg[j]? = some y := ⟨_, List.getElem?_eq_getElem o2⟩
      have ny : y ≠ .cma := fun e => nc (e ▸ hy)
      by_cases e2 : y = .rp
      · subst e2
        rw [if_pos hy]
        exact a.trans (z.trans (Go.one (by simp only [step, stepR, hy]; rfl) (Nat.le_refl 1)) (Nat.le_refl _)) (by omega)
      · rw [if_neg (by rw [hy]; exact fun q => e2 (Option.some.inj q)), stopR_eq hy]
        exact a.ends (z.ends (ends_flt (n := 0) (by simp only [step, stepR, hy, ny, e2, if_true, if_false, false_and, bad])) (Nat.le_refl _)) (by omega)
    · rw [q] at z
      exact a.ends z (by omega)

theorem sim_wh {sg : List Sg} (w : WF sg) {n : Nat} (hO : SimO sg n) (hW : SimW sg n) : SimW sg (n + 1) := by
  intro i fs lim pr tm hl hi hn
  have z := hO i fs lim pr tm hi (by omega)
  have ok := (descent_ok w n).1 i hi
  rw [wholeS]
  rcases q : operandS sg n i with ⟨t, j⟩ | st
  · rw [q] at z ok
    obtain ⟨o1, o2⟩ := ok
    dsimp only
    by_cases e : sg[j]? = some .cma
    · rw [if_pos e]
      have l := w.lt e (by decide)
      have a : Go sg ⟨true, j, fs, lim, 0, t⟩ ⟨false, j + 1, (.op t, lim) :: fs, 1000, 0, t⟩ 1 := Go.one (by simp only [step, stepR, e, hl, and_self, if_true]; rfl) (Nat.le_refl _)
      have y := hW (j + 1) ((.op t, lim) :: fs) 1000 0 t (by omega) l (by omega)
      have ok2 := (descent_ok w n).2.2 (j + 1) l
      rcases q2 : wholeS sg n (j + 1) with ⟨u, k⟩ | st
      · rw [q2] at y ok2
        obtain ⟨p1, p2⟩ := ok2
        obtain ⟨nc, pr', y⟩ := y
        dsimp only
        obtain ⟨v, hv⟩ : ∃ v, sg[k]? = some v := ⟨_, List.getElem?_eq_getElem p2⟩
        have nv : v ≠ .cma := fun e => nc (e ▸ hv)
        refine ⟨nc, 1000, z.trans (a.trans (y.trans (Go.one (k := 1) ?_ (Nat.le_refl _)) (Nat.le_refl _)) (Nat.le_refl _)) (by omega)⟩
        simp only [step, stepR, hv, nv, false_and, if_true, if_false]
      · rw [q2] at y
        exact z.ends (a.ends y (Nat.le_refl _)) (by omega)
    · rw [if_neg e]
      exact ⟨e, 0, z⟩
  · rw [q] at z
    exact z

theorem sim_it {sg : List Sg} (w : WF sg) {n : Nat} (hO : SimO sg n) (hO' : SimO sg n) (hI : SimI sg n) : SimI sg (n + 1) := by
  intro i cl ts fr fs b pr tm hcl hi hn
  have z := hO i ((fr, b) :: fs) 999 pr tm hi (by omega)
  have ok := (descent_ok w n).1 i hi
  rw [itemsS]
  rcases q : operandS sg n i with ⟨t, j⟩ | st
  · rw [q] at z ok
    obtain ⟨o1, o2⟩ := ok
    dsimp only
    obtain ⟨y, hy⟩ : ∃ y, sg[j]? = some y := ⟨_, List.getElem?_eq_getElem o2⟩
    by_cases e : sg[j]? = some .bar ∧ cl = .rb
    · rw [if_pos e]
      obtain ⟨e1, rfl⟩ := e
      obtain ⟨-, rfl⟩ : Sg.rb = .rb ∧ fr = .list ts := hcl.elim (fun x => absurd x.1 (by decide)) id
      have l := w.lt e1 (by decide)
      have a : Go sg ⟨true, j, (.list ts, b) :: fs, 999, 0, t⟩ ⟨false, j + 1, (.tail (ts ++ [t]), b) :: fs, 999, 0, t⟩ 1 := Go.one (by simp only [step, stepR, e1]; rfl) (Nat.le_refl _)
      have y2 := hO' (j + 1) ((.tail (ts ++ [t]), b) :: fs) 999 0 t l (by omega)
      have ok2 := (descent_ok w n).1 (j + 1) l
      rcases q2 : operandS sg n (j + 1) with ⟨u, k⟩ | st
      · rw [q2] at y2 ok2
        obtain ⟨p1, p2⟩ := ok2
        dsimp only
        obtain ⟨v, hv⟩ : ∃ v, sg[k]? = some v := ⟨_, List.getElem?_eq_getElem p2⟩
        by_cases e2 : v = .rb
        · subst e2
          rw [if_pos hv]
          exact z.trans (a.trans (y2.trans (Go.one (k := 1) (by simp only [step, stepR, hv]; rfl) (Nat.le_refl _)) (Nat.le_refl _)) (Nat.le_refl _)) (by omega)
        · rw [if_neg (by rw [hv]; exact fun q => e2 (Option.some.inj q)), stopR_eq hv]
          refine z.ends (a.ends (y2.ends (ends_flt (n := 0) ?_) (Nat.le_refl _)) (Nat.le_refl _)) (by omega)
          simp only [step, stepR, hv, e2, if_true, if_false, bad, show ¬ ((1000 : Int) ≤ 999) from by omega, and_false]
      · rw [q2] at y2
        exact z.ends (a.ends y2 (Nat.le_refl _)) (by omega)
    · rw [if_neg e]
      have no9 : ¬ ((1000 : Int) ≤ 999) := by omega
      by_cases e2 : sg[j]? = some cl
      · rw [if_pos e2]
        rcases hcl with ⟨rfl, rfl⟩ | ⟨rfl, rfl⟩
        · exact z.trans (Go.one (k := 1) (by simp only [step, stepR, e2]; rfl) (Nat.le_refl _)) (by omega)
        · exact z.trans (Go.one (k := 1) (by simp only [step, stepR, e2]; rfl) (Nat.le_refl _)) (by omega)
      · rw [if_neg e2]
        by_cases e3 : sg[j]? = some .cma
        · rw [if_pos e3]
          have l := w.lt e3 (by decide)
          have ok2 := (descent_ok w n).2.1 (j + 1) cl (ts ++ [t]) (hcl.elim (fun x => .inl x.1) (fun x => .inr x.1)) l
          have go : ∀ fr', (cl = .rp ∧ fr' = .args (ts ++ [t])) ∨ (cl = .rb ∧ fr' = .list (ts ++ [t])) → Go sg ⟨true, j, (fr, b) :: fs, 999, 0, t⟩ ⟨false, j + 1, (fr', b) :: fs, 999, 0, t⟩ 1 → (match itemsS sg n (j + 1) cl (ts ++ [t]) with
            | .inl (t, j) => Go sg ⟨false, i, (fr, b) :: fs, 999, pr, tm⟩ ⟨true, j, fs, b, 0, t⟩ (3 * (j - i))
            | .inr st => Ends sg ⟨false, i, (fr, b) :: fs, 999, pr, tm⟩ (.inr st) (3 * (sg.length - i))) := fun fr' h a => by
            have y2 := hI (j + 1) cl (ts ++ [t]) fr' fs b 0 t h l (by omega)
            rcases q2 : itemsS sg n (j + 1) cl (ts ++ [t]) with ⟨u, k⟩ | st
            · rw [q2] at y2 ok2
              obtain ⟨p1, p2⟩ := ok2
              exact z.trans (a.trans y2 (Nat.le_refl _)) (by omega)
            · rw [q2] at y2
              exact z.ends (a.ends y2 (Nat.le_refl _)) (by omega)
          rcases hcl with ⟨rfl, rfl⟩ | ⟨rfl, rfl⟩
          · exact go _ (.inl ⟨rfl, rfl⟩) (Go.one (by simp only [step, stepR, e3]; rfl) (Nat.le_refl _))
          · exact go _ (.inr ⟨rfl, rfl⟩) (Go.one (by simp only [step, stepR, e3]; rfl) (Nat.le_refl _))
        · rw [if_neg e3, stopR_eq hy]
          have n3 : y ≠ .cma := fun q => e3 (q ▸ hy)
          have n2 : y ≠ cl := fun q => e2 (q ▸ hy)
          refine z.ends (ends_flt (n := 0) ?_) (by omega)
          rcases hcl with ⟨rfl, rfl⟩ | ⟨rfl, rfl⟩
          · simp only [step, stepR, hy, n3, n2, no9, and_false, if_true, if_false, bad]
          · have n4 : y ≠ .bar := fun q => e ⟨q ▸ hy, rfl⟩
            simp only [step, stepR, hy, n3, n2, n4, no9, and_false, if_true, if_false, bad]
  · rw [q] at z
    exact z

theorem sim_all {sg : List Sg} (w : WF sg) : ∀ n : Nat, SimO sg n ∧ SimI sg n ∧ SimW sg n
  | 0 => ⟨fun i fs lim pr tm _ h => by omega, fun i cl ts fr fs b pr tm _ _ h => by omega, fun i fs lim pr tm _ _ h => by omega⟩
  | n + 1 => by
    obtain ⟨h1, h2, h3⟩ := sim_all w n
    exact ⟨sim_op w h2 h3, sim_it w h1 h1 h2, sim_wh w h1 h3⟩
/-- the machine does what the descent says -/
theorem machine {sg : List Sg} (w : WF sg) {n : Nat} (hn : 2 * sg.length + 2 ≤ n) : ∃ m, m ≤ 3 * sg.length ∧ Runs sg m ⟨false, 0, [], 1200, 0, .nil⟩ (wholeS sg n 0) := by
  have z := (sim_all w n).2.2 0 [] 1200 0 .nil (by omega) w.pos (by omega)
  have ok := (descent_ok w n).2.2 0 w.pos
  rcases q : wholeS sg n 0 with ⟨t, j⟩ | st
  · rw [q] at z ok
    obtain ⟨o1, o2⟩ := ok
    obtain ⟨nc, pr', z⟩ := z
    obtain ⟨y, hy⟩ : ∃ y, sg[j]? = some y := ⟨_, List.getElem?_eq_getElem o2⟩
    have ny : y ≠ .cma := fun e => nc (e ▸ hy)
    obtain ⟨m, h, x⟩ := z 0 (.inl (t, j)) (.done (s := ⟨true, j, [], 1200, pr', t⟩) (by simp only [step, stepR, hy, ny, false_and, if_true, if_false]))
    exact ⟨m, by omega, x⟩
  · rw [q] at z
    obtain ⟨m, h, x⟩ := z
    exact ⟨m, by omega, x⟩
/-- what holds of a state on the way -/
def itemsF : Fk → Nat
  | .args ts | .list ts | .tail ts => ts.length
  | _ => 0
structure StOk (sg : List Sg) (s : St) : Prop where
  lt : s.i < sg.length
  fl : s.fs.length ≤ s.i
  it : ∀ f ∈ s.fs, itemsF f.1 ≤ s.i
  nc : s.w = false → True
theorem st_ok {sg : List Sg} (w : WF sg) {s s' : St} (o : StOk sg s) (h : step sg s = .next s') : StOk sg s' := by
  obtain ⟨x, hx⟩ : ∃ x, sg[s.i]? = some x := ⟨_, List.getElem?_eq_getElem o.lt⟩
  have up : ∀ f ∈ s.fs, itemsF f.1 ≤ s.i + 1 := fun f hf => Nat.le_succ_of_le (o.it f hf)
  have up2 : ∀ f ∈ s.fs, itemsF f.1 ≤ s.i + 2 := fun f hf => Nat.le_succ_of_le (up f hf)
  have hl := o.fl
  have push : ∀ (k : Fk) (b : Int), itemsF k = 0 → ∀ f ∈ ((k, b) :: s.fs), itemsF f.1 ≤ s.i + 1 := fun k b e f hf => (List.mem_cons.mp hf).elim (fun q => by rw [q, e]; exact Nat.zero_le _) (up f)
  unfold step at h
  cases hw : s.w with
  | false =>
    rw [hw, if_neg (by decide)] at h
    unfold stepO at h
    rw [hx] at h
    cases x with
    | atm => injection h with h; subst h; exact ⟨w.lt hx (by decide), by dsimp only; omega, up, fun _ => trivial⟩
    | num => injection h with h; subst h; exact ⟨w.lt hx (by decide), by dsimp only; omega, up, fun _ => trivial⟩
    | lp => injection h with h; subst h; exact ⟨w.lt hx (by decide), by simpa using hl, push _ _ rfl, fun _ => trivial⟩
    | fp => injection h with h; subst h; exact ⟨w.lt hx (by decide), by simpa using hl, push _ _ rfl, fun _ => trivial⟩
    | lb =>
      dsimp only at h
      split at h
      · rename_i e; injection h with h; subst h; exact ⟨w.lt e (by decide), by dsimp only; omega, up2, fun _ => trivial⟩
      · injection h with h; subst h; exact ⟨w.lt hx (by decide), by simpa using hl, push _ _ rfl, fun _ => trivial⟩
    | lc =>
      dsimp only at h
      split at h
      · rename_i e; injection h with h; subst h; exact ⟨w.lt e (by decide), by dsimp only; omega, up2, fun _ => trivial⟩
      · injection h with h; subst h; exact ⟨w.lt hx (by decide), by simpa using hl, push _ _ rfl, fun _ => trivial⟩
    | rp | rb | rc | cma | bar | dot => cases h
  | true =>
    rw [hw, if_pos rfl] at h
    unfold stepR at h
    rw [hx] at h
    dsimp only at h
    split at h
    · rename_i e
      split at h
      · injection h with h; subst h; exact ⟨w.lt hx (by rw [e.1]; decide), by simpa using hl, push _ _ rfl, fun _ => trivial⟩
      · cases h
    · rename_i hnc
      have hit := o.it
      have pop : ∀ (y : Sg), x = y → y ≠ .dot → s.i + 1 < sg.length := fun y e ne => w.lt hx (e ▸ ne)
      have grow : ∀ (ts : List T) (b : Int) (fs : List (Fk × Int)) (k k' : Fk), s.fs = (k, b) :: fs → itemsF k = ts.length → itemsF k' = ts.length + 1 → ∀ f ∈ ((k', b) :: fs), itemsF f.1 ≤ s.i + 1 := fun ts b fs k k' e e1 e2 f hf => by
        rw [e] at hit
        rcases List.mem_cons.mp hf with q | q
        · have := hit _ (.head _); rw [q]; dsimp only at this ⊢; omega
        · exact Nat.le_succ_of_le (hit f (.tail _ q))
      split at h
      · cases h
      · rename_i l b fs e
        injection h with h; subst h
        rw [e] at hl hit
        exact ⟨o.lt, by dsimp only; simp at hl; omega, fun f hf => hit f (.tail _ hf), fun _ => trivial⟩
      · rename_i b fs e
        rw [e] at hl
        split at h
        · rename_i e2
          injection h with h; subst h
          rw [e] at hit
          exact ⟨pop _ e2 (by decide), by dsimp only; simp at hl; omega, fun f hf => Nat.le_succ_of_le (hit f (.tail _ hf)), fun _ => trivial⟩
        · cases h
      · rename_i b fs e
        rw [e] at hl
        split at h
        · rename_i e2
          injection h with h; subst h
          rw [e] at hit
          exact ⟨pop _ e2 (by decide), by dsimp only; simp at hl; omega, fun f hf => Nat.le_succ_of_le (hit f (.tail _ hf)), fun _ => trivial⟩
        · cases h
      · rename_i ts b fs e
        rw [e] at hl
        split at h
        · rename_i e2
          injection h with h; subst h
          rw [e] at hit
          exact ⟨pop _ e2 (by decide), by dsimp only; simp at hl; omega, fun f hf => Nat.le_succ_of_le (hit f (.tail _ hf)), fun _ => trivial⟩
        · cases h
      · rename_i ts b fs e
        rw [e] at hl
        split at h
        · rename_i e2
          injection h with h; subst h
          exact ⟨pop _ e2 (by decide), by dsimp only; simp at hl ⊢; omega, grow ts b fs _ _ e rfl (by simp [itemsF]), fun _ => trivial⟩
        · split at h
          · rename_i e2
            injection h with h; subst h
            rw [e] at hit
            exact ⟨pop _ e2 (by decide), by dsimp only; simp at hl; omega, fun f hf => Nat.le_succ_of_le (hit f (.tail _ hf)), fun _ => trivial⟩
          · cases h
      · rename_i ts b fs e
        rw [e] at hl
        split at h
        · rename_i e2
          injection h with h; subst h
          exact ⟨pop _ e2 (by decide), by dsimp only; simp at hl ⊢; omega, grow ts b fs _ _ e rfl (by simp [itemsF]), fun _ => trivial⟩
        · split at h
          · rename_i e2
            injection h with h; subst h
            exact ⟨pop _ e2 (by decide), by dsimp only; simp at hl ⊢; omega, grow ts b fs _ _ e rfl (by simp [itemsF]), fun _ => trivial⟩
          · split at h
            · rename_i e2
              injection h with h; subst h
              rw [e] at hit
              exact ⟨pop _ e2 (by decide), by dsimp only; simp at hl; omega, fun f hf => Nat.le_succ_of_le (hit f (.tail _ hf)), fun _ => trivial⟩
            · cases h

/-- a call upon the whole ledger, which it hands back changed; all tuples stand behind it -/
theorem use_swap {ι : Type} {w : World} {f : Addr} {cost : Nat} {vs : List Value} {PLs R : List (Addr × Obj)} {Y : ι → List (Addr × Obj)} {c : ι} {Pre : Heap → Prop} {Rl : ι → Heap → Heap → Value → Prop} (D : Does w f cost vs (PLs ++ Y c) Pre (fun h h' r => ∃ c', Has h' (PLs ++ Y c') ∧ Rl c' h h' r)) (hadr : ∀ c', (Y c').map (·.1) = (Y c).map (·.1))
    {p : Program} {loose : List Str} {mean : ExcName → Option Value} {mg mb : Str → Option Value} {A : Around} {env : Env} {outer : List Env} {A₀ : Around} {base h₀ : Heap} {L : Addr} {m : Str → Option Value} {s : Shared} {Q E : Value → Shared → Prop}
    (B : Below A₀ base outer h₀) (F : Fr h₀ L s.heap m) (X : (Mine.hd.heap_39 w.params).In h₀) (N : News h₀ L s.heap (PLs ++ R)) (T : Top p loose mean mg mb h₀) (hA : A.frames = some (env :: outer)) (hf : env.frame = some L) (hk : env.scope.kind = .function)
    (hd : A.depth + cost < recursionLimit) (hu : A.units + 8 * cost < cLine) (hh : A.handled = none) (hYR : ∀ x ∈ Y c, x ∈ R) (hpre : Pre s.heap)
    (k : ∀ r h' tk' c' R', Fr h₀ L h' m → News h₀ L h' (PLs ++ R') → (∀ x ∈ Y c', x ∈ R') → (∀ h'' m'', Fr h₀ L h'' m'' → News h₀ L h'' (PLs ++ R') → KeepT h' h'') → Rl c' s.heap h' r → Q r { s with heap := h', toks := tk' }) :
    wpAny (model PR w) A (call (.ref f) vs) Q E s := by
  have hs : ∀ x ∈ PLs ++ Y c, x ∈ PLs ++ R := fun x hx => (List.mem_append.mp hx).elim (fun q => List.mem_append_left _ q) (fun q => List.mem_append_right _ (hYR x q))
  refine use_does D B F X N T hA hf hk hd hu hh hs hpre fun r h' tk' _ ⟨c', hH, hR⟩ F' => ?_
  have N1 : News h₀ L h' (PLs ++ Y c') := news_has (sub_news N hs) hH (by rw [List.map_append, hadr, ← List.map_append])
  refine k r h' tk' c' (Y c' ++ tupsAt h₀ h') F' (fun x hx => ?_) (fun x hx => List.mem_append_left _ hx) (fun h'' m'' F'' N'' => tups_imK F' h'' m'' F'' fun x hx => (N'' x (List.mem_append_right _ (List.mem_append_right _ hx))).1) hR
  rw [← List.append_assoc] at hx
  rcases List.mem_append.mp hx with hx | hx
  · exact N1 x hx
  · obtain ⟨a, b, e⟩ := mem_tups.mp hx
    exact ⟨a, fun q => frame_noTup F' (q ▸ a) b, e⟩
theorem full_keep {h₀ g h h1 : Heap} {L₀ L : Addr} {m : Str → Option Value} {ms : List (Addr × Obj)} (N₀ : News h₀ L₀ h ms) (hg : ∀ b o, h.get? b = some o → b ∉ ms.map (·.1) → g.get? b = some o) (F : Fr g L h1 m) (N : News g L h1 ms) : ∀ b o, h.get? b = some o → h1.get? b = some o := fun b o e => by
  by_cases q : b ∈ ms.map (·.1)
  · obtain ⟨p, hp, rfl⟩ := List.mem_map.mp q
    have := (N₀ p hp).1
    rw [e] at this
    rw [(N p hp).1, Option.some.inj this]
  · exact F.keep _ _ (hg b o e q)
/-- a call that may raise -/
theorem use_x {w : World} {f : Addr} {cost : Nat} {vs : List Value} {ms : List (Addr × Obj)} {Pre : Heap → Prop} {Post : Heap → Heap → Value → Prop} {Exc : Heap → Str → Int → Prop} (D : DoesX w f cost vs ms Pre Post Exc)
    {p : Program} {loose : List Str} {mean : ExcName → Option Value} {mg mb : Str → Option Value} {A : Around} {env : Env} {outer : List Env} {A₀ : Around} {base h₀ : Heap} {L : Addr} {m : Str → Option Value} {s : Shared} {Q E : Value → Shared → Prop}
    (B : Below A₀ base outer h₀) (F : Fr h₀ L s.heap m) (X : (Mine.hd.heap_39 w.params).In h₀) (N : News h₀ L s.heap ms) (T : Top p loose mean mg mb h₀) (hA : A.frames = some (env :: outer)) (hf : env.frame = some L) (hk : env.scope.kind = .function)
    (hd : A.depth + cost < recursionLimit) (hu : A.units + 8 * cost < cLine) (hh : A.handled = none) (hpre : Pre s.heap)
    (k : ∀ r h' tk', Keep (ms.map (·.1)) s.heap h' → Fr h₀ L h' m → Post s.heap h' r → Q r { s with heap := h', toks := tk' })
    (kx : ∀ e dx h' tk' kind z, Fly base (env :: outer) e dx .none h' → KeepU (ms.map (·.1)) s.heap h' → FltAt h' dx kind z → Exc s.heap kind z → E (.ref e) { s with heap := h', toks := tk' }) :
    wpAny (model PR w) A (call (.ref f) vs) Q E s :=
  D p loose mean mg mb A env outer A₀ base h₀ L m s Q E B F X N T hA hf hk hd hu hh hpre (fun r h' tk' hK hP => k r h' tk' hK (fr_keep F N hK) hP) kx
theorem truthy_nil {prog : Program} {w : World} {A : Around} {E : Value → Shared → Prop} {s : Shared} {l : Addr} {Q : Bool → Shared → Prop} (hl : s.heap.IsList l [].toArray) (h : Q false { s with toks := s.toks + 1 + 1 }) : wpAny (model prog w) A (truthy (.ref l)) Q E s :=
  wpAny_truthy_list hl (by decide) h
theorem truthy_snoc {prog : Program} {w : World} {A : Around} {E : Value → Shared → Prop} {s : Shared} {l : Addr} {its : List Value} {v : Value} {Q : Bool → Shared → Prop} (hl : s.heap.IsList l (its ++ [v]).toArray) (hz : (its ++ [v]).length < 1000) (h : Q true { s with toks := s.toks + 1 + 1 }) : wpAny (model prog w) A (truthy (.ref l)) Q E s :=
  wpAny_truthy_list hl (by simp only [List.size_toArray]; omega) (by
    have e : (!(its ++ [v]).toArray.isEmpty) = true := by simp
    rw [e]; exact h)
theorem tick63 {prog : Program} {w : World} {A : Around} {E : Value → Shared → Prop} {s : Shared} {env : Env} {Q : Flow → Shared → Prop} (h : Q .next s) : wpAny (model prog w) A (execs [] env) Q E s := by
  first | (walk1; exact h) | exact wpAny_execs_nil h
section
local macro_rules | `(tactic| walk_at "truthy ref") => `(tactic| (k_here; (with_reducible show wpAny _ _ (truthy (Value.ref _)) _ _ _); k_dflt (first
  | (refine' truthy_nil ?k1 ?_; (case k1 => exact News.isList (by assumption) (by k_mem)); k_whole)
  | (refine' truthy_snoc ?k1 ?k2 ?_; (case k1 => exact News.isList (by assumption) (by k_mem)); (case k2 => assumption); k_whole))))
local macro_rules | `(tactic| walk_at "call ref") => `(tactic| (k_here; (with_reducible show wpAny _ _ (call (Value.ref 458) _) _ _ _); refine hold ?_))
local macro_rules | `(tactic| walk_at "call ref") => `(tactic| (k_here; (with_reducible show wpAny _ _ (call (Value.ref 479) _) _ _ _); refine hold ?_))
local macro_rules | `(tactic| walk_at "call ref") => `(tactic| (k_here; (with_reducible show wpAny _ _ (call (Value.ref 486) _) _ _ _); refine hold ?_))
local macro_rules | `(tactic| walk_at "call ref") => `(tactic| (k_here; (with_reducible show wpAny _ _ (call (Value.ref 493) _) _ _ _); refine hold ?_))
local macro_rules | `(tactic| walk_at "call ref") => `(tactic| (k_here; (with_reducible show wpAny _ _ (call (Value.ref 500) _) _ _ _); refine hold ?_))
local macro_rules | `(tactic| k_mem) => `(tactic| first | exact List.Mem.head _ | exact List.Mem.tail _ (List.Mem.head _) | exact List.Mem.tail _ (List.Mem.tail _ (by assumption)))
local macro_rules | `(tactic| walk_at "subscriptTail Attribute Name UnaryOp") => `(tactic| (k_here; (with_reducible show wpAny _ _ (subscriptTail _ _ (Value.ref _) (Value.int _ _)) _ _ _); (with_unfolding_all refine' item_last ?k1 ?_ ?k6; (case k1 => exact News.isList (by assumption) (by k_mem)); (case k6 => with_unfolding_all rfl); k_whole)))
abbrev L1 (P : Params) (β : BA) (π : PA) (pl : Int) (kp : Tok) (lim : Int) (kl : Tok) (tm : Value) (pr : Int) (kr : Tok) (Y : BC → List (Addr × Obj)) (c : BC) : List (Addr × Obj) := PL P β π pl kp lim kl tm pr kr ++ Y c
/-- what is new at h1 is new at h0 -/
def NB (h0 h1 : Heap) : Prop := ∀ a, h1.get? a = none → h0.get? a = none
theorem nb_of {g h h1 : Heap} {L : Addr} {m : Str → Option Value} {ms : List (Addr × Obj)} (F : Fr g L h1 m) (N : ∀ a ∈ ms.map (·.1), ∃ o, h1.get? a = some o) (hg : ∀ b o, h.get? b = some o → b ∉ ms.map (·.1) → g.get? b = some o) : NB h h1 := fun a ha => by
  cases z : h.get? a with
  | none => rfl
  | some o =>
    by_cases q : a ∈ ms.map (·.1)
    · obtain ⟨o, e⟩ := N a q
      rw [ha] at e
      cases e
    · have := F.keep _ _ (hg _ _ z q)
      rw [ha] at this
      cases this
structure Stable (w : World) (β : BA) (π : PA) (tvs : List Value) (L : BC → List (Addr × Obj)) (PreM : BC → Heap → Prop) : Prop where
  adr : ∀ c c', (L c').map (·.1) = (L c).map (·.1)
  st : ∀ c h h', PreM c h → KeepT h h' → Has h' (L c) → h'.IsList π.tl tvs.toArray → PreM c h'
set_option maxHeartbeats 8000000 in
theorem opr_shift (w : World) (β : BA) (π : PA) (kp : Tok) (lim : Int) (kl : Tok) (tm : Value) (pr : Int) (kr : Tok) (tvs : List Value) (i : Nat) (q : Addr) (c : BC) (Y : BC → List (Addr × Obj)) (Pre0 : Heap → Prop) (PreM : BC → Heap → Prop) (PostS : Heap → Heap → Prop) (hlt : i < 1000) (hq : tvs[i]? = some (.ref q))
    (hst : Stable w β π tvs (L1 w.params β π i kp lim kl tm pr kr Y) PreM)
    (hst0 : ∀ h h', Pre0 h → KeepT h h' → Has h' (L1 w.params β π i kp lim kl tm pr kr Y c) → h'.IsList π.tl tvs.toArray → Pre0 h')
    (hop : Does w 458 4 [.ref π.p, .ref q] (L1 w.params β π i kp lim kl tm pr kr Y c) Pre0 (fun _ h' r => ∃ c', Has h' (L1 w.params β π i kp lim kl tm pr kr Y c') ∧ (∃ t, r = .int 7 t) ∧ PreM c' h'))
    (hsh : ∀ c' t, Does w 479 8 [.ref π.p, .int 7 t] (L1 w.params β π i kp lim kl tm pr kr Y c') (PreM c') (fun h h' r => r = .bool true ∧ PostS h h'))
    (hps : ∀ h0 h1 h2, NB h0 h1 → PostS h1 h2 → PostS h0 h2) :
    Does w 465 10 [.ref π.p] (L1 w.params β π i kp lim kl tm pr kr Y c) (fun h => Pre0 h ∧ h.IsList π.tl tvs.toArray ∧ π.tl ∉ (L1 w.params β π i kp lim kl tm pr kr Y c).map (·.1)) (fun h h' r => (∃ k, r = .int 0 k) ∧ PostS h h') := by
  walk_at "m fill"
  intro p loose mean mg mb A env outer A₀ base h₀ L m s Q E B F X N T hA hf hk hd hu hh hpre hret
  obtain ⟨ah, dp, fr, gd, un⟩ := A
  obtain rfl : fr = some (env :: outer) := hA
  obtain rfl : ah = none := hh
  replace hd : dp + _ < recursionLimit := hd
  replace hu : un + _ < cLine := hu
  obtain ⟨hp0, hl0, hno⟩ := hpre
  have hx0 : tvs[Int.toNat (i : Int)]? = some (.ref q) := hq
  refine wpAny_call ?_
  k_dflt (refine' enterD (binds := [(Str.ofString "self", .ref π.p)]) ?k1 ?k2 ?k3 ?k4 ?k5 ?kA ?kF ?kK ?k6 ?k7 ?k8 ?k9 ?kB ?_ ?c2 ?c3 ?c4 ?c5; (case kA => walk_at "m frames"); (case kF => first | assumption | exact rfl); (case kK => first | assumption | exact rfl); (case k1 => k_asm); (case k2 => k_asm); (case k3 => k_asm); (case k4 => k_asm); (case k5 => k_asm); (case k6 => k_is); (case k7 => k_is); (case k8 => walk_at "m room"); (case k9 => first | exact BindsTo.of_eq rfl | exact binds_K (by k_in) rfl (by k_is) rfl rfl rfl); (case c5 => decide); (case kB => exact locs rfl); (case c2 => exact rfl); (case c3 => exact rfl); (case c4 => exact rfl); k_whole)
  intro g L' h₁ F' N' B' X' T' hg hgs
  k_fold
  have hl := list_base hl0 hg hno
  have had : ∀ c', (Y c').map (·.1) = (Y c).map (·.1) := fun c' => by
    have := hst.adr c c'
    rw [List.map_append, List.map_append] at this
    exact List.append_cancel_left this
  dsimp only [List.cons_append, List.nil_append] at N'
  k_steps
  unfold Hold
  rename News g L' _ _ => N5
  rename Fr g L' _ _ => F5
  k_dflt (refine' use_swap (PLs := PL w.params β π i kp lim kl tm pr kr) (R := Y c) hop had ?k1 ?k2 ?k3 N5 ?k5 ?kA ?kf ?kk ?kd ?ku ?kh (fun _ h => h) ?kp ?_; walk_at "m fin")
  case kp => exact hst0 _ _ hp0 (.of_keep (full_keep N hg F5 N5)) (fun p hp => (N5 p hp).1) (Fr.lst F5 hl)
  intro r h' tk' c' R1 F' N' hYR hKR hR
  obtain ⟨⟨t7, rfl⟩, hP⟩ := hR
  dsimp only [List.cons_append, List.nil_append] at N'
  clear N5 F5
  k_steps
  unfold Hold
  rename News g L' _ _ => N5
  rename Fr g L' _ _ => F5
  have hH : Has _ (L1 w.params β π i kp lim kl tm pr kr Y c') := fun p hp => (N5 p ((List.mem_append.mp hp).elim (fun q => List.mem_append_left R1 q) fun q => List.mem_append_right (PL w.params β π i kp lim kl tm pr kr) (hYR _ q))).1
  k_dflt (refine' use_does (hsh c' _) ?k1 ?k2 ?k3 N5 ?k5 ?kA ?kf ?kk ?kd ?ku ?kh ?hs ?kp ?_; walk_at "m fin")
  case hs => exact fun p hp => (List.mem_append.mp hp).elim (fun q => List.mem_append_left R1 q) fun q => List.mem_append_right (PL w.params β π i kp lim kl tm pr kr) (hYR _ q)
  case kp => exact hst.st _ _ _ hP (hKR _ _ F5 N5) hH (Fr.lst F5 hl)
  have nb : NB s.heap _ := nb_of F5 (fun a ha => by
    rw [← hst.adr c c'] at ha
    obtain ⟨p, hp, rfl⟩ := List.mem_map.mp ha
    exact ⟨_, hH p hp⟩) hg
  intro r h' tk' hK hR F'
  obtain ⟨rfl, hS⟩ := hR
  replace N' := (fun _ h => nomatch h : News g L' h' [])
  clear N5 F5
  k_steps
  show Q _ _
  exact hret _ _ _ (fun b o e n => Fr.keep (by assumption) b o (hg b o e n)) ⟨⟨_, rfl⟩, hps _ _ _ nb hS⟩
set_option maxHeartbeats 8000000 in
theorem opr_ns (w : World) (β : BA) (π : PA) (kp : Tok) (lim : Int) (kl : Tok) (tm : Value) (pr : Int) (kr : Tok) (tvs : List Value) (i : Nat) (q : Addr) (c : BC) (Y : BC → List (Addr × Obj)) (Pre0 : Heap → Prop) (PreM : BC → Heap → Prop) (Rn : Int → Prop) (PostV : Heap → Value → Prop) (ExcK : Str → Int → Prop) (frs : List Value) (nf : Nat) (hlt : i < 1000) (hq : tvs[i]? = some (.ref q)) (hfr : frs.length < 1000)
    (hst : Stable w β π tvs (L1 w.params β π i kp lim kl tm pr kr Y) PreM)
    (hfl : ∀ c', (((π.fl : Nat) : Addr), listOf frs.toArray nf) ∈ Y c')
    (hst0 : ∀ h h', Pre0 h → KeepT h h' → Has h' (L1 w.params β π i kp lim kl tm pr kr Y c) → h'.IsList π.tl tvs.toArray → Pre0 h')
    (hop : Does w 458 4 [.ref π.p, .ref q] (L1 w.params β π i kp lim kl tm pr kr Y c) Pre0 (fun _ h' r => ∃ c', Has h' (L1 w.params β π i kp lim kl tm pr kr Y c') ∧ (∃ n t, r = .int n t ∧ Rn n) ∧ PreM c' h'))
    (hsh : ∀ c' n t, Rn n → Does w 479 8 [.ref π.p, .int n t] (L1 w.params β π i kp lim kl tm pr kr Y c') (PreM c') (fun _ h' r => ∃ c'', Has h' (L1 w.params β π i kp lim kl tm pr kr Y c'') ∧ r = .bool false ∧ PreM c'' h'))
    (hpf : ∀ c' n t, Does w 486 8 [.ref π.p, .int n t] (L1 w.params β π i kp lim kl tm pr kr Y c') (PreM c') (fun _ h' r => ∃ c'', Has h' (L1 w.params β π i kp lim kl tm pr kr Y c'') ∧ r = .bool false ∧ PreM c'' h'))
    (cse : (frs = [] ∧ ∀ c' h' k, PreM c' h' → PostV h' (.int 2 k)) ∨
      ∃ (frs' : List Value) (fa fd fi : Nat) (kind : Str) (kt : Tok) (flim : Int) (flt : Tok) (fn : Int) (ft : Tok) (nm : Int) (nt : Tok) (fpr : Int) (fpt : Tok) (left : Value) (c1 c2 c3 c4 c5 c6 c7 : Tok), frs = frs' ++ [.ref fa] ∧ (∀ c', ((fa : Addr), instObj 309 fd) ∈ Y c') ∧ (∀ c', ((fd : Addr), FD w.params kind kt flim flt fn ft nm nt fpr fpt left fi c1 c2 c3 c4 c5 c6 c7) ∈ Y c') ∧
        ((kind = Str.ofString "operator" ∧ ∀ c', Does w 493 8 [.ref π.p] (L1 w.params β π i kp lim kl tm pr kr Y c') (PreM c') (fun _ h' r => r = .none ∧ ∀ k, PostV h' (.int 1 k))) ∨
         ((kind == Str.ofString "operator") = false ∧ ∀ c', DoesX w 500 14 [.ref π.p, .ref q] (L1 w.params β π i kp lim kl tm pr kr Y c') (PreM c') (fun _ h' r => PostV h' r) (fun _ kind z => ExcK kind z)))) :
    DoesX w 465 16 [.ref π.p] (L1 w.params β π i kp lim kl tm pr kr Y c) (fun h => Pre0 h ∧ h.IsList π.tl tvs.toArray ∧ π.tl ∉ (L1 w.params β π i kp lim kl tm pr kr Y c).map (·.1)) (fun _ h' r => PostV h' r) (fun _ kind z => ExcK kind z) := by
  walk_at "m fill"
  intro p loose mean mg mb A env outer A₀ base h₀ L m s Q E B F X N T hA hf hk hd hu hh hpre hret hexc
  obtain ⟨ah, dp, fr, gd, un⟩ := A
  obtain rfl : fr = some (env :: outer) := hA
  obtain rfl : ah = none := hh
  replace hd : dp + _ < recursionLimit := hd
  replace hu : un + _ < cLine := hu
  obtain ⟨hp0, hl0, hno⟩ := hpre
  have hx0 : tvs[Int.toNat (i : Int)]? = some (.ref q) := hq
  refine wpAny_call ?_
  k_dflt (refine' enterD (binds := [(Str.ofString "self", .ref π.p)]) ?k1 ?k2 ?k3 ?k4 ?k5 ?kA ?kF ?kK ?k6 ?k7 ?k8 ?k9 ?kB ?_ ?c2 ?c3 ?c4 ?c5; (case kA => walk_at "m frames"); (case kF => first | assumption | exact rfl); (case kK => first | assumption | exact rfl); (case k1 => k_asm); (case k2 => k_asm); (case k3 => k_asm); (case k4 => k_asm); (case k5 => k_asm); (case k6 => k_is); (case k7 => k_is); (case k8 => walk_at "m room"); (case k9 => first | exact BindsTo.of_eq rfl | exact binds_K (by k_in) rfl (by k_is) rfl rfl rfl); (case c5 => decide); (case kB => exact locs rfl); (case c2 => exact rfl); (case c3 => exact rfl); (case c4 => exact rfl); k_whole)
  intro g L' h₁ F' N' B' X' T' hg hgs
  k_fold
  have hl := list_base hl0 hg hno
  have had : ∀ c c', (Y c').map (·.1) = (Y c).map (·.1) := fun c c' => by
    have := hst.adr c c'
    rw [List.map_append, List.map_append] at this
    exact List.append_cancel_left this
  have hHas : ∀ {h9 : Heap} {c9 : BC} {R9 : List (Addr × Obj)}, News g L' h9 (PL w.params β π i kp lim kl tm pr kr ++ R9) → (∀ x ∈ Y c9, x ∈ R9) → Has h9 (L1 w.params β π i kp lim kl tm pr kr Y c9) := fun N9 hy p hp => (N9 p ((List.mem_append.mp hp).elim (fun q => List.mem_append_left _ q) fun q => List.mem_append_right _ (hy _ q))).1
  dsimp only [List.cons_append, List.nil_append] at N'
  obtain ⟨Mid, hMid⟩ : ∃ Mid : Shared → Prop, ∀ s', Mid s' ↔ (∃ h tk9 c' R n tn, s' = ⟨h, s.gens, s.drawn, tk9, s.os⟩ ∧ Fr g L' h (fun y => if y = Str.ofString "a" then some (.int n tn) else if y = Str.ofString "token" then some (.ref q) else List.lookup y [(Str.ofString "self", Value.ref π.p)].reverse) ∧ News g L' h (PL w.params β π i kp lim kl tm pr kr ++ R) ∧ (∀ x ∈ Y c', x ∈ R) ∧ ∃ hM, PreM c' hM ∧ ∀ h'' m'', Fr g L' h'' m'' → News g L' h'' (PL w.params β π i kp lim kl tm pr kr ++ R) → KeepT hM h'') := ⟨_, fun _ => Iff.rfl⟩
  refine execs_at 4 Mid ?_ ?_
  · simp only [List.take_succ_cons, List.take_zero]
    k_steps
    unfold Hold
    rename News g L' _ _ => N5
    rename Fr g L' _ _ => F5
    k_dflt (refine' use_swap (PLs := PL w.params β π i kp lim kl tm pr kr) (R := Y c) hop (had c) ?k1 ?k2 ?k3 N5 ?k5 ?kA ?kf ?kk ?kd ?ku ?kh (fun _ h => h) ?kp ?_; walk_at "m fin")
    case kp => exact hst0 _ _ hp0 (.of_keep (full_keep N hg F5 N5)) (fun p hp => (N5 p hp).1) (Fr.lst F5 hl)
    intro r h' tk' c' R1 F' N' hYR hKR hR
    obtain ⟨⟨n, tn, rfl, hrn⟩, hP⟩ := hR
    dsimp only [List.cons_append, List.nil_append] at N'
    clear N5 F5
    by_cases hn : 0 ≤ n
    · k_steps
      unfold Hold
      rename News g L' _ _ => N5
      rename Fr g L' _ _ => F5
      k_dflt (refine' use_swap (PLs := PL w.params β π i kp lim kl tm pr kr) (R := R1) (hsh c' _ _ hrn) (had c') ?k1 ?k2 ?k3 N5 ?k5 ?kA ?kf ?kk ?kd ?ku ?kh hYR ?kp ?_; walk_at "m fin")
      case kp => exact hst.st _ _ _ hP (hKR _ _ F5 N5) (hHas N5 hYR) (Fr.lst F5 hl)
      intro r h' tk' c2 R2 F' N' hYR2 hKR2 hR
      obtain ⟨rfl, hP2⟩ := hR
      dsimp only [List.cons_append, List.nil_append] at N'
      clear N5 F5
      k_steps
      unfold Hold
      rename News g L' _ _ => N5
      rename Fr g L' _ _ => F5
      k_dflt (refine' use_swap (PLs := PL w.params β π i kp lim kl tm pr kr) (R := R2) (hpf c2 _ _) (had c2) ?k1 ?k2 ?k3 N5 ?k5 ?kA ?kf ?kk ?kd ?ku ?kh hYR2 ?kp ?_; walk_at "m fin")
      case kp => exact hst.st _ _ _ hP2 (hKR2 _ _ F5 N5) (hHas N5 hYR2) (Fr.lst F5 hl)
      intro r h' tk' c3 R3 F' N' hYR3 hKR3 hR
      obtain ⟨rfl, hP3⟩ := hR
      dsimp only [List.cons_append, List.nil_append] at N'
      clear N5 F5
      k_steps
      rename News g L' _ _ => N5
      rename Fr g L' _ _ => F5
      exact (hMid _).mpr ⟨_, _, c3, R3, n, tn, rfl, F5, N5, hYR3, _, hP3, hKR3⟩
    · k_steps
      rename News g L' _ _ => N5
      rename Fr g L' _ _ => F5
      exact (hMid _).mpr ⟨_, _, c', R1, n, tn, rfl, F5, N5, hYR, _, hP, hKR⟩
  · clear N' F'
    intro s' hs'
    obtain ⟨h4, tk9, c', R, n, tn, rfl, F', N', hYR, hM, hP, hKR⟩ := (hMid s').mp hs'
    have m1 := hYR _ (hfl c')
    dsimp only [List.cons_append, List.nil_append] at N'
    simp only [List.drop_succ_cons, List.drop_zero]
    rcases cse with ⟨rfl, hpost⟩ | ⟨frs', fa, fd, fi, kind, kt, flim, flt, fn, ft, nm, nt, fpr, fpt, left, c1, c2, c3, c4, c5, c6, c7, rfl, hfa, hfd, cse⟩
    · k_steps
      rename News g L' _ _ => N5
      rename Fr g L' _ _ => F5
      show Q _ _
      exact hret _ _ _ (fun b o e n => Fr.keep (by assumption) b o (hg b o e n)) (hpost c' _ _ (hst.st _ _ _ hP (hKR _ _ F5 N5) (hHas N5 hYR) (Fr.lst F5 hl)))
    · have m2 := hYR _ (hfa c')
      have m3 := hYR _ (hfd c')
      rcases cse with ⟨rfl, hred⟩ | ⟨hk1, hcl⟩
      · k_steps
        unfold Hold
        rename News g L' _ _ => N5
        rename Fr g L' _ _ => F5
        k_dflt (refine' use_does (hred c') ?k1 ?k2 ?k3 N5 ?k5 ?kA ?kf ?kk ?kd ?ku ?kh ?hs ?kp ?_; walk_at "m fin")
        case hs => exact fun p hp => (List.mem_append.mp hp).elim (fun q => List.mem_append_left R q) fun q => List.mem_append_right (PL w.params β π i kp lim kl tm pr kr) (hYR _ q)
        case kp => exact hst.st _ _ _ hP (hKR _ _ F5 N5) (hHas N5 hYR) (Fr.lst F5 hl)
        intro r h' tk' hK hR F'
        obtain ⟨rfl, hV⟩ := hR
        replace N' := (fun _ h => nomatch h : News g L' h' [])
        clear N5 F5
        k_steps
        show Q _ _
        exact hret _ _ _ (fun b o e n => Fr.keep (by assumption) b o (hg b o e n)) (hV _)
      · k_steps
        unfold Hold
        rename News g L' _ _ => N5
        rename Fr g L' _ _ => F5
        have N6 := sub_news N5 (news' := L1 w.params β π i kp lim kl tm pr kr Y c') fun p hp => (List.mem_append.mp hp).elim (fun q => List.mem_append_left R q) fun q => List.mem_append_right (PL w.params β π i kp lim kl tm pr kr) (hYR _ q)
        k_dflt (refine' use_x (hcl c') ?k1 ?k2 ?k3 N6 ?k5 ?kA ?kf ?kk ?kd ?ku ?kh ?kp ?_ ?kx; walk_at "m fin")
        case kp => exact hst.st _ _ _ hP (hKR _ _ F5 N5) (hHas N5 hYR) (Fr.lst F5 hl)
        case kx =>
          intro e dx h' tk' kind9 z9 hf9 hku hflt hex
          refine leave_fault_on B' hf9 ?_
          intro h'' hf2 hu
          show E _ _
          rw [hst.adr c c'] at hku
          exact hexc e dx h'' _ _ _ hf2 ((KeepU.pre (fun b o e n => Fr.keep (by assumption) b o (hg b o e n)) hku).post hu) (hflt.slots hu) hex
        intro r h' tk' hK F' hR
        replace N' := (fun _ h => nomatch h : News g L' h' [])
        clear N5 F5 N6
        k_steps
        show Q _ _
        exact hret _ _ _ (fun b o e n => Fr.keep (by assumption) b o (hg b o e n)) hR
end

/-- the fault on its way out of a loop of the frame -/
def FlyE (base : Heap) (env : Env) (outer : List Env) (L : Addr) (E : Value → Shared → Prop) (e : Value) (s : Shared) : Prop :=
  ∃ a dx, e = .ref a ∧ Fly base (env :: outer) a dx .none s.heap ∧ ∀ h', Fly base (env :: outer) a dx (rawInt L) h' → s.heap.UpToSlots h' → E (.ref a) { s with heap := h' }
theorem fly_loop {M : Model} {A : Around} {env : Env} {outer : List Env} {base : Heap} {L : Addr} {E : Value → Shared → Prop} (hfr : A.frames = some (env :: outer)) (hf : env.frame = some L) {e : Value} {s : Shared} (x : FlyE base env outer L E e s) :
    notedBy M A env (cameBackBy M A env E) e s := by
  obtain ⟨a, dx, rfl, hx, hE⟩ := x
  unfold notedBy
  refine fly_note hfr hf hx fun h₁ y hs => ?_
  unfold cameBackBy
  have y' := y
  obtain ⟨f1, f2, f3, oe, vs, T, oT, ts, he, hc, hdx, hd, h1, hnT, hTe, hT, hdT, h3⟩ := y'
  refine wpAny_bind (wpAny_field he hd h1 ?_)
  rw [if_neg (show ¬ ((Value.ref T == Value.none) = true) from by simp), hf]
  exact fly_set (s := { s with heap := h₁ }) (fr := some L) y fun h₂ z hs' => hE h₂ z (hs.trans hs')
theorem while_X {prog : Program} {w : World} {A : Around} {E : Value → Shared → Prop} {Q : Flow → Shared → Prop} {s : Shared} {env : Env} {outer : List Env} {base : Heap} {L : Addr} {test : Expr} {body : List Stmt} {pos : Pos} (hfr : A.frames = some (env :: outer)) (hf : env.frame = some L) (P : Shared → Prop) (I : Nat → Shared → Prop)
    (turn : ∀ n s, I n s → wpAny (model prog w) A (isTrue test env (eval test env)) (fun b s₂ => if b = true then wpAny (model prog w) A (execs body env) (WStepP I P (fun v => Q (.ret v)) n) (FlyE base env outer L E) s₂ else P s₂) (fun _ _ => False) s)
    (aft : ∀ s, P s → Q .next s) (n : Nat) (h : I n s) : wpAny (model prog w) A (exec (.While test body [] pos) env) Q E s := by
  refine wpAny_While (codeAny_whileLoop I (fun n s' hI => ?_) n h)
  refine wpAny_mono (turn n s' hI) (fun b s₂ h₂ => ?_) fun _ _ e => e.elim
  cases b with
  | false =>
    simp only [Bool.false_eq_true, if_false] at h₂ ⊢
    exact wpAny_execs_nil (aft _ h₂)
  | true =>
    simp only [if_true] at h₂ ⊢
    refine wpAny_mono h₂ (fun f s₃ h₃ => ?_) fun e s₃ h₃ => fly_loop hfr hf h₃
    cases f with
    | next => exact h₃
    | cont => exact h₃
    | brk => exact aft _ h₃
    | ret v => exact h₃
theorem leave_held {M : Model} {A : Around} {E : Value → Shared → Prop} {s : Shared} {base : Heap} {outer : List Env} {L a e dx : Addr} {name : Str} {scope : Scope} {cd : Value} {Q : Unit → Shared → Prop} (x : Fly base (envOf name scope L a cd :: outer) e dx (rawInt L) s.heap)
    (hQ : ∀ h', Fly base outer e dx .none h' → s.heap.UpToSlots h' → Q () { s with heap := h' }) :
    wpAny M (A.deeper (envOf name scope L a cd)) (leaving (envOf name scope L a cd) (.ref e)) Q E s := fly_leave_held rfl x hQ
/-- a call that may raise, upon a ledger that it hands back changed; all tuples stand behind it -/
theorem use_xswap {ι : Type} {w : World} {f : Addr} {cost : Nat} {vs : List Value} {PLs : ι → List (Addr × Obj)} {R : List (Addr × Obj)} {Y : ι → List (Addr × Obj)} {c : ι} {Pre : Heap → Prop} {Rl : ι → Heap → Heap → Value → Prop} {Exc : Str → Int → Prop}
    (D : DoesX w f cost vs (PLs c ++ Y c) Pre (fun h h' r => ∃ c', Has h' (PLs c' ++ Y c') ∧ (∀ a ∈ (PLs c' ++ Y c').map (·.1), a ∈ (PLs c ++ Y c).map (·.1) ∨ h.get? a = none) ∧ Rl c' h h' r) (fun _ k z => Exc k z))
    {p : Program} {loose : List Str} {mean : ExcName → Option Value} {mg mb : Str → Option Value} {A : Around} {env : Env} {outer : List Env} {A₀ : Around} {base h₀ : Heap} {L : Addr} {m : Str → Option Value} {s : Shared} {Q E : Value → Shared → Prop}
    (B : Below A₀ base outer h₀) (F : Fr h₀ L s.heap m) (X : (Mine.hd.heap_39 w.params).In h₀) (N : News h₀ L s.heap (PLs c ++ R)) (T : Top p loose mean mg mb h₀) (hA : A.frames = some (env :: outer)) (hf : env.frame = some L) (hk : env.scope.kind = .function)
    (hd : A.depth + cost < recursionLimit) (hu : A.units + 8 * cost < cLine) (hh : A.handled = none) (hYR : ∀ x ∈ Y c, x ∈ R) (hpre : Pre s.heap)
    (k : ∀ r h' tk' c' R', Fr h₀ L h' m → News h₀ L h' (PLs c' ++ R') → (∀ x ∈ Y c', x ∈ R') → (∀ h'' m'', Fr h₀ L h'' m'' → News h₀ L h'' (PLs c' ++ R') → KeepT h' h'') → (∀ a ∈ (PLs c' ++ Y c').map (·.1), a ∈ (PLs c ++ Y c).map (·.1) ∨ s.heap.get? a = none) → Keep ((PLs c ++ Y c).map (·.1)) s.heap h' → Rl c' s.heap h' r → Q r { s with heap := h', toks := tk' })
    (kx : ∀ e dx h' tk' kind z, Fly base (env :: outer) e dx .none h' → KeepU ((PLs c ++ Y c).map (·.1)) s.heap h' → FltAt h' dx kind z → Exc kind z → E (.ref e) { s with heap := h', toks := tk' }) :
    wpAny (model PR w) A (call (.ref f) vs) Q E s := by
  have hs : ∀ x ∈ PLs c ++ Y c, x ∈ PLs c ++ R := fun x hx => (List.mem_append.mp hx).elim (fun q => List.mem_append_left _ q) (fun q => List.mem_append_right _ (hYR x q))
  refine use_x D B F X (sub_news N hs) T hA hf hk hd hu hh hpre (fun r h' tk' hK F' ⟨c', hH, hfr, hR⟩ => ?_) kx
  have N1 : News h₀ L h' (PLs c' ++ Y c') := fun x hx => by
    refine ⟨hH x hx, ?_⟩
    rcases hfr _ (List.mem_map_of_mem hx) with q | q
    · obtain ⟨y, hy, e⟩ := List.mem_map.mp q
      have := (N y (hs y hy)).2
      rw [e] at this
      exact this
    · refine ⟨fun e => ?_, ?_⟩
      · obtain ⟨oL, _, _, hL, _⟩ := F.ns
        rw [← e, q] at hL; cases hL
      · cases z : h₀.get? x.1 with
        | none => rfl
        | some o => have := F.keep _ _ z; rw [q] at this; cases this
  refine k r h' tk' c' (Y c' ++ tupsAt h₀ h') F' (fun x hx => ?_) (fun x hx => List.mem_append_left _ hx) (fun h'' m'' F'' N'' => tups_imK F' h'' m'' F'' fun x hx => (N'' x (List.mem_append_right _ (List.mem_append_right _ hx))).1) hfr hK hR
  rw [← List.append_assoc] at hx
  rcases List.mem_append.mp hx with hx | hx
  · exact N1 x hx
  · obtain ⟨a, b, e⟩ := mem_tups.mp hx
    exact ⟨a, fun q => frame_noTup F' (q ▸ a) b, e⟩

/-- what of the parser turns -/
structure PV where
  pl : Int
  kp : Tok
  lim : Int
  kl : Tok
  tm : Value
  pr : Int
  kr : Tok
  Y : List (Addr × Obj)
abbrev PV.p (P : Params) (β : BA) (π : PA) (v : PV) : List (Addr × Obj) := PL P β π v.pl v.kp v.lim v.kl v.tm v.pr v.kr
abbrev PV.l (P : Params) (β : BA) (π : PA) (v : PV) : List (Addr × Obj) := v.p P β π ++ v.Y
theorem fresh_on {g h h1 : Heap} {L : Addr} {m : Str → Option Value} {as bs cs : List Addr} (F : Fr g L h1 m) (hg : ∀ b o, h.get? b = some o → b ∉ as → g.get? b = some o) (x : ∀ a ∈ bs, a ∈ as ∨ h.get? a = none) (y : ∀ a ∈ cs, a ∈ bs ∨ h1.get? a = none) :
    ∀ a ∈ cs, a ∈ as ∨ h.get? a = none := fun a ha => (y a ha).elim (x a) fun e => by
  by_cases q : a ∈ as
  · exact .inl q
  · refine .inr ?_
    cases z : h.get? a with
    | none => rfl
    | some o => have := F.keep _ _ (hg _ _ z q); rw [e] at this; cases this
theorem keepU_on {g h h1 h2 : Heap} {L : Addr} {m : Str → Option Value} {as bs : List Addr} (F : Fr g L h1 m) (hg : ∀ b o, h.get? b = some o → b ∉ as → g.get? b = some o) (x : ∀ a ∈ bs, a ∈ as ∨ h.get? a = none) (k : KeepU bs h1 h2) : KeepU as h h2 := fun b o e n q =>
  k b o (F.keep _ _ (hg _ _ e n)) (fun z => (x b z).elim n fun w => by rw [e] at w; cases w) q
theorem has_of_news {g h : Heap} {L : Addr} {ms : List (Addr × Obj)} (N : News g L h ms) : Has h ms := fun p hp => (N p hp).1
theorem start_R {g h : Heap} {L : Addr} {m : Str → Option Value} {PLs Y : List (Addr × Obj)} (F : Fr g L h m) (N : News g L h (PLs ++ Y)) : ∃ R, News g L h (PLs ++ R) ∧ (∀ x ∈ Y, x ∈ R) ∧ ∀ h'' m'', Fr g L h'' m'' → News g L h'' (PLs ++ R) → KeepT h h'' := by
  refine ⟨Y ++ tupsAt g h, fun x hx => ?_, fun x hx => List.mem_append_left _ hx, fun h'' m'' F'' N'' => tups_imK F h'' m'' F'' fun x hx => (N'' x (List.mem_append_right _ (List.mem_append_right _ hx))).1⟩
  rw [← List.append_assoc] at hx
  rcases List.mem_append.mp hx with hx | hx
  · exact N x hx
  · obtain ⟨a, b, e⟩ := mem_tups.mp hx
    exact ⟨a, fun q => frame_noTup F (q ▸ a) b, e⟩
def mState (π : PA) (tk : Tok) (st : Value) : Str → Option Value := fun y => if y = Str.ofString "state" then some st else List.lookup y [(Str.ofString "self", Value.ref π.p), (Str.ofString "most", Value.int 1200 tk)].reverse
theorem mState_set {g h : Heap} {L : Addr} {π : PA} {tk : Tok} {st st' : Value} (F : Fr g L h (fun y => if y = Str.ofString "state" then some st' else mState π tk st y)) : Fr g L h (mState π tk st') := fr_congr F fun y => by
  unfold mState
  by_cases e0 : y = Str.ofString "state"
  · subst e0; rfl
  · simp only [e0, if_false]
theorem tick64 {prog : Program} {w : World} {A : Around} {E : Value → Shared → Prop} {s : Shared} {env : Env} {Q : Flow → Shared → Prop} (h : Q .next s) : wpAny (model prog w) A (execs [] env) Q E s := by
  first | (walk1; exact h) | exact wpAny_execs_nil h
section
local macro_rules | `(tactic| k_mem) => `(tactic| first | exact List.Mem.head _ | exact List.Mem.tail _ (List.Mem.head _))
local macro_rules | `(tactic| k_all) => `(tactic| assumption)
local macro_rules | `(tactic| walk_at "exec While Compare cons nil") => `(tactic| refine hold ?_)
local macro_rules | `(tactic| walk_at "call ref") => `(tactic| (k_here; (with_reducible show wpAny _ _ (call (Value.ref 418) _) _ _ _); refine hold ?_))
local macro_rules | `(tactic| walk_at "call ref") => `(tactic| (k_here; (with_reducible show wpAny _ _ (call (Value.ref 465) _) _ _ _); refine hold ?_))
set_option maxHeartbeats 8000000 in
theorem does_parse (w : World) (β : BA) (π : PA) (tvs : List Value) (tk : Tok) (Inv : Nat → Bool → PV → Heap → Prop) (Fin : PV → Heap → Prop) (ExcK : Str → Int → Prop) (N0 : Nat) (v0 : PV) (hpd : π.pd < π.p)
    (hst : ∀ n b v h h', Inv n b v h → KeepT h h' → Has h' (v.l w.params β π) → h'.IsList π.tl tvs.toArray → Inv n b v h')
    (hsf : ∀ v h h', Fin v h → KeepT h h' → Has h' (v.l w.params β π) → h'.IsList π.tl tvs.toArray → Fin v h')
    (hft : ∀ v h, Fin v h → ∃ ta, v.tm = .ref ta)
    (hfs : ∀ v h, Fin v h → ∀ a ∈ (v0.l w.params β π).map (·.1), a ∈ (v.l w.params β π).map (·.1))
    (hkl : ∀ k h h', Inv N0 false v0 h → KeepT h h' → Has h' (PV.l w.params β π { v0 with lim := 1200, kl := k }) → h'.IsList π.tl tvs.toArray → Inv N0 false { v0 with lim := 1200, kl := k } h')
    (hop : ∀ n v, DoesX w 418 9 [.ref π.p] (v.l w.params β π) (Inv n false v) (fun h h' r => ∃ v' : PV, Has h' (v'.l w.params β π) ∧ (∀ a ∈ (v'.l w.params β π).map (·.1), a ∈ (v.l w.params β π).map (·.1) ∨ h.get? a = none) ∧ ((∃ k, r = .int 2 k ∧ Fin v' h') ∨ ∃ m, m < n ∧ ((∃ k, r = .int 0 k ∧ Inv m false v' h') ∨ ∃ k, r = .int 1 k ∧ Inv m true v' h'))) (fun _ k z => ExcK k z))
    (hor : ∀ n v, DoesX w 465 16 [.ref π.p] (v.l w.params β π) (Inv n true v) (fun h h' r => ∃ v' : PV, Has h' (v'.l w.params β π) ∧ (∀ a ∈ (v'.l w.params β π).map (·.1), a ∈ (v.l w.params β π).map (·.1) ∨ h.get? a = none) ∧ ((∃ k, r = .int 2 k ∧ Fin v' h') ∨ ∃ m, m < n ∧ ((∃ k, r = .int 0 k ∧ Inv m false v' h') ∨ ∃ k, r = .int 1 k ∧ Inv m true v' h'))) (fun _ k z => ExcK k z)) :
    DoesX w 397 20 [.ref π.p, .int 1200 tk] (v0.l w.params β π) (fun h => Inv N0 false v0 h ∧ h.IsList π.tl tvs.toArray ∧ π.tl ∉ (v0.l w.params β π).map (·.1) ∧ (∀ x ∈ v0.Y, @Ne Nat x.1 π.pd) ∧ NoTup v0.Y)
      (fun h h' r => ∃ v' : PV, Has h' (v'.l w.params β π) ∧ (∀ a ∈ (v'.l w.params β π).map (·.1), a ∈ (v0.l w.params β π).map (·.1) ∨ h.get? a = none) ∧ Fin v' h' ∧ ∃ t k, r = .ref t ∧ h'.get? t = some (tupOf [v'.tm, .int v'.pr k]) ∧ h.get? t = none) (fun _ k z => ExcK k z) := by
  walk_at "m fill"
  intro p loose mean mg mb A env outer A₀ base h₀ L m s Q E B F X N T hA hf hk hd hu hh hpre hret hexc
  obtain ⟨ah, dp, fr, gd, un⟩ := A
  obtain rfl : fr = some (env :: outer) := hA
  obtain rfl : ah = none := hh
  replace hd : dp + _ < recursionLimit := hd
  replace hu : un + _ < cLine := hu
  obtain ⟨hp0, hl0, hno, hne9, hnt⟩ := hpre
  refine wpAny_call ?_
  k_dflt (refine' enterD (binds := [(Str.ofString "self", .ref π.p), (Str.ofString "most", .int 1200 tk)]) ?k1 ?k2 ?k3 ?k4 ?k5 ?kA ?kF ?kK ?k6 ?k7 ?k8 ?k9 ?kB ?_ ?c2 ?c3 ?c4 ?c5; (case kA => walk_at "m frames"); (case kF => first | assumption | exact rfl); (case kK => first | assumption | exact rfl); (case k1 => k_asm); (case k2 => k_asm); (case k3 => k_asm); (case k4 => k_asm); (case k5 => k_asm); (case k6 => k_is); (case k7 => k_is); (case k8 => walk_at "m room"); (case k9 => first | exact BindsTo.of_eq rfl | exact binds_K (by k_in) rfl (by k_is) rfl rfl rfl); (case c5 => decide); (case kB => exact locs rfl); (case c2 => exact rfl); (case c3 => exact rfl); (case c4 => exact rfl); k_whole)
  intro g L' h₁ F' N' B' X' T' hg hgs
  k_fold
  have hl := list_base hl0 hg hno
  dsimp only [List.cons_append, List.nil_append] at N'
  k_steps
  unfold Hold
  rename News g L' _ _ => N5
  rename Fr g L' _ _ => F5
  have hK5 : KeepT s.heap _ := keepT_of (ms := v0.l w.params β π) (fun b o e n => Fr.keep (by assumption) b o (hg b o e n)) (fun p hp => (N p hp).1) ((PL_noTup _ _ _ _ _ _ _ _ _ _).app hnt)
  obtain ⟨P9, hP9⟩ : ∃ P9 : Shared → Prop, ∀ s', P9 s' ↔ (∃ h tk9 v R st hM, s' = ⟨h, s.gens, s.drawn, tk9, s.os⟩ ∧ Fr g L' h (mState π tk st) ∧ News g L' h (v.p w.params β π ++ R) ∧ (∀ x ∈ v.Y, x ∈ R) ∧ (∀ a ∈ (v.l w.params β π).map (·.1), a ∈ (v0.l w.params β π).map (·.1) ∨ s.heap.get? a = none) ∧ (∀ h'' m'', Fr g L' h'' m'' → News g L' h'' (v.p w.params β π ++ R) → KeepT hM h'') ∧ Fin v hM) := ⟨_, fun _ => Iff.rfl⟩
  obtain ⟨I9, hI9⟩ : ∃ I9 : Nat → Shared → Prop, ∀ n s', I9 n s' ↔ (∃ h tk9 v R st hM, s' = ⟨h, s.gens, s.drawn, tk9, s.os⟩ ∧ Fr g L' h (mState π tk st) ∧ News g L' h (v.p w.params β π ++ R) ∧ (∀ x ∈ v.Y, x ∈ R) ∧ (∀ a ∈ (v.l w.params β π).map (·.1), a ∈ (v0.l w.params β π).map (·.1) ∨ s.heap.get? a = none) ∧ (∀ h'' m'', Fr g L' h'' m'' → News g L' h'' (v.p w.params β π ++ R) → KeepT hM h'') ∧
    ((∃ k, st = .int 2 k ∧ Fin v hM) ∨ (∃ k m, st = .int 0 k ∧ n = m + 1 ∧ Inv m false v hM) ∨ ∃ k m, st = .int 1 k ∧ n = m + 1 ∧ Inv m true v hM)) := ⟨_, fun _ _ => Iff.rfl⟩
  have key : ∀ (h5 : Heap) (k0 kl0 tk9 : Tok), Fr g L' h5 (mState π tk (.int 0 k0)) → News g L' h5 (PV.l w.params β π { v0 with lim := 1200, kl := kl0 }) → KeepT s.heap h5 → I9 (N0 + 1) ⟨h5, s.gens, s.drawn, tk9, s.os⟩ := by
    intro h5 k0 kl0 tk9 F5 N5 hK5
    obtain ⟨R0, NR, hYR0, hKR0⟩ := start_R (PLs := PV.p w.params β π { v0 with lim := 1200, kl := kl0 }) (Y := v0.Y) F5 N5
    exact (hI9 (N0 + 1) _).mpr ⟨_, _, { v0 with lim := 1200, kl := kl0 }, R0, _, h5, rfl, F5, NR, hYR0, fun a ha => .inl ha, hKR0, .inr (.inl ⟨_, N0, rfl, rfl, hkl _ _ _ hp0 hK5 (has_of_news N5) (Fr.lst F5 hl)⟩)⟩
  refine while_X (base := base) (by walk_at "m frames") rfl P9 I9 ?_ ?_ (N0 + 1) (key _ _ _ _ (fr_congr F5 fun y => rfl) N5 hK5)
  · clear hK5 N5 F5 key
    intro n s' hs'
    obtain ⟨h4, tk9, v, R, st, hM, rfl, F', N', hYR, hfr, hKR, hcs⟩ := (hI9 _ _).mp hs'
    dsimp only [List.cons_append, List.nil_append] at N'
    rcases hcs with ⟨k, rfl, hF⟩ | ⟨k, m, rfl, rfl, hI⟩ | ⟨k, m, rfl, rfl, hI⟩
    · k_steps
      rename News g L' _ _ => N7
      rename Fr g L' _ _ => F7
      exact (hP9 _).mpr ⟨_, _, v, R, _, hM, rfl, F7, N7, hYR, hfr, hKR, hF⟩
    · k_steps
      unfold Hold
      rename News g L' _ _ => N7
      rename Fr g L' _ _ => F7
      k_dflt (refine' use_xswap (PLs := PV.p w.params β π) (Y := PV.Y) (c := v) (R := R) (hop m v) ?k1 ?k2 ?k3 N7 ?k5 ?kA ?kf ?kk ?kd ?ku ?kh hYR ?kp ?_ ?kx; walk_at "m fin")
      case kp => exact hst _ _ _ _ _ hI (hKR _ _ F7 N7) (fun p hp => (N7 p ((List.mem_append.mp hp).elim (fun q => List.mem_append_left R q) fun q => List.mem_append_right (v.p w.params β π) (hYR _ q))).1) (Fr.lst F7 hl)
      case kx =>
        intro e dx h' tk' kind9 z9 hf9 hku hflt hex
        refine ⟨e, dx, rfl, hf9, fun h2 hf2 hu2 => ?_⟩
        show wpAny _ _ (leaving _ _) _ _ _
        refine leave_held hf2 fun h3 hf3 hu3 => ?_
        show E _ _
        exact hexc e dx h3 _ _ _ hf3 (((keepU_on F7 hg hfr hku).post hu2).post hu3) ((hflt.slots hu2).slots hu3) hex
      intro r h' tk' v' R' F' N' hYR' hKR' hfr' hK' hR
      have hfr2 := fresh_on F7 hg hfr hfr'
      clear N7 F7
      dsimp only [List.cons_append, List.nil_append] at N'
      rcases hR with ⟨k2, rfl, hF⟩ | ⟨m', hm', ⟨k2, rfl, hF⟩ | ⟨k2, rfl, hF⟩⟩
      · k_steps
        rename News g L' _ _ => N7
        rename Fr g L' _ _ => F7
        refine ⟨0, Nat.succ_pos _, (hI9 _ _).mpr ⟨_, _, v', R', _, h', rfl, mState_set F7, N7, hYR', hfr2, hKR', .inl ⟨k2, rfl, hF⟩⟩⟩
      · k_steps
        rename News g L' _ _ => N7
        rename Fr g L' _ _ => F7
        refine ⟨m' + 1, Nat.succ_lt_succ hm', (hI9 _ _).mpr ⟨_, _, v', R', _, h', rfl, mState_set F7, N7, hYR', hfr2, hKR', .inr (.inl ⟨k2, m', rfl, rfl, hF⟩)⟩⟩
      · k_steps
        rename News g L' _ _ => N7
        rename Fr g L' _ _ => F7
        refine ⟨m' + 1, Nat.succ_lt_succ hm', (hI9 _ _).mpr ⟨_, _, v', R', _, h', rfl, mState_set F7, N7, hYR', hfr2, hKR', .inr (.inr ⟨k2, m', rfl, rfl, hF⟩)⟩⟩
    · k_steps
      unfold Hold
      rename News g L' _ _ => N7
      rename Fr g L' _ _ => F7
      k_dflt (refine' use_xswap (PLs := PV.p w.params β π) (Y := PV.Y) (c := v) (R := R) (hor m v) ?k1 ?k2 ?k3 N7 ?k5 ?kA ?kf ?kk ?kd ?ku ?kh hYR ?kp ?_ ?kx; walk_at "m fin")
      case kp => exact hst _ _ _ _ _ hI (hKR _ _ F7 N7) (fun p hp => (N7 p ((List.mem_append.mp hp).elim (fun q => List.mem_append_left R q) fun q => List.mem_append_right (v.p w.params β π) (hYR _ q))).1) (Fr.lst F7 hl)
      case kx =>
        intro e dx h' tk' kind9 z9 hf9 hku hflt hex
        refine ⟨e, dx, rfl, hf9, fun h2 hf2 hu2 => ?_⟩
        show wpAny _ _ (leaving _ _) _ _ _
        refine leave_held hf2 fun h3 hf3 hu3 => ?_
        show E _ _
        exact hexc e dx h3 _ _ _ hf3 (((keepU_on F7 hg hfr hku).post hu2).post hu3) ((hflt.slots hu2).slots hu3) hex
      intro r h' tk' v' R' F' N' hYR' hKR' hfr' hK' hR
      have hfr2 := fresh_on F7 hg hfr hfr'
      clear N7 F7
      dsimp only [List.cons_append, List.nil_append] at N'
      rcases hR with ⟨k2, rfl, hF⟩ | ⟨m', hm', ⟨k2, rfl, hF⟩ | ⟨k2, rfl, hF⟩⟩
      · k_steps
        rename News g L' _ _ => N7
        rename Fr g L' _ _ => F7
        refine ⟨0, Nat.succ_pos _, (hI9 _ _).mpr ⟨_, _, v', R', _, h', rfl, mState_set F7, N7, hYR', hfr2, hKR', .inl ⟨k2, rfl, hF⟩⟩⟩
      · k_steps
        rename News g L' _ _ => N7
        rename Fr g L' _ _ => F7
        refine ⟨m' + 1, Nat.succ_lt_succ hm', (hI9 _ _).mpr ⟨_, _, v', R', _, h', rfl, mState_set F7, N7, hYR', hfr2, hKR', .inr (.inl ⟨k2, m', rfl, rfl, hF⟩)⟩⟩
      · k_steps
        rename News g L' _ _ => N7
        rename Fr g L' _ _ => F7
        refine ⟨m' + 1, Nat.succ_lt_succ hm', (hI9 _ _).mpr ⟨_, _, v', R', _, h', rfl, mState_set F7, N7, hYR', hfr2, hKR', .inr (.inr ⟨k2, m', rfl, rfl, hF⟩)⟩⟩
  · clear hK5 N5 F5 key
    intro s' hs'
    obtain ⟨h4, tk9, v, R, st, hM, rfl, F', N', hYR, hfr, hKR, hF⟩ := (hP9 _).mp hs'
    obtain ⟨ta, hta⟩ := hft _ _ hF
    dsimp only [PV.p, List.cons_append, List.nil_append] at N'
    rw [hta] at N'
    k_steps
    rename News g L' _ _ => N7
    rename Fr g L' _ _ => F7
    show Q _ _
    have N8 : News g L' _ (v.p w.params β π ++ R) := fun x hx => N7 x (List.Mem.tail _ (by unfold PV.p at hx; rw [hta] at hx; exact hx))
    have hH : Has _ (v.l w.params β π) := fun p hp => (N8 p ((List.mem_append.mp hp).elim (fun q => List.mem_append_left R q) fun q => List.mem_append_right (v.p w.params β π) (hYR _ q))).1
    refine hret _ _ _ (fun b o e n => Fr.keep (by assumption) b o (hg b o e n)) ⟨v, hH, hfr, hsf _ _ _ hF (hKR _ _ F7 N8) hH (Fr.lst F7 hl), _, _, rfl, by rw [hta]; exact News.get N7 (.head _), ?_⟩
    rename _ ∧ _ ∧ AllLt _ R => l9
    have g9 := (N7 _ (.head _)).2.2
    refine back_none (ms := v0.l w.params β π) N7 (.head _) hg fun hm => ?_
    obtain ⟨x, hx, e⟩ := List.mem_map.mp (hfs _ _ hF _ hm)
    rcases List.mem_append.mp hx with q | q
    · simp only [PV.p, PL, List.mem_cons, List.mem_nil_iff, or_false] at q
      rcases q with rfl | rfl
      · exact absurd e (Nat.ne_of_lt l9.1)
      · exact absurd e (Nat.ne_of_lt l9.2.1)
    · exact absurd e (Nat.ne_of_lt (ktn_ltOf l9.2.2 x (hYR x q)))
end

theorem tick65 {prog : Program} {w : World} {A : Around} {E : Value → Shared → Prop} {s : Shared} {env : Env} {Q : Flow → Shared → Prop} (h : Q .next s) : wpAny (model prog w) A (execs [] env) Q E s := by
  first | (walk1; exact h) | exact wpAny_execs_nil h
section
local macro_rules | `(tactic| k_mem) => `(tactic| first | exact List.Mem.head _ | exact List.Mem.tail _ (List.Mem.head _) | exact List.Mem.tail _ (List.Mem.tail _ (List.Mem.head _)))
local macro_rules | `(tactic| walk_at "exec Raise some none") => `(tactic| (k_dflt (refine' raise_K ?k1 ?_; (case k1 => exact rfl); k_whole)))
local macro_rules | `(tactic| walk_at "call ref") => `(tactic| (k_here; (with_reducible show wpAny _ _ (call (Value.ref 397) _) _ _ _); refine hold ?_))
local macro_rules | `(tactic| walk_at "call ref") => `(tactic| (k_here; (with_reducible show wpAny _ _ (call (Value.ref 390) _) _ _ _); refine hold ?_))
set_option maxHeartbeats 8000000 in
theorem does_clause (w : World) (β : BA) (π : PA) (tvs : List Value) (Pre0 : Heap → Prop) (Fin : PV → Heap → Prop) (Good : PV → Prop) (ExcK : Str → Int → Prop) (v0 : PV)
    (hst0 : ∀ h h', Pre0 h → KeepT h h' → Has h' (v0.l w.params β π) → h'.IsList π.tl tvs.toArray → Pre0 h')
    (hsf : ∀ v h h', Fin v h → KeepT h h' → Has h' (v.l w.params β π) → h'.IsList π.tl tvs.toArray → Fin v h')
    (hft : ∀ v h, Fin v h → ∃ ta, v.tm = .ref ta)
    (hparse : ∀ tk, DoesX w 397 20 [.ref π.p, .int 1200 tk] (v0.l w.params β π) Pre0
      (fun h h' r => ∃ v' : PV, Has h' (v'.l w.params β π) ∧ (∀ a ∈ (v'.l w.params β π).map (·.1), a ∈ (v0.l w.params β π).map (·.1) ∨ h.get? a = none) ∧ Fin v' h' ∧ ∃ t k, r = .ref t ∧ h'.get? t = some (tupOf [v'.tm, .int v'.pr k]) ∧ h.get? t = none) (fun _ k z => ExcK k z))
    (htok : ∀ v h, Fin v h → ∃ (i : Nat) (q : Addr) (d : TK) (z : Int), v.pl = i ∧ i < 1000 ∧ tvs[i]? = some (.ref q) ∧ TupTk h q d z ∧ ((d.kind = Str.ofString "end" ∧ Good v) ∨ ((d.kind == Str.ofString "end") = false ∧ ExcK (misKind d (Str.ofString "end_expected")) z ∧
      ∀ ot, Does w 390 8 [.ref π.p, .ref q, .str (Str.ofString "end_expected") ot] (v.l w.params β π) (Fin v) (fun h h' r => ∃ e dx od mA ns, FaultAt h h' r (misKind d (Str.ofString "end_expected")) z e dx od mA ns)))) :
    DoesX w 355 22 [.ref π.p] (v0.l w.params β π) (fun h => Pre0 h ∧ h.IsList π.tl tvs.toArray ∧ π.tl ∉ (v0.l w.params β π).map (·.1) ∧ ∀ (i : Nat) (q : Addr), tvs[i]? = some (.ref q) → q ∉ (v0.l w.params β π).map (·.1) ∧ ∃ o, h.get? q = some o)
      (fun h h' r => ∃ v' : PV, Has h' (v'.l w.params β π) ∧ (∀ a ∈ (v'.l w.params β π).map (·.1), a ∈ (v0.l w.params β π).map (·.1) ∨ h.get? a = none) ∧ Fin v' h' ∧ r = v'.tm ∧ Good v') (fun _ k z => ExcK k z) := by
  walk_at "m fill"
  intro p loose mean mg mb A env outer A₀ base h₀ L m s Q E B F X N T hA hf hk hd hu hh hpre hret hexc
  obtain ⟨ah, dp, fr, gd, un⟩ := A
  obtain rfl : fr = some (env :: outer) := hA
  obtain rfl : ah = none := hh
  replace hd : dp + _ < recursionLimit := hd
  replace hu : un + _ < cLine := hu
  obtain ⟨hp0, hl0, hno, htk0⟩ := hpre
  refine wpAny_call ?_
  k_dflt (refine' enterD (binds := [(Str.ofString "self", .ref π.p)]) ?k1 ?k2 ?k3 ?k4 ?k5 ?kA ?kF ?kK ?k6 ?k7 ?k8 ?k9 ?kB ?_ ?c2 ?c3 ?c4 ?c5; (case kA => walk_at "m frames"); (case kF => first | assumption | exact rfl); (case kK => first | assumption | exact rfl); (case k1 => k_asm); (case k2 => k_asm); (case k3 => k_asm); (case k4 => k_asm); (case k5 => k_asm); (case k6 => k_is); (case k7 => k_is); (case k8 => walk_at "m room"); (case k9 => first | exact BindsTo.of_eq rfl | exact binds_K (by k_in) rfl (by k_is) rfl rfl rfl); (case c5 => decide); (case kB => exact locs rfl); (case c2 => exact rfl); (case c3 => exact rfl); (case c4 => exact rfl); k_whole)
  intro g L' h₁ F' N' B' X' T' hg hgs
  k_fold
  have hl := list_base hl0 hg hno
  dsimp only [List.cons_append, List.nil_append] at N'
  k_steps
  unfold Hold
  rename News g L' _ _ => N5
  rename Fr g L' _ _ => F5
  k_dflt (refine' use_xswap (PLs := PV.p w.params β π) (Y := PV.Y) (c := v0) (R := v0.Y) (hparse _) ?k1 ?k2 ?k3 N5 ?k5 ?kA ?kf ?kk ?kd ?ku ?kh (fun _ h => h) ?kp ?_ ?kx; walk_at "m fin")
  case kp => exact hst0 _ _ hp0 (.of_keep (full_keep N hg F5 N5)) (has_of_news N5) (Fr.lst F5 hl)
  case kx =>
    intro e dx h' tk' kind9 z9 hf9 hku hflt hex
    refine leave_fault_on B' hf9 fun h2 hf2 hu2 => ?_
    show E _ _
    exact hexc e dx h2 _ _ _ hf2 ((KeepU.pre (fun b o e n => Fr.keep (by assumption) b o (hg b o e n)) hku).post hu2) (hflt.slots hu2) hex
  intro r h' tk' v R F' N' hYR hKR hfr hK ⟨hF, t, k, hr, ht, htn⟩
  subst hr
  obtain ⟨ta, hta⟩ := hft _ _ hF
  have hfr2 := fresh_on F5 hg (fun a ha => .inl ha) hfr
  obtain ⟨i, q, d, z, hpl, hi, hq, htk, hcs⟩ := htok _ _ hF
  obtain ⟨hq1, o9, hq2⟩ := htk0 i q hq
  have hqg : ∃ ka kb kc, g.get? q = some (tupOf [.str d.kind ka, d.val kb, .int z kc]) := by
    obtain ⟨ka, kb, kc, e⟩ := htk
    have e1 := hg _ _ hq2 hq1
    have e2 := F'.keep _ _ e1
    rw [e] at e2
    exact ⟨ka, kb, kc, by rw [e1, ← e2]⟩
  obtain ⟨ka0, kb0, kc0, hqg0⟩ := hqg
  have hqt0 : IsTup g q [.str d.kind ka0, d.val kb0, .int z kc0].toArray := ⟨_, hqg0, rfl, _, rfl⟩
  have htk0 : TupTk g q d z := ⟨_, _, _, hqg0⟩
  have hx0 : tvs[Int.toNat (i : Int)]? = some (.ref q) := hq
  replace N' := news_add F5 N' ht htn
  dsimp only [PV.p, List.cons_append, List.nil_append] at N'
  rw [hpl, hta] at N'
  rw [hta] at ht
  clear N5 F5
  rcases hcs with ⟨hk1, hgd⟩ | ⟨hk1, hex, hmis⟩
  · rw [hk1] at hqt0
    k_steps
    rename News g L' _ _ => N7
    rename Fr g L' _ _ => F7
    show Q _ _
    have N8 : News g L' _ (v.p w.params β π ++ R) := fun x hx => N7 x (List.Mem.tail _ (by unfold PV.p at hx; rw [hpl, hta] at hx; exact hx))
    have hH : Has _ (v.l w.params β π) := fun p hp => (N8 p ((List.mem_append.mp hp).elim (fun q => List.mem_append_left R q) fun q => List.mem_append_right (v.p w.params β π) (hYR _ q))).1
    exact hret _ _ _ (fun b o e n => Fr.keep (by assumption) b o (hg b o e n)) ⟨v, hH, hfr2, hsf _ _ _ hF (hKR _ _ F7 N8) hH (Fr.lst F7 hl), hta.symm, hgd⟩
  · have hk2 : (d.kind != Str.ofString "end") = true := by unfold bne; rw [hk1]; rfl
    k_steps
    unfold Hold
    rename News g L' _ _ => N7
    rename Fr g L' _ _ => F7
    have N8 : News g L' _ (v.p w.params β π ++ R) := fun x hx => N7 x (List.Mem.tail _ (by unfold PV.p at hx; rw [hpl, hta] at hx; exact hx))
    have hs9 : ∀ p ∈ v.l w.params β π, p ∈ v.p w.params β π ++ R := fun p hp => (List.mem_append.mp hp).elim (fun q => List.mem_append_left R q) fun q => List.mem_append_right (v.p w.params β π) (hYR _ q)
    have hH : Has _ (v.l w.params β π) := fun p hp => (N8 p (hs9 p hp)).1
    k_dflt (refine' use_does (hmis _) ?k1 ?k2 ?k3 N8 ?k5 ?kA ?kf ?kk ?kd ?ku ?kh hs9 ?kp ?_; walk_at "m fin")
    case kp => exact hsf _ _ _ hF (hKR _ _ F7 N8) hH (Fr.lst F7 hl)
    intro r h' tk' hK hR F9
    obtain ⟨e, dx, od9, mA, ns, fx⟩ := hR
    refine' raise_end ?b ?x ?f0 ?f ?flt ?hE ?hk
    case hk => exact rfl
    case b => exact B'
    case x => exact X'
    case f => exact F9
    case f0 => exact F7
    case flt => exact fx
    intro h'' hf hu
    show E _ _
    have kk : Keep ((v0.l w.params β π).map (·.1)) s.heap _ := (fun b o e n => Fr.keep (by assumption) b o (hg b o e n))
    exact hexc e dx h'' _ _ _ hf (KeepU.of kk hu) (fx.flt.slots hu) hex
end

/-- the first token of a sign -/
def tk1 : Sg → TK
  | .atm => .namA
  | .num => .int7
  | .lp => .opn
  | .fp => .namF
  | .dot => .fin
  | x => .pun x
theorem tkOf_head (x : Sg) (a : Nat) : (tkOf x a)[0]? = some (tk1 x, a) := by cases x <;> rfl
theorem tkOf_len (x : Sg) (a : Nat) : (tkOf x a).length = if x = .fp then 2 else 1 := by cases x <;> rfl
theorem toksOf_app : ∀ (l1 l2 : List Sg) (k : Nat), toksOf (l1 ++ l2) k = toksOf l1 k ++ toksOf l2 (k + l1.length)
  | [], l2, k => by simp [toksOf]
  | x :: l1, l2, k => by rw [List.cons_append, toksOf, toksOf, toksOf_app l1 l2 (k + 1), List.append_assoc, List.length_cons]; congr 3; omega
/-- where the tokens of sign i begin -/
def tpos (sg : List Sg) (i : Nat) : Nat := (toksOf (sg.take i) 0).length
theorem toks_at {sg : List Sg} {i : Nat} {x : Sg} (h : sg[i]? = some x) (k : Nat) (hk : k < (tkOf x (3 * i)).length) : (toksOf sg 0)[tpos sg i + k]? = (tkOf x (3 * i))[k]? := by
  have hi := (List.getElem?_eq_some_iff.mp h).1
  have e : sg = sg.take i ++ (x :: sg.drop (i + 1)) := by
    rw [← (List.getElem?_eq_some_iff.mp h).2, ← List.drop_eq_getElem_cons hi, List.take_append_drop]
  have e2 : toksOf sg 0 = toksOf (sg.take i) 0 ++ toksOf (x :: sg.drop (i + 1)) i := by
    conv => lhs; rw [e]
    rw [toksOf_app, List.length_take, Nat.min_eq_left (Nat.le_of_lt hi), Nat.zero_add]
  rw [e2, tpos, List.getElem?_append_right (Nat.le_add_right _ _), Nat.add_sub_cancel_left, toksOf, List.getElem?_append_left hk]
theorem tok_at {sg : List Sg} {i : Nat} {x : Sg} (h : sg[i]? = some x) : (toksOf sg 0)[tpos sg i]? = some (tk1 x, 3 * i) := by
  have := toks_at h 0 (by rw [tkOf_len]; split <;> omega)
  rw [Nat.add_zero, tkOf_head] at this
  exact this
theorem tpos_succ {sg : List Sg} {i : Nat} {x : Sg} (h : sg[i]? = some x) : tpos sg (i + 1) = tpos sg i + if x = .fp then 2 else 1 := by
  have hi := (List.getElem?_eq_some_iff.mp h).1
  rw [tpos, List.take_add_one, h]
  show (toksOf (sg.take i ++ [x]) 0).length = _
  rw [toksOf_snoc, List.length_append, tkOf_len, tpos]
theorem tpos_lt {sg : List Sg} (w : WF sg) {i : Nat} (h : i < sg.length) : tpos sg i < 200 := by
  have := toks_len (sg.take i) 0
  rw [List.length_take] at this
  have := w.small
  unfold tpos
  omega

/-- the addresses of a frame -/
abbrev FA (f : FC) : List Addr := [f.fa, f.fd, f.fi]
abbrev OAd (π : PA) (ω : OA) : List Addr := [π.o, ω.od, ω.pf, ω.nf, ω.qf]
abbrev BAd (β : BA) : List Addr := [β.b, β.bd, β.tx, β.an, β.fs, β.fn]
/-- the addresses of the whole machine -/
abbrev AD (β : BA) (π : PA) (ω : OA) (fcs : List FC) : List Addr := [π.p, π.pd] ++ (π.fl :: (fcs.flatMap FA ++ (OAd π ω ++ BAd β)))
def vals (fcs : List FC) : List Value := fcs.reverse.map fun f => .ref f.fa
theorem vals_cons (f : FC) (fcs : List FC) : vals (f :: fcs) = vals fcs ++ [.ref f.fa] := by simp [vals]
theorem vals_len (fcs : List FC) : (vals fcs).length = fcs.length := by simp [vals]
/-- what else the machine holds -/
structure Gh where
  c : BC
  kp : Tok
  kl : Tok
  kr : Tok
  tm : Value
  nf : Nat
  fcs : List FC
abbrev MY (P : Params) (β : BA) (π : PA) (ω : OA) (fcs : List FC) (nf : Nat) (c : BC) : List (Addr × Obj) := (π.fl, listOf (vals fcs).toArray nf) :: (fcs.flatMap (FL P) ++ (OL P β π.o ω ++ c.L P β))
def PVof (P : Params) (β : BA) (π : PA) (ω : OA) (sg : List Sg) (σ : St) (G : Gh) : PV := ⟨(tpos sg σ.i : Nat), G.kp, σ.lim, G.kl, G.tm, σ.pr, G.kr, MY P β π ω G.fcs G.nf G.c⟩
abbrev ML (P : Params) (β : BA) (π : PA) (ω : OA) (sg : List Sg) (σ : St) (G : Gh) : List (Addr × Obj) := PL P β π ((tpos sg σ.i : Nat) : Int) G.kp σ.lim G.kl G.tm σ.pr G.kr ++ MY P β π ω G.fcs G.nf G.c
theorem flat_adr (P : Params) : ∀ fcs : List FC, (fcs.flatMap (FL P)).map (·.1) = fcs.flatMap FA
  | [] => rfl
  | f :: fcs => by rw [List.flatMap_cons, List.flatMap_cons, List.map_append, flat_adr P fcs]; rfl
theorem MY_adr (P : Params) (β : BA) (π : PA) (ω : OA) (fcs : List FC) (nf : Nat) (c : BC) : (MY P β π ω fcs nf c).map (·.1) = π.fl :: (fcs.flatMap FA ++ (OAd π ω ++ BAd β)) := by
  rw [List.map_cons, List.map_append, flat_adr, List.map_append]; rfl
theorem ML_adr (P : Params) (β : BA) (π : PA) (ω : OA) (sg : List Sg) (σ : St) (G : Gh) : (ML P β π ω sg σ G).map (·.1) = AD β π ω G.fcs := by
  rw [List.map_append, MY_adr]; rfl
/-- how a frame lies -/
def FAt (tx : List Str) (fs : List (Int × Int)) (h : Heap) : Fk → FC → Prop
  | .round, f => f.kind = Str.ofString "round"
  | .curly, f => f.kind = Str.ofString "curly"
  | .args ts, f => f.kind = Str.ofString "args" ∧ (∃ j : Nat, f.nm = j ∧ tx[j]? = some (Str.ofString "f")) ∧ TermsAt tx fs h ts f.its
  | .list ts, f => f.kind = Str.ofString "list" ∧ TermsAt tx fs h ts f.its
  | .tail ts, f => f.kind = Str.ofString "tail" ∧ TermsAt tx fs h ts f.its
  | .op l, f => f.kind = Str.ofString "operator" ∧ f.fn = 1 ∧ f.pr = 1000 ∧ ∃ la, f.left = .ref la ∧ TermAt tx fs h l (.ref la)
def FrsAt (tx : List Str) (fs : List (Int × Int)) (h : Heap) : List (Fk × Int) → List FC → Prop
  | [], [] => True
  | x :: xs, f :: fcs => f.lim = x.2 ∧ FAt tx fs h x.1 f ∧ FrsAt tx fs h xs fcs
  | _, _ => False
theorem FAt.keep {tx tx' : List Str} {fs fs' : List (Int × Int)} {h h' : Heap} (ht : tx <+: tx') (hf : fs <+: fs') (k : KeepT h h') : ∀ {x : Fk} {f : FC}, FAt tx fs h x f → FAt tx' fs' h' x f
  | .round, _, e => e
  | .curly, _, e => e
  | .args ts, _, ⟨a, ⟨j, b, c⟩, d⟩ => ⟨a, ⟨j, b, prefix_get ht c⟩, TermsAt.keep ht hf k _ _ d⟩
  | .list ts, _, ⟨a, d⟩ => ⟨a, TermsAt.keep ht hf k _ _ d⟩
  | .tail ts, _, ⟨a, d⟩ => ⟨a, TermsAt.keep ht hf k _ _ d⟩
  | .op l, _, ⟨a, b, c, la, d, e⟩ => ⟨a, b, c, la, d, TermAt.keep ht hf k _ _ e⟩
theorem FrsAt.keep {tx tx' : List Str} {fs fs' : List (Int × Int)} {h h' : Heap} (ht : tx <+: tx') (hf : fs <+: fs') (k : KeepT h h') : ∀ {xs : List (Fk × Int)} {fcs : List FC}, FrsAt tx fs h xs fcs → FrsAt tx' fs' h' xs fcs
  | [], [], _ => trivial
  | _ :: _, _ :: _, ⟨a, b, c⟩ => ⟨a, b.keep ht hf k, FrsAt.keep ht hf k c⟩
theorem FrsAt.len {tx : List Str} {fs : List (Int × Int)} {h : Heap} : ∀ {xs : List (Fk × Int)} {fcs : List FC}, FrsAt tx fs h xs fcs → fcs.length = xs.length
  | [], [], _ => rfl
  | _ :: _, _ :: _, ⟨_, _, c⟩ => congrArg (· + 1) (FrsAt.len c)
/-- what stays so, whatever the machine does -/
structure Fx (w : World) (β : BA) (π : PA) (ω : OA) (tvs : List Value) (sg : List Sg) (c0 : BC) : Prop where
  oO : OOk w ω
  o1 : π.pd < π.p ∧ π.p < π.fl
  o2 : ω.od < π.o ∧ π.o < ω.pf ∧ ω.pf < ω.nf ∧ ω.nf < ω.qf ∧ ω.qf < π.pd
  o3 : β.fn < π.pd
  wf : WF sg
  tq : ∀ (k : Nat) (d : TK × Nat), (toksOf sg 0)[k]? = some d → ∃ q, tvs[k]? = some (.ref q)
  t7 : c0.texts[7]? = some (Str.ofString ",")
  f1 : c0.fns[1]? = some (7, 2)
/-- the machine at a heap -/
structure MAt (w : World) (β : BA) (π : PA) (ω : OA) (tvs : List Value) (sg : List Sg) (c0 : BC) (n : Nat) (h : Heap) (σ : St) (G : Gh) : Prop where
  has : Has h (ML w.params β π ω sg σ G)
  nd : (AD β π ω G.fcs).Nodup
  ok : G.c.Ok w h β
  g1 : c0.texts <+: G.c.texts
  g2 : c0.fns <+: G.c.fns
  sz : G.c.size + 2 * n ≤ 90000
  frs : FrsAt G.c.texts G.c.fns h σ.fs G.fcs
  tm : σ.w = true → ∃ ta, G.tm = .ref ta ∧ TermAt G.c.texts G.c.fns h σ.tm (.ref ta)
  ct : IsTup h ω.ct [.int 1000 ω.t1, .str (Str.ofString "xfy") ω.t2].toArray
  tl : h.IsList π.tl tvs.toArray
  tlo : π.tl ∉ AD β π ω G.fcs
  tk : TksAt h tvs (toksOf sg 0)
theorem DoesX.lift {w : World} {f : Addr} {cost cost' : Nat} {vs : List Value} {ms ALL : List (Addr × Obj)} {Pre Pre' : Heap → Prop} {P P' : Heap → Heap → Value → Prop} {X X' : Heap → Str → Int → Prop} (D : DoesX w f cost vs ms Pre P X) (hc : cost ≤ cost') (hs : ∀ p ∈ ms, p ∈ ALL)
    (hpre : ∀ h, Has h ALL → Pre' h → Pre h) (hpost : ∀ h h' r, Has h ALL → Pre' h → Keep (ms.map (·.1)) h h' → P h h' r → P' h h' r) (hexc : ∀ h k z, Pre' h → X h k z → X' h k z) : DoesX w f cost' vs ALL Pre' P' X' :=
  fun p loose mean mg mb A env outer A₀ base h₀ L m s Q E B F Xi N T hA hf hk hd hu hh hp hret hexc' =>
    have hH : Has s.heap ALL := fun p hp => (N p hp).1
    D p loose mean mg mb A env outer A₀ base h₀ L m s Q E B F Xi (sub_news N hs) T hA hf hk (by omega) (by omega) hh (hpre _ hH hp)
      (fun r h' tk' k q => hret r h' tk' (k.mono fun a ha => map_sub hs ha) (hpost _ _ _ hH hp k q))
      fun e dx h' tk' kind z a b c d => hexc' e dx h' tk' kind z a (b.mono fun a ha => map_sub hs ha) c (hexc _ _ _ hp d)
theorem Does.lift {w : World} {f : Addr} {cost cost' : Nat} {vs : List Value} {ms ALL : List (Addr × Obj)} {Pre Pre' : Heap → Prop} {P P' : Heap → Heap → Value → Prop} (D : Does w f cost vs ms Pre P) (hc : cost ≤ cost') (hs : ∀ p ∈ ms, p ∈ ALL)
    (hpre : ∀ h, Has h ALL → Pre' h → Pre h) (hpost : ∀ h h' r, Has h ALL → Pre' h → Keep (ms.map (·.1)) h h' → P h h' r → P' h h' r) : Does w f cost' vs ALL Pre' P' :=
  fun p loose mean mg mb A env outer A₀ base h₀ L m s Q E B F Xi N T hA hf hk hd hu hh hp hret =>
    have hH : Has s.heap ALL := fun p hp => (N p hp).1
    D p loose mean mg mb A env outer A₀ base h₀ L m s Q E B F Xi (sub_news N hs) T hA hf hk (by omega) (by omega) hh (hpre _ hH hp)
      (fun r h' tk' k q => hret r h' tk' (k.mono fun a ha => map_sub hs ha) (hpost _ _ _ hH hp k q))
theorem tick66 {prog : Program} {w : World} {A : Around} {E : Value → Shared → Prop} {s : Shared} {env : Env} {Q : Flow → Shared → Prop} (h : Q .next s) : wpAny (model prog w) A (execs [] env) Q E s := by
  first | (walk1; exact h) | exact wpAny_execs_nil h
section
variable {w : World} {β : BA} {π : PA} {ω : OA} {tvs : List Value} {sg : List Sg} {c0 : BC} {n : Nat} {h h' : Heap} {σ σ' : St} {G G' : Gh}
/-- no address stands twice -/
structure DJ (β : BA) (π : PA) (ω : OA) (fcs : List FC) : Prop where
  p : ∀ a ∈ ([π.p, π.pd] : List Addr), a ≠ π.fl ∧ a ∉ fcs.flatMap FA ∧ a ∉ OAd π ω ∧ a ∉ BAd β
  fl : (π.fl : Addr) ∉ fcs.flatMap FA ∧ (π.fl : Addr) ∉ OAd π ω ∧ (π.fl : Addr) ∉ BAd β
  f : ∀ a ∈ fcs.flatMap FA, a ∉ OAd π ω ∧ a ∉ BAd β
  o : ∀ a ∈ OAd π ω, a ∉ BAd β
  nf : (fcs.flatMap FA).Nodup
theorem dj_of {fcs : List FC} (nd : (AD β π ω fcs).Nodup) : DJ β π ω fcs := by
  obtain ⟨_, n2, n3⟩ := List.nodup_append.mp nd
  obtain ⟨m1, m2⟩ := List.nodup_cons.mp n2
  obtain ⟨k1, k2, k3⟩ := List.nodup_append.mp m2
  obtain ⟨_, _, j3⟩ := List.nodup_append.mp k2
  refine ⟨fun a ha => ⟨fun e => n3 a ha _ (.head _) e, fun e => n3 a ha a (.tail _ (List.mem_append_left _ e)) rfl, fun e => n3 a ha a (.tail _ (List.mem_append_right _ (List.mem_append_left _ e))) rfl, fun e => n3 a ha a (.tail _ (List.mem_append_right _ (List.mem_append_right _ e))) rfl⟩, ?_, ?_, fun a ha e => j3 a ha a e rfl, k1⟩
  · exact ⟨fun e => m1 (List.mem_append_left _ e), fun e => m1 (List.mem_append_right _ (List.mem_append_left _ e)), fun e => m1 (List.mem_append_right _ (List.mem_append_right _ e))⟩
  · exact fun a ha => ⟨fun e => k3 a ha a (List.mem_append_left _ e) rfl, fun e => k3 a ha a (List.mem_append_right _ e) rfl⟩
theorem nd_of {fcs fcs' : List FC} (nd : (AD β π ω fcs).Nodup) (h1 : (fcs'.flatMap FA).Nodup) (h2 : ∀ a ∈ fcs'.flatMap FA, a ∈ fcs.flatMap FA ∨ a ∉ AD β π ω fcs) : (AD β π ω fcs').Nodup := by
  have hsub : ∀ a, a ∈ fcs'.flatMap FA → ∀ b, b ∈ [π.p, π.pd] ∨ b = π.fl ∨ b ∈ OAd π ω ++ BAd β → a ≠ b := fun a ha b hb e => by
    subst e
    have inAD : a ∈ AD β π ω fcs := by
      rcases hb with q | q | q
      · exact List.mem_append_left _ q
      · exact List.mem_append_right _ (q ▸ List.mem_cons_self)
      · exact List.mem_append_right _ (.tail _ (List.mem_append_right _ q))
    rcases h2 a ha with q | q
    · have d := dj_of nd
      rcases hb with r | r | r
      · exact (d.p a r).2.1 q
      · subst r; exact d.fl.1 q
      · rcases List.mem_append.mp r with r | r
        · exact (d.f a q).1 r
        · exact (d.f a q).2 r
    · exact q inAD
  obtain ⟨n1, n2, n3⟩ := List.nodup_append.mp nd
  obtain ⟨m1, m2⟩ := List.nodup_cons.mp n2
  obtain ⟨k1, k2, k3⟩ := List.nodup_append.mp m2
  refine List.nodup_append.mpr ⟨n1, List.nodup_cons.mpr ⟨fun e => ?_, List.nodup_append.mpr ⟨h1, k2, fun a ha b hb => hsub a ha b (.inr (.inr hb))⟩⟩, fun a ha b hb => ?_⟩
  · rcases List.mem_append.mp e with e | e
    · exact hsub _ e _ (.inr (.inl rfl)) rfl
    · exact m1 (List.mem_append_right _ e)
  · rcases List.mem_cons.mp hb with q | q
    · exact n3 a ha b (q ▸ List.mem_cons_self)
    · rcases List.mem_append.mp q with q | q
      · exact fun e => hsub b q a (.inl ha) e.symm
      · exact n3 a ha b (.tail _ (List.mem_append_right _ q))
theorem MAt.noTup (X : Fx w β π ω tvs sg c0) (M : MAt w β π ω tvs sg c0 n h σ G) : NoTup (ML w.params β π ω sg σ G) := by
  refine (PL_noTup _ _ _ _ _ _ _ _ _ _).app (List.forall_mem_cons.mpr ⟨list_noTup _ _, NoTup.app (fun p hp => ?_) ((X.oO.noTup _ _ _).app (M.ok.noTup _))⟩)
  obtain ⟨f, _, hp⟩ := List.mem_flatMap.mp hp
  simp only [FL, List.mem_cons, List.mem_nil_iff, or_false] at hp
  rcases hp with rfl | rfl | rfl
  · exact inst_noTup _ _
  · exact dict_noTup _ _
  · exact list_noTup _ _
/-- a tuple lies off the machine -/
theorem MAt.tup_off (X : Fx w β π ω tvs sg c0) (M : MAt w β π ω tvs sg c0 n h σ G) {q : Addr} {o : Obj} (e : h.get? q = some o) (t : isTup o) : q ∉ AD β π ω G.fcs := fun hq => by
  rw [← ML_adr w.params β π ω sg σ G] at hq
  obtain ⟨p, hp, rfl⟩ := List.mem_map.mp hq
  have := M.has p hp
  rw [e] at this
  exact M.noTup X p hp (Option.some.inj this ▸ t)
theorem MAt.keepT (X : Fx w β π ω tvs sg c0) (M : MAt w β π ω tvs sg c0 n h σ G) {ms : List (Addr × Obj)} (hs : ∀ p ∈ ms, p ∈ ML w.params β π ω sg σ G) (K : Keep (ms.map (·.1)) h h') : KeepT h h' := fun b o e t => K b o e fun hb => by
  obtain ⟨p, hp, rfl⟩ := List.mem_map.mp hb
  have := M.has p (hs p hp)
  rw [e] at this
  exact M.noTup X p (hs p hp) (Option.some.inj this ▸ t)
theorem MAt.keepL (M : MAt w β π ω tvs sg c0 n h σ G) {ms : List (Addr × Obj)} (hs : ∀ p ∈ ms, p ∈ ML w.params β π ω sg σ G) (K : Keep (ms.map (·.1)) h h') : h'.IsList π.tl tvs.toArray := by
  obtain ⟨o, e, r⟩ := M.tl
  refine ⟨o, K _ _ e fun hb => M.tlo ?_, r⟩
  rw [← ML_adr w.params β π ω sg σ G]
  exact map_sub hs hb
/-- the machine, behind a step -/
theorem MAt.to (M : MAt w β π ω tvs sg c0 (n + 1) h σ G) (kT : KeepT h h') (tl : h'.IsList π.tl tvs.toArray) (has : Has h' (ML w.params β π ω sg σ' G')) (nd : (AD β π ω G'.fcs).Nodup) (tlo : π.tl ∉ AD β π ω G'.fcs) (ok : G'.c.Ok w h' β) (g : G.c.Grow G'.c 2)
    (frs : FrsAt G'.c.texts G'.c.fns h' σ'.fs G'.fcs) (tm : σ'.w = true → ∃ ta, G'.tm = .ref ta ∧ TermAt G'.c.texts G'.c.fns h' σ'.tm (.ref ta)) : MAt w β π ω tvs sg c0 n h' σ' G' :=
  ⟨has, nd, ok, M.g1.trans g.texts, M.g2.trans g.fns, by have := M.sz; have := g.size; unfold BC.size at *; omega, frs, tm, isTup_keep kT M.ct, tl, tlo, M.tk.keep kT⟩
/-- a token of the machine's -/
theorem Fx.tokq (X : Fx w β π ω tvs sg c0) {k : Nat} {d : TK × Nat} (e : (toksOf sg 0)[k]? = some d) : ∃ q, tvs[k]? = some (.ref q) ∧ ∀ {h : Heap} {σ : St} {G : Gh} {n : Nat}, MAt w β π ω tvs sg c0 n h σ G → TupTk h q d.1 d.2 ∧ q ∉ AD β π ω G.fcs := by
  obtain ⟨q, hq⟩ := X.tq k d e
  refine ⟨q, hq, fun {h σ G n} M => ?_⟩
  obtain ⟨v, hv, q', k1, k2, k3, z, rfl, rfl, ht⟩ := M.tk.get e
  have : q' = q := by rw [hv] at hq; injection hq with hq; injection hq
  subst this
  exact ⟨⟨k1, k2, k3, ht⟩, M.tup_off X ht (isTup_of _)⟩
end

/-- what a step leaves -/
def SP (w : World) (β : BA) (π : PA) (ω : OA) (tvs : List Value) (sg : List Sg) (c0 : BC) (n : Nat) (σ : St) (G : Gh) (h h' : Heap) (r : Value) : Prop :=
  ∃ σ' G', (∀ a ∈ AD β π ω G'.fcs, a ∈ AD β π ω G.fcs ∨ h.get? a = none) ∧ MAt w β π ω tvs sg c0 n h' σ' G' ∧ ((step sg σ = .next σ' ∧ ∃ k, r = .int (if σ'.w then 1 else 0) k) ∨ (step sg σ = .done ∧ σ' = σ ∧ ∃ k, r = .int 2 k))
/-- the same, where nothing new is named -/
def SPn (w : World) (β : BA) (π : PA) (ω : OA) (tvs : List Value) (sg : List Sg) (c0 : BC) (n : Nat) (σ : St) (fcs : List FC) (h' : Heap) (r : Value) : Prop :=
  ∃ σ' G', (∀ a ∈ AD β π ω G'.fcs, a ∈ AD β π ω fcs) ∧ MAt w β π ω tvs sg c0 n h' σ' G' ∧ ((step sg σ = .next σ' ∧ ∃ k, r = .int (if σ'.w then 1 else 0) k) ∨ (step sg σ = .done ∧ σ' = σ ∧ ∃ k, r = .int 2 k))
theorem SPn.sp {w : World} {β : BA} {π : PA} {ω : OA} {tvs : List Value} {sg : List Sg} {c0 : BC} {n : Nat} {σ : St} {G : Gh} {h h' : Heap} {r : Value} (x : SPn w β π ω tvs sg c0 n σ G.fcs h' r) : SP w β π ω tvs sg c0 n σ G h h' r := by
  obtain ⟨σ', G', a, b⟩ := x
  exact ⟨σ', G', fun z hz => .inl (a z hz), b⟩
abbrev SX (sg : List Sg) (σ : St) : Heap → Str → Int → Prop := fun _ k z => ∃ j : Nat, step sg σ = .flt k j ∧ z = 3 * j
theorem DoesX.withPre {w : World} {f : Addr} {cost : Nat} {vs : List Value} {ms : List (Addr × Obj)} {Pre : Heap → Prop} {P : Heap → Heap → Value → Prop} {X : Heap → Str → Int → Prop} (D : (∃ h, Has h ms ∧ Pre h) → DoesX w f cost vs ms Pre P X) : DoesX w f cost vs ms Pre P X :=
  fun p loose mean mg mb A env outer A₀ base h₀ L m s Q E B F Xi N T hA hf hk hd hu hh hpre hret hexc => D ⟨s.heap, fun p hp => (N p hp).1, hpre⟩ p loose mean mg mb A env outer A₀ base h₀ L m s Q E B F Xi N T hA hf hk hd hu hh hpre hret hexc
theorem Does.withPre {w : World} {f : Addr} {cost : Nat} {vs : List Value} {ms : List (Addr × Obj)} {Pre : Heap → Prop} {P : Heap → Heap → Value → Prop} (D : (∃ h, Has h ms ∧ Pre h) → Does w f cost vs ms Pre P) : Does w f cost vs ms Pre P :=
  fun p loose mean mg mb A env outer A₀ base h₀ L m s Q E B F Xi N T hA hf hk hd hu hh hpre hret => D ⟨s.heap, fun p hp => (N p hp).1, hpre⟩ p loose mean mg mb A env outer A₀ base h₀ L m s Q E B F Xi N T hA hf hk hd hu hh hpre hret
theorem tick67 {prog : Program} {w : World} {A : Around} {E : Value → Shared → Prop} {s : Shared} {env : Env} {Q : Flow → Shared → Prop} (h : Q .next s) : wpAny (model prog w) A (execs [] env) Q E s := by
  first | (walk1; exact h) | exact wpAny_execs_nil h
section
variable {w : World} {β : BA} {π : PA} {ω : OA} {tvs : List Value} {sg : List Sg} {c0 : BC} {n : Nat} {h h' : Heap} {σ : St} {G : Gh} {ms : List (Addr × Obj)}
theorem fr_adr {P : Params} {fcs : List FC} {p : Addr × Obj} (hp : p ∈ fcs.flatMap (FL P)) : p.1 ∈ fcs.flatMap FA := by rw [← flat_adr P]; exact List.mem_map_of_mem hp
theorem has_all {P : Params} {i : Int} {kp : Tok} {lim : Int} {kl : Tok} {tm : Value} {pr : Int} {kr : Tok} {fcs : List FC} {nf : Nat} {c : BC} (a : Has h (PL P β π i kp lim kl tm pr kr)) (b : h.get? π.fl = some (listOf (vals fcs).toArray nf)) (d : Has h (fcs.flatMap (FL P))) (e : Has h (OL P β π.o ω)) (f : Has h (c.L P β)) :
    Has h (PL P β π i kp lim kl tm pr kr ++ MY P β π ω fcs nf c) := has_app a (has_cons b (has_app d (has_app e f)))
theorem settle_SP (X : Fx w β π ω tvs sg c0) (M : MAt w β π ω tvs sg c0 (n + 1) h σ G) (hs : ∀ p ∈ ms, p ∈ ML w.params β π ω sg σ G) (K : Keep (ms.map (·.1)) h h') {c' : BC} {kp' kr' : Tok} {t : Addr} {T' : T} {j : Nat} {pl : Int} (hpl : pl = (tpos sg j : Nat))
    (hstep : step sg σ = .next ⟨true, j, σ.fs, σ.lim, 0, T'⟩) (hP : Has h' (PL w.params β π pl kp' σ.lim G.kl (.ref t) 0 kr')) (hfl : (π.fl : Addr) ∉ ms.map (·.1)) (hfr : ∀ a ∈ G.fcs.flatMap FA, a ∉ ms.map (·.1))
    (hO : Has h' (OL w.params β π.o ω)) (hB : Has h' (c'.L w.params β)) (ok : c'.Ok w h' β) (g : G.c.Grow c' 2) (hT : TermAt c'.texts c'.fns h' T' (.ref t)) (k : Tok) : SP w β π ω tvs sg c0 n σ G h h' (.int 1 k) := by
  have kT := M.keepT X hs K
  subst hpl
  refine ⟨⟨true, j, σ.fs, σ.lim, 0, T'⟩, { G with c := c', kp := kp', kr := kr', tm := .ref t }, fun a ha => .inl ha, M.to kT (M.keepL hs K) ?_ M.nd M.tlo ok g (M.frs.keep g.texts g.fns kT) (fun _ => ⟨t, rfl, hT⟩), .inl ⟨hstep, k, rfl⟩⟩
  exact has_all hP (K _ _ (M.has _ (List.mem_append_right _ (.head _))) hfl) (fun p hp => K _ _ (M.has p (List.mem_append_right _ (.tail _ (List.mem_append_left _ hp)))) (hfr _ (fr_adr hp))) hO hB
theorem new_off (M : MAt w β π ω tvs sg c0 n h σ G) {a : Addr} (e : h.get? a = none) : a ∉ AD β π ω G.fcs := fun q => by
  rw [← ML_adr w.params β π ω sg σ G] at q
  obtain ⟨p, hp, rfl⟩ := List.mem_map.mp q
  have := M.has p hp
  rw [e] at this
  cases this
theorem fa_in {fcs : List FC} {a : Addr} (h : a ∈ fcs.flatMap FA) : a ∈ AD β π ω fcs := List.mem_append_right _ (.tail _ (List.mem_append_left _ h))
theorem enter_SP (X : Fx w β π ω tvs sg c0) (M : MAt w β π ω tvs sg c0 (n + 1) h σ G) (hs : ∀ p ∈ ms, p ∈ ML w.params β π ω sg σ G) (K : Keep (ms.map (·.1)) h h') {c' : BC} {kp' kl' : Tok} {f : FC} {kind : Str} {nm : Int} {nf' : Nat} {lim' : Int} {x : Fk} {j : Nat} {pl : Int} (hpl : pl = (tpos sg j : Nat))
    (hstep : step sg σ = .next ⟨false, j, (x, σ.lim) :: σ.fs, lim', σ.pr, σ.tm⟩) (hN : NewF h f kind σ.lim nm) (hP : Has h' (PL w.params β π pl kp' lim' kl' G.tm σ.pr G.kr)) (hF : h'.get? π.fl = some (listOf (vals G.fcs ++ [Value.ref f.fa]).toArray nf')) (hFL : Has h' (FL w.params f))
    (hfr : ∀ a ∈ G.fcs.flatMap FA, a ∉ ms.map (·.1)) (hO : Has h' (OL w.params β π.o ω)) (hB : Has h' (c'.L w.params β)) (ok : c'.Ok w h' β) (g : G.c.Grow c' 2) (hx : FAt c'.texts c'.fns h' x f) (k : Tok) : SP w β π ω tvs sg c0 n σ G h h' (.int 0 k) := by
  have kT := M.keepT X hs K
  subst hpl
  have hnew : ∀ a ∈ FA f, h.get? a = none := fun a ha => by
    simp only [FA, List.mem_cons, List.mem_nil_iff, or_false] at ha
    rcases ha with rfl | rfl | rfl
    · exact hN.n1
    · exact hN.n2
    · exact hN.n3
  have hfa : (FA f).Nodup := by
    obtain ⟨a, b, c⟩ := hN.ne
    exact List.nodup_cons.mpr ⟨fun q => by simp only [List.mem_cons, List.mem_nil_iff, or_false] at q; exact q.elim (fun e => a e.symm) c, List.nodup_cons.mpr ⟨fun q => b (List.mem_singleton.mp q), List.nodup_cons.mpr ⟨List.not_mem_nil, List.nodup_nil⟩⟩⟩
  have hnd : (AD β π ω (f :: G.fcs)).Nodup := nd_of M.nd (by
    rw [List.flatMap_cons]
    exact List.nodup_append.mpr ⟨hfa, (dj_of M.nd).nf, fun a ha b hb e => new_off M (hnew a ha) (e ▸ fa_in hb)⟩) fun a ha => by
      rw [List.flatMap_cons] at ha
      exact (List.mem_append.mp ha).elim (fun q => .inr (new_off M (hnew a q))) .inl
  have hsub : ∀ a ∈ AD β π ω (f :: G.fcs), a ∈ AD β π ω G.fcs ∨ h.get? a = none := fun a ha => by
    rcases List.mem_append.mp ha with q | q
    · exact .inl (List.mem_append_left _ q)
    · rcases List.mem_cons.mp q with q | q
      · exact .inl (List.mem_append_right _ (q ▸ List.mem_cons_self))
      · rcases List.mem_append.mp q with q | q
        · rw [List.flatMap_cons] at q
          exact (List.mem_append.mp q).elim (fun z => .inr (hnew a z)) fun z => .inl (fa_in z)
        · exact .inl (List.mem_append_right _ (.tail _ (List.mem_append_right _ q)))
  refine ⟨⟨false, j, (x, σ.lim) :: σ.fs, lim', σ.pr, σ.tm⟩, { G with c := c', kp := kp', kl := kl', fcs := f :: G.fcs, nf := nf' }, hsub, M.to kT (M.keepL hs K) ?_ hnd ?_ ok g ⟨hN.lm, hx, M.frs.keep g.texts g.fns kT⟩ (fun e => by cases e), .inl ⟨hstep, k, rfl⟩⟩
  · refine has_all hP (by dsimp only; rw [vals_cons]; exact hF) (fun p hp => ?_) hO hB
    rcases List.mem_append.mp (by rw [← List.flatMap_cons]; exact hp) with q | q
    · exact hFL p q
    · exact K _ _ (M.has p (List.mem_append_right _ (.tail _ (List.mem_append_left _ q)))) (hfr _ (fr_adr q))
  · intro q
    obtain ⟨o, e, _⟩ := M.tl
    exact (hsub _ q).elim M.tlo fun z => by rw [e] at z; cases z
theorem nf_tail {f : FC} {fcs : List FC} (h : ((f :: fcs).flatMap FA).Nodup) : (fcs.flatMap FA).Nodup ∧ ∀ a ∈ fcs.flatMap FA, a ∉ FA f := by
  rw [List.flatMap_cons] at h
  obtain ⟨_, b, c⟩ := List.nodup_append.mp h
  exact ⟨b, fun a ha q => c a q a ha rfl⟩
theorem ad_cons {f : FC} {fcs : List FC} {a : Addr} (ha : a ∈ AD β π ω fcs) : a ∈ AD β π ω (f :: fcs) := by
  rcases List.mem_append.mp ha with q | q
  · exact List.mem_append_left _ q
  · rcases List.mem_cons.mp q with q | q
    · exact List.mem_append_right _ (q ▸ List.mem_cons_self)
    · rcases List.mem_append.mp q with q | q
      · exact List.mem_append_right _ (.tail _ (List.mem_append_left _ (by rw [List.flatMap_cons]; exact List.mem_append_right _ q)))
      · exact List.mem_append_right _ (.tail _ (List.mem_append_right _ q))
theorem pop_SP (X : Fx w β π ω tvs sg c0) (M : MAt w β π ω tvs sg c0 (n + 1) h σ G) (hs : ∀ p ∈ ms, p ∈ ML w.params β π ω sg σ G) (K : Keep (ms.map (·.1)) h h') {c' : BC} {kp' kl' kr' : Tok} {f : FC} {fcs : List FC} {x : Fk} {b : Int} {fs : List (Fk × Int)} {nf' : Nat} {t : Addr} {T' : T} {j : Nat} {pr' : Int} {pl : Int} (hpl : pl = (tpos sg j : Nat))
    (e1 : σ.fs = (x, b) :: fs) (e2 : G.fcs = f :: fcs) (hstep : step sg σ = .next ⟨true, j, fs, b, pr', T'⟩) (hP : Has h' (PL w.params β π pl kp' b kl' (.ref t) pr' kr')) (hF : h'.get? π.fl = some (listOf (vals fcs).toArray nf'))
    (hfr : ∀ a ∈ fcs.flatMap FA, a ∉ ms.map (·.1)) (hO : Has h' (OL w.params β π.o ω)) (hB : Has h' (c'.L w.params β)) (ok : c'.Ok w h' β) (g : G.c.Grow c' 2) (hT : TermAt c'.texts c'.fns h' T' (.ref t)) (k : Tok) : SPn w β π ω tvs sg c0 n σ G.fcs h' (.int 1 k) := by
  have kT := M.keepT X hs K
  subst hpl
  have nd := M.nd
  have hfs := M.frs
  have tlo := M.tlo
  rw [e2] at nd tlo
  rw [e1, e2] at hfs
  have hm : ∀ p ∈ fcs.flatMap (FL w.params), p ∈ ML w.params β π ω sg σ G := fun p hp => List.mem_append_right _ (.tail _ (List.mem_append_left _ (by rw [e2, List.flatMap_cons]; exact List.mem_append_right _ hp)))
  refine ⟨⟨true, j, fs, b, pr', T'⟩, { G with c := c', kp := kp', kl := kl', kr := kr', tm := .ref t, fcs := fcs, nf := nf' }, fun a ha => by rw [e2]; exact ad_cons ha, M.to kT (M.keepL hs K) ?_ (nd_of nd (nf_tail (dj_of nd).nf).1 fun a ha => .inl (by rw [List.flatMap_cons]; exact List.mem_append_right _ ha)) (fun q => tlo (ad_cons q)) ok g (hfs.2.2.keep g.texts g.fns kT) (fun _ => ⟨t, rfl, hT⟩), .inl ⟨hstep, k, rfl⟩⟩
  exact has_all hP hF (fun p hp => K _ _ (M.has p (hm p hp)) (hfr _ (fr_adr hp))) hO hB
theorem turn_SP (X : Fx w β π ω tvs sg c0) (M : MAt w β π ω tvs sg c0 (n + 1) h σ G) (hs : ∀ p ∈ ms, p ∈ ML w.params β π ω sg σ G) (K : Keep (ms.map (·.1)) h h') {kp' kl' : Tok} {f f' : FC} {fcs : List FC} {x x' : Fk} {b : Int} {fs : List (Fk × Int)} {j : Nat} {pl : Int} (hpl : pl = (tpos sg j : Nat))
    (e1 : σ.fs = (x, b) :: fs) (e2 : G.fcs = f :: fcs) (ef : f'.fa = f.fa ∧ f'.fd = f.fd ∧ f'.fi = f.fi ∧ f'.lim = f.lim) (hstep : step sg σ = .next ⟨false, j, (x', b) :: fs, 999, σ.pr, σ.tm⟩) (hP : Has h' (PL w.params β π pl kp' 999 kl' G.tm σ.pr G.kr)) (hF : h'.get? π.fl = some (listOf (vals (f :: fcs)).toArray G.nf)) (hFL : Has h' (FL w.params f'))
    (hfr : ∀ a ∈ fcs.flatMap FA, a ∉ ms.map (·.1)) (hO : Has h' (OL w.params β π.o ω)) (hB : Has h' (G.c.L w.params β)) (hx : FAt G.c.texts G.c.fns h' x' f') (k : Tok) : SPn w β π ω tvs sg c0 n σ G.fcs h' (.int 0 k) := by
  have kT := M.keepT X hs K
  subst hpl
  obtain ⟨a1, a2, a3, a4⟩ := ef
  have nd := M.nd
  have hfs := M.frs
  have tlo := M.tlo
  have ead : AD β π ω (f' :: fcs) = AD β π ω (f :: fcs) := by simp only [AD, List.flatMap_cons, FA, a1, a2, a3]
  rw [e2] at nd tlo
  rw [e1, e2] at hfs
  have hm : ∀ p ∈ fcs.flatMap (FL w.params), p ∈ ML w.params β π ω sg σ G := fun p hp => List.mem_append_right _ (.tail _ (List.mem_append_left _ (by rw [e2, List.flatMap_cons]; exact List.mem_append_right _ hp)))
  refine ⟨⟨false, j, (x', b) :: fs, 999, σ.pr, σ.tm⟩, { G with kp := kp', kl := kl', fcs := f' :: fcs }, fun a ha => by rw [e2, ← ead]; exact ha, M.to kT (M.keepL hs K) ?_ (by dsimp only; rw [ead]; exact nd) (by dsimp only; rw [ead]; exact tlo) (M.ok.keepT kT) ((BC.Grow.refl _).le (by omega)) ⟨a4.trans hfs.1, hx, hfs.2.2.keep (List.prefix_refl _) (List.prefix_refl _) kT⟩ (fun e => by cases e), .inl ⟨hstep, k, rfl⟩⟩
  refine has_all hP (by dsimp only; rw [vals_cons, a1, ← vals_cons]; exact hF) (fun p hp => ?_) hO hB
  rcases List.mem_append.mp (by rw [← List.flatMap_cons]; exact hp) with q | q
  · exact hFL p q
  · exact K _ _ (M.has p (hm p q)) (hfr _ (fr_adr q))
end

theorem tick68 {prog : Program} {w : World} {A : Around} {E : Value → Shared → Prop} {s : Shared} {env : Env} {Q : Flow → Shared → Prop} (h : Q .next s) : wpAny (model prog w) A (execs [] env) Q E s := by
  first | (walk1; exact h) | exact wpAny_execs_nil h
section
variable {w : World} {β : BA} {π : PA} {ω : OA} {tvs : List Value} {sg : List Sg} {c0 : BC} {n : Nat} {h h' : Heap} {σ : St} {G : Gh} {ms : List (Addr × Obj)}
theorem off_ms (hs : ∀ p ∈ ms, p ∈ ML w.params β π ω sg σ G) {a : Addr} (ha : a ∉ AD β π ω G.fcs) : a ∉ ms.map (·.1) := fun q => ha (by rw [← ML_adr w.params β π ω sg σ G]; exact map_sub hs q)
theorem pun1 (x : Sg) (h : x ≠ .lb ∧ x ≠ .lc) : isP (.pun x) (Str.ofString "[") = false ∧ isP (.pun x) (Str.ofString "{") = false := by
  obtain ⟨a, b⟩ := h
  cases x <;> first | exact absurd rfl a | exact absurd rfl b | exact ⟨by decide +kernel, by decide +kernel⟩
theorem pun_rb {y : Sg} (h : y ≠ .rb) : isP (tk1 y) (Str.ofString "]") = false := by cases y <;> first | exact absurd rfl h | rfl | decide +kernel
theorem pun_rc {y : Sg} (h : y ≠ .rc) : isP (tk1 y) (Str.ofString "}") = false := by cases y <;> first | exact absurd rfl h | rfl | decide +kernel
theorem tk1_ct (y : Sg) : ((tk1 y).kind == Str.ofString "open_ct") = false := by cases y <;> decide +kernel
theorem BA_L (P : Params) (c : BC) : (c.L P β).map (·.1) = BAd β := rfl
theorem OL_L (P : Params) : (OL P β π.o ω).map (·.1) = OAd π ω := rfl
theorem eq1 {a b : Addr} {o : Obj} {S : List Addr} (e : a ∈ [((b, o) : Addr × Obj)].map (·.1)) (h : b ∉ S) (ha : a ∈ S) : False := h (by rw [List.map_singleton, List.mem_singleton] at e; have e' : a = b := e; rw [← e']; exact ha)
/-- a step of operand -/
theorem step_operand (X : Fx w β π ω tvs sg c0) (ok : StOk sg σ) (hw : σ.w = false) : DoesX w 418 9 [.ref π.p] (ML w.params β π ω sg σ G) (fun h => MAt w β π ω tvs sg c0 (n + 1) h σ G) (SP w β π ω tvs sg c0 n σ G) (SX sg σ) := by
  refine DoesX.withPre fun ⟨h0, _, M0⟩ => ?_
  have lim9 : tpos sg σ.i < 1000 := by have := tpos_lt X.wf ok.lt; omega
  have hfr9 : (vals G.fcs).length < 1000 := by rw [vals_len, M0.frs.len]; have := ok.fl; have := ok.lt; have := X.wf.small; omega
  obtain ⟨x, hx⟩ : ∃ x, sg[σ.i]? = some x := ⟨_, List.getElem?_eq_getElem ok.lt⟩
  have stp : ∀ {r : Res}, stepO sg σ = r → step sg σ = r := fun e => by unfold step; rw [hw, if_neg (by decide)]; exact e
  obtain ⟨q, hq, tq⟩ := X.tokq (tok_at hx)
  have nx : x ≠ .dot → ∃ y, sg[σ.i + 1]? = some y := fun e => ⟨_, List.getElem?_eq_getElem (X.wf.lt hx e)⟩
  have dj := dj_of M0.nd
  have sPL : ∀ p ∈ PL w.params β π ((tpos sg σ.i : Nat) : Int) G.kp σ.lim G.kl G.tm σ.pr G.kr, p ∈ ML w.params β π ω sg σ G := fun p hp => List.mem_append_left _ hp
  have sF : ∀ p ∈ [((π.fl : Addr), listOf (vals G.fcs).toArray G.nf)], p ∈ ML w.params β π ω sg σ G := fun p hp => List.mem_append_right _ (by rw [List.mem_singleton.mp hp]; exact .head _)
  have sO : ∀ p ∈ OL w.params β π.o ω, p ∈ ML w.params β π ω sg σ G := fun p hp => List.mem_append_right _ (.tail _ (List.mem_append_right _ (List.mem_append_left _ hp)))
  have sB : ∀ p ∈ G.c.L w.params β, p ∈ ML w.params β π ω sg σ G := fun p hp => List.mem_append_right _ (.tail _ (List.mem_append_right _ (List.mem_append_right _ hp)))
  have app : ∀ {a b : List (Addr × Obj)}, (∀ p ∈ a, p ∈ ML w.params β π ω sg σ G) → (∀ p ∈ b, p ∈ ML w.params β π ω sg σ G) → ∀ p ∈ a ++ b, p ∈ ML w.params β π ω sg σ G := fun u v p hp => (List.mem_append.mp hp).elim (u p) (v p)
  have kB : ∀ {h h' : Heap} {ms B : List (Addr × Obj)}, MAt w β π ω tvs sg c0 (n + 1) h σ G → Keep (ms.map (·.1)) h h' → (∀ p ∈ B, p ∈ ML w.params β π ω sg σ G) → (∀ p ∈ B, p.1 ∉ ms.map (·.1)) → Has h' B := fun M K hB hd p hp => K _ _ (M.has p (hB p hp)) (hd p hp)
  have off1 : ∀ {ms : List (Addr × Obj)} {h : Heap}, (∀ p ∈ ms, p ∈ ML w.params β π ω sg σ G) → MAt w β π ω tvs sg c0 (n + 1) h σ G → ∀ a ∈ [π.tl, q], a ∉ ms.map (·.1) := fun hs M => List.forall_mem_cons.mpr ⟨off_ms hs M.tlo, List.forall_mem_cons.mpr ⟨off_ms hs (tq M).2, List.forall_mem_nil _⟩⟩
  have nPL : ∀ {P : Params} {i : Int} {kp : Tok} {lim : Int} {kl : Tok} {tm : Value} {pr : Int} {kr : Tok}, (PL P β π i kp lim kl tm pr kr).map (·.1) = [π.p, π.pd] := rfl
  have hsz : G.c.size < 100000 := by have := M0.sz; omega
  have h7 : G.c.texts[7]? = some (Str.ofString ",") := prefix_get M0.g1 X.t7
  have badc : ∀ x', tk1 x = .pun x' → (x' ≠ .lb ∧ x' ≠ .lc) → stepO sg σ = .flt (Str.ofString "unexpected_token") σ.i → DoesX w 418 9 [.ref π.p] (ML w.params β π ω sg σ G) (fun h => MAt w β π ω tvs sg c0 (n + 1) h σ G) (SP w β π ω tvs sg c0 n σ G) (SX sg σ) := fun x' ht hne hs => by
    refine (op_bad w β π G.kp σ.lim G.kl G.tm σ.pr G.kr tvs (tpos sg σ.i) q (3 * σ.i : Nat) x' lim9 hq X.o1.1 (pun1 x' hne).1 (pun1 x' hne).2).lift (by omega) sPL (fun h _ M => ⟨M.tl, ht ▸ (tq M).1, off1 sPL M⟩) (fun _ _ _ _ _ _ e => e.elim) fun h k z M e => ?_
    obtain ⟨rfl, rfl⟩ := e
    exact ⟨σ.i, stp hs, by omega⟩
  cases x with
  | rp => exact badc _ rfl ⟨by decide, by decide⟩ (by unfold stepO; rw [hx])
  | rb => exact badc _ rfl ⟨by decide, by decide⟩ (by unfold stepO; rw [hx])
  | rc => exact badc _ rfl ⟨by decide, by decide⟩ (by unfold stepO; rw [hx])
  | cma => exact badc _ rfl ⟨by decide, by decide⟩ (by unfold stepO; rw [hx])
  | bar => exact badc _ rfl ⟨by decide, by decide⟩ (by unfold stepO; rw [hx])
  | dot =>
    refine (op_fin w β π G.kp σ.lim G.kl G.tm σ.pr G.kr tvs (tpos sg σ.i) q (3 * σ.i : Nat) lim9 hq X.o1.1).lift (by omega) sPL (fun h _ M => ⟨M.tl, (tq M).1, off1 sPL M⟩) (fun _ _ _ _ _ _ e => e.elim) fun h k z M e => ?_
    obtain ⟨rfl, rfl⟩ := e
    exact ⟨σ.i, stp (by unfold stepO; rw [hx]), by omega⟩
  | num =>
    refine ((op_int w β π G.kp σ.lim G.kl G.tm σ.pr G.kr tvs (tpos sg σ.i) q (3 * σ.i : Nat) lim9 hq X.o1.1).x (SX sg σ)).lift (by omega) sPL (fun h _ M => ⟨M.tl, (tq M).1, off1 sPL M⟩) (fun h h' r _ M K P => ?_) fun h k z M e => e
    obtain ⟨kp', kr', k, t1, t2, t, rfl, hH, ht⟩ := P
    refine settle_SP (j := σ.i + 1) (T' := .seven) (c' := G.c) X M sPL K (by rw [tpos_succ hx]; rfl) (stp (by unfold stepO; rw [hx])) hH ?_ ?_ (kB M K sO ?_) (kB M K sB ?_) (M.ok.keepT (M.keepT X sPL K)) ((BC.Grow.refl _).le (by omega)) ?_ k
    · exact fun e => (dj.p _ e).1 rfl
    · exact fun a ha e => (dj.p _ e).2.1 ha
    · exact fun p hp e => (dj.p _ e).2.2.1 (List.mem_map_of_mem (f := (·.1)) hp)
    · exact fun p hp e => (dj.p _ e).2.2.2 (List.mem_map_of_mem (f := (·.1)) hp)
    · rw [TermAt]; exact ⟨t, _, _, rfl, _, ht, rfl, _, rfl⟩
  | atm =>
    obtain ⟨y, hy⟩ := nx (by decide)
    obtain ⟨q2, hq2, tq2⟩ := X.tokq (tok_at hy)
    rw [tpos_succ hx] at hq2
    have s9 := app (app sPL sO) sB
    refine ((op_na w β π G.kp σ.lim G.kl G.tm σ.pr G.kr tvs (tpos sg σ.i) q (3 * σ.i : Nat) q2 (3 * (σ.i + 1) : Nat) (tk1 y) ω G.c lim9 hq hq2 X.o1.1 X.oO X.o2 (tk1_ct y) hsz h7 ?_).x (SX sg σ)).lift (by omega) s9 (fun h _ M => ⟨M.ok, M.tl, (tq M).1, (tq2 M).1, ?_⟩) (fun h h' r _ M K P => ?_) fun h k z M e => e
    · intro a ha
      simp only [List.mem_cons, List.mem_nil_iff, or_false] at ha
      rcases ha with e | e | e | e | e | e | e
      · exact e ▸ (dj.p _ (.head _)).2.2.2
      · exact e ▸ (dj.p _ (.tail _ (.head _))).2.2.2
      all_goals exact e ▸ dj.o _ (by simp [OAd])
    · exact List.forall_mem_cons.mpr ⟨off_ms s9 M.tlo, List.forall_mem_cons.mpr ⟨off_ms s9 (tq M).2, List.forall_mem_cons.mpr ⟨off_ms s9 (tq2 M).2, List.forall_mem_nil _⟩⟩⟩
    · obtain ⟨c', kp', kr', k, t1, t2, t, m, rfl, g, ok', hH, ht, hx'⟩ := P
      have hH1 : Has h' (PL w.params β π ((tpos sg σ.i : Nat) + 1) kp' σ.lim G.kl (.ref t) 0 kr') := fun p hp => hH p (List.mem_append_left _ (List.mem_append_left _ hp))
      refine settle_SP (j := σ.i + 1) (T' := .a) (c' := c') X M s9 K (by rw [tpos_succ hx]; rfl) (stp (by unfold stepO; rw [hx])) hH1 ?_ ?_ (fun p hp => hH p (List.mem_append_left _ (List.mem_append_right _ hp))) (fun p hp => hH p (List.mem_append_right _ hp)) ok' (g.le (by omega)) ?_ k
      · rw [List.map_append, List.map_append]
        exact fun e => (List.mem_append.mp e).elim (fun e => (List.mem_append.mp e).elim (fun e => (dj.p _ e).1 rfl) dj.fl.2.1) dj.fl.2.2
      · rw [List.map_append, List.map_append]
        exact fun a ha e => (List.mem_append.mp e).elim (fun e => (List.mem_append.mp e).elim (fun e => (dj.p _ e).2.1 ha) (dj.f a ha).1) (dj.f a ha).2
      · rw [TermAt]; exact ⟨m, t, _, _, rfl, ⟨_, ht, rfl, _, rfl⟩, hx'⟩
  | lp =>
    have s9 := app sPL sF
    refine ((op_round w β π G.kp σ.lim G.kl G.tm σ.pr G.kr tvs (tpos sg σ.i) q (3 * σ.i : Nat) (vals G.fcs) G.nf lim9 hq X.o1 hfr9).x (SX sg σ)).lift (by omega) s9 (fun h _ M => ⟨M.tl, (tq M).1, off1 s9 M⟩) (fun h h' r _ M K P => ?_) fun h k z M e => e
    obtain ⟨kp', kl', k, f, nf', rfl, hN, hH⟩ := P
    refine enter_SP (j := σ.i + 1) (x := .round) (c' := G.c) X M s9 K (by rw [tpos_succ hx]; rfl) (stp (by unfold stepO; rw [hx, hw])) hN (fun p hp => hH p (List.mem_append_left _ (List.mem_append_left _ hp))) (hH _ (List.mem_append_left _ (List.mem_append_right _ (.head _)))) (fun p hp => hH p (List.mem_append_right _ hp)) ?_ (kB M K sO ?_) (kB M K sB ?_) (M.ok.keepT (M.keepT X s9 K)) ((BC.Grow.refl _).le (by omega)) hN.kd k
    all_goals rw [List.map_append]
    · exact fun a ha e => (List.mem_append.mp e).elim (fun e => (dj.p _ e).2.1 ha) fun e => eq1 e dj.fl.1 ha
    · exact fun p hp e => (List.mem_append.mp e).elim (fun e => (dj.p _ e).2.2.1 (List.mem_map_of_mem (f := (·.1)) hp)) fun e => eq1 e dj.fl.2.1 (List.mem_map_of_mem (f := (·.1)) hp)
    · exact fun p hp e => (List.mem_append.mp e).elim (fun e => (dj.p _ e).2.2.2 (List.mem_map_of_mem (f := (·.1)) hp)) fun e => eq1 e dj.fl.2.2 (List.mem_map_of_mem (f := (·.1)) hp)
  | fp =>
    obtain ⟨q2, hq2, tq2⟩ := X.tokq (d := (TK.opc, 3 * σ.i + 1)) (toks_at hx 1 (by rw [tkOf_len]; decide))
    have s9 := app (app sPL sF) sB
    refine ((op_args w β π G.kp σ.lim G.kl G.tm σ.pr G.kr tvs (tpos sg σ.i) q (3 * σ.i : Nat) q2 (3 * σ.i + 1 : Nat) (vals G.fcs) G.nf G.c lim9 hq hq2 X.o1 hfr9 hsz ?_ X.o3).x (SX sg σ)).lift (by omega) s9 (fun h _ M => ⟨M.ok, M.tl, (tq M).1, (tq2 M).1, ?_⟩) (fun h h' r _ M K P => ?_) fun h k z M e => e
    · intro a ha
      simp only [List.mem_cons, List.mem_nil_iff, or_false] at ha
      rcases ha with e | e | e
      · exact e ▸ (dj.p _ (.head _)).2.2.2
      · exact e ▸ (dj.p _ (.tail _ (.head _))).2.2.2
      · exact e ▸ dj.fl.2.2
    · exact List.forall_mem_cons.mpr ⟨off_ms s9 M.tlo, List.forall_mem_cons.mpr ⟨off_ms s9 (tq M).2, List.forall_mem_cons.mpr ⟨off_ms s9 (tq2 M).2, List.forall_mem_nil _⟩⟩⟩
    · obtain ⟨c', kp', kl', k, f, nf', m, rfl, g, ok', hx', hN, hH⟩ := P
      refine enter_SP (j := σ.i + 1) (x := .args []) (c' := c') X M s9 K (by rw [tpos_succ hx]; rfl) (stp (by unfold stepO; rw [hx, hw])) hN (fun p hp => hH p (List.mem_append_left _ (List.mem_append_left _ (List.mem_append_left _ hp)))) (hH _ (List.mem_append_left _ (List.mem_append_left _ (List.mem_append_right _ (.head _))))) (fun p hp => hH p (List.mem_append_left _ (List.mem_append_right _ hp))) ?_ (kB M K sO ?_) (fun p hp => hH p (List.mem_append_right _ hp)) ok' (g.le (by omega)) ⟨hN.kd, ⟨m, hN.nm_, hx'⟩, by rw [TermsAt]; exact hN.its⟩ k
      all_goals rw [List.map_append, List.map_append]
      · exact fun a ha e => (List.mem_append.mp e).elim (fun e => (List.mem_append.mp e).elim (fun e => (dj.p _ e).2.1 ha) fun e => eq1 e dj.fl.1 ha) (dj.f a ha).2
      · exact fun p hp e => (List.mem_append.mp e).elim (fun e => (List.mem_append.mp e).elim (fun e => (dj.p _ e).2.2.1 (List.mem_map_of_mem (f := (·.1)) hp)) fun e => eq1 e dj.fl.2.1 (List.mem_map_of_mem (f := (·.1)) hp)) (dj.o _ (List.mem_map_of_mem (f := (·.1)) hp))
  | lb =>
    obtain ⟨y, hy⟩ := nx (by decide)
    obtain ⟨q2, hq2, tq2⟩ := X.tokq (tok_at hy)
    have hq2' := hq2
    rw [tpos_succ hx] at hq2
    by_cases e2 : y = .rb
    · subst e2
      obtain ⟨u, hu⟩ : ∃ u, sg[σ.i + 1 + 1]? = some u := ⟨_, List.getElem?_eq_getElem (X.wf.lt hy (by decide))⟩
      obtain ⟨q3, hq3, tq3⟩ := X.tokq (tok_at hu)
      rw [tpos_succ hy, tpos_succ hx] at hq3
      have s9 := app sPL sO
      refine ((op_nil w β π G.kp σ.lim G.kl G.tm σ.pr G.kr tvs (tpos sg σ.i) q (3 * σ.i : Nat) q2 (3 * (σ.i + 1) : Nat) q3 (3 * (σ.i + 1 + 1) : Nat) (tk1 u) ω lim9 hq hq2 hq3 X.o1.1 X.oO X.o2 (tk1_ct u)).x (SX sg σ)).lift (by omega) s9 (fun h _ M => ⟨M.tl, (tq M).1, (tq2 M).1, (tq3 M).1, ?_⟩) (fun h h' r _ M K P => ?_) fun h k z M e => e
      · exact List.forall_mem_cons.mpr ⟨off_ms s9 M.tlo, List.forall_mem_cons.mpr ⟨off_ms s9 (tq M).2, List.forall_mem_cons.mpr ⟨off_ms s9 (tq2 M).2, List.forall_mem_cons.mpr ⟨off_ms s9 (tq3 M).2, List.forall_mem_nil _⟩⟩⟩⟩
      · obtain ⟨kp', kr', k, t1, t2, t, rfl, hH, ht⟩ := P
        refine settle_SP (j := σ.i + 2) (T' := .nil) (c' := G.c) X M s9 K (by rw [tpos_succ hy, tpos_succ hx]; rfl) (stp (by unfold stepO; rw [hx]; dsimp only; rw [if_pos hy])) (fun p hp => hH p (List.mem_append_left _ hp)) ?_ ?_ (fun p hp => hH p (List.mem_append_right _ hp)) (kB M K sB ?_) (M.ok.keepT (M.keepT X s9 K)) ((BC.Grow.refl _).le (by omega)) ?_ k
        · rw [List.map_append]; exact fun e => (List.mem_append.mp e).elim (fun e => (dj.p _ e).1 rfl) dj.fl.2.1
        · rw [List.map_append]; exact fun a ha e => (List.mem_append.mp e).elim (fun e => (dj.p _ e).2.1 ha) (dj.f a ha).1
        · rw [List.map_append]; exact fun p hp e => (List.mem_append.mp e).elim (fun e => (dj.p _ e).2.2.2 (List.mem_map_of_mem (f := (·.1)) hp)) fun e => dj.o _ e (List.mem_map_of_mem (f := (·.1)) hp)
        · rw [TermAt]; exact ⟨t, _, _, rfl, _, ht, rfl, _, rfl⟩
    · have ne : ¬ sg[σ.i + 1]? = some .rb := fun q => e2 (Option.some.inj (hy.symm.trans q))
      have s9 := app sPL sF
      refine ((op_list w β π G.kp σ.lim G.kl G.tm σ.pr G.kr tvs (tpos sg σ.i) q (3 * σ.i : Nat) q2 (3 * (σ.i + 1) : Nat) (tk1 y) (vals G.fcs) G.nf lim9 hq hq2 X.o1 hfr9 (pun_rb e2)).x (SX sg σ)).lift (by omega) s9 (fun h _ M => ⟨M.tl, (tq M).1, (tq2 M).1, ?_⟩) (fun h h' r _ M K P => ?_) fun h k z M e => e
      · exact List.forall_mem_cons.mpr ⟨off_ms s9 M.tlo, List.forall_mem_cons.mpr ⟨off_ms s9 (tq M).2, List.forall_mem_cons.mpr ⟨off_ms s9 (tq2 M).2, List.forall_mem_nil _⟩⟩⟩
      · obtain ⟨kp', kl', k, f, nf', rfl, hN, hH⟩ := P
        refine enter_SP (j := σ.i + 1) (x := .list []) (c' := G.c) X M s9 K (by rw [tpos_succ hx]; rfl) (stp (by unfold stepO; rw [hx]; dsimp only; rw [if_neg ne, hw])) hN (fun p hp => hH p (List.mem_append_left _ (List.mem_append_left _ hp))) (hH _ (List.mem_append_left _ (List.mem_append_right _ (.head _)))) (fun p hp => hH p (List.mem_append_right _ hp)) ?_ (kB M K sO ?_) (kB M K sB ?_) (M.ok.keepT (M.keepT X s9 K)) ((BC.Grow.refl _).le (by omega)) ⟨hN.kd, by rw [TermsAt]; exact hN.its⟩ k
        all_goals rw [List.map_append]
        · exact fun a ha e => (List.mem_append.mp e).elim (fun e => (dj.p _ e).2.1 ha) fun e => eq1 e dj.fl.1 ha
        · exact fun p hp e => (List.mem_append.mp e).elim (fun e => (dj.p _ e).2.2.1 (List.mem_map_of_mem (f := (·.1)) hp)) fun e => eq1 e dj.fl.2.1 (List.mem_map_of_mem (f := (·.1)) hp)
        · exact fun p hp e => (List.mem_append.mp e).elim (fun e => (dj.p _ e).2.2.2 (List.mem_map_of_mem (f := (·.1)) hp)) fun e => eq1 e dj.fl.2.2 (List.mem_map_of_mem (f := (·.1)) hp)
  | lc =>
    obtain ⟨y, hy⟩ := nx (by decide)
    obtain ⟨q2, hq2, tq2⟩ := X.tokq (tok_at hy)
    have hq2' := hq2
    rw [tpos_succ hx] at hq2
    by_cases e2 : y = .rc
    · subst e2
      obtain ⟨u, hu⟩ : ∃ u, sg[σ.i + 1 + 1]? = some u := ⟨_, List.getElem?_eq_getElem (X.wf.lt hy (by decide))⟩
      obtain ⟨q3, hq3, tq3⟩ := X.tokq (tok_at hu)
      rw [tpos_succ hy, tpos_succ hx] at hq3
      have s9 := app sPL sO
      refine ((op_curl w β π G.kp σ.lim G.kl G.tm σ.pr G.kr tvs (tpos sg σ.i) q (3 * σ.i : Nat) q2 (3 * (σ.i + 1) : Nat) q3 (3 * (σ.i + 1 + 1) : Nat) (tk1 u) ω lim9 hq hq2 hq3 X.o1.1 X.oO X.o2 (tk1_ct u)).x (SX sg σ)).lift (by omega) s9 (fun h _ M => ⟨M.tl, (tq M).1, (tq2 M).1, (tq3 M).1, ?_⟩) (fun h h' r _ M K P => ?_) fun h k z M e => e
      · exact List.forall_mem_cons.mpr ⟨off_ms s9 M.tlo, List.forall_mem_cons.mpr ⟨off_ms s9 (tq M).2, List.forall_mem_cons.mpr ⟨off_ms s9 (tq2 M).2, List.forall_mem_cons.mpr ⟨off_ms s9 (tq3 M).2, List.forall_mem_nil _⟩⟩⟩⟩
      · obtain ⟨kp', kr', k, t1, t2, t, rfl, hH, ht⟩ := P
        refine settle_SP (j := σ.i + 2) (T' := .curl) (c' := G.c) X M s9 K (by rw [tpos_succ hy, tpos_succ hx]; rfl) (stp (by unfold stepO; rw [hx]; dsimp only; rw [if_pos hy])) (fun p hp => hH p (List.mem_append_left _ hp)) ?_ ?_ (fun p hp => hH p (List.mem_append_right _ hp)) (kB M K sB ?_) (M.ok.keepT (M.keepT X s9 K)) ((BC.Grow.refl _).le (by omega)) ?_ k
        · rw [List.map_append]; exact fun e => (List.mem_append.mp e).elim (fun e => (dj.p _ e).1 rfl) dj.fl.2.1
        · rw [List.map_append]; exact fun a ha e => (List.mem_append.mp e).elim (fun e => (dj.p _ e).2.1 ha) (dj.f a ha).1
        · rw [List.map_append]; exact fun p hp e => (List.mem_append.mp e).elim (fun e => (dj.p _ e).2.2.2 (List.mem_map_of_mem (f := (·.1)) hp)) fun e => dj.o _ e (List.mem_map_of_mem (f := (·.1)) hp)
        · rw [TermAt]; exact ⟨t, _, _, rfl, _, ht, rfl, _, rfl⟩
    · have ne : ¬ sg[σ.i + 1]? = some .rc := fun q => e2 (Option.some.inj (hy.symm.trans q))
      have s9 := app sPL sF
      refine ((op_curly w β π G.kp σ.lim G.kl G.tm σ.pr G.kr tvs (tpos sg σ.i) q (3 * σ.i : Nat) q2 (3 * (σ.i + 1) : Nat) (tk1 y) (vals G.fcs) G.nf lim9 hq hq2 X.o1 hfr9 (pun_rc e2)).x (SX sg σ)).lift (by omega) s9 (fun h _ M => ⟨M.tl, (tq M).1, (tq2 M).1, ?_⟩) (fun h h' r _ M K P => ?_) fun h k z M e => e
      · exact List.forall_mem_cons.mpr ⟨off_ms s9 M.tlo, List.forall_mem_cons.mpr ⟨off_ms s9 (tq M).2, List.forall_mem_cons.mpr ⟨off_ms s9 (tq2 M).2, List.forall_mem_nil _⟩⟩⟩
      · obtain ⟨kp', kl', k, f, nf', rfl, hN, hH⟩ := P
        refine enter_SP (j := σ.i + 1) (x := .curly) (c' := G.c) X M s9 K (by rw [tpos_succ hx]; rfl) (stp (by unfold stepO; rw [hx]; dsimp only; rw [if_neg ne, hw])) hN (fun p hp => hH p (List.mem_append_left _ (List.mem_append_left _ hp))) (hH _ (List.mem_append_left _ (List.mem_append_right _ (.head _)))) (fun p hp => hH p (List.mem_append_right _ hp)) ?_ (kB M K sO ?_) (kB M K sB ?_) (M.ok.keepT (M.keepT X s9 K)) ((BC.Grow.refl _).le (by omega)) hN.kd k
        all_goals rw [List.map_append]
        · exact fun a ha e => (List.mem_append.mp e).elim (fun e => (dj.p _ e).2.1 ha) fun e => eq1 e dj.fl.1 ha
        · exact fun p hp e => (List.mem_append.mp e).elim (fun e => (dj.p _ e).2.2.1 (List.mem_map_of_mem (f := (·.1)) hp)) fun e => eq1 e dj.fl.2.1 (List.mem_map_of_mem (f := (·.1)) hp)
        · exact fun p hp e => (List.mem_append.mp e).elim (fun e => (dj.p _ e).2.2.2 (List.mem_map_of_mem (f := (·.1)) hp)) fun e => eq1 e dj.fl.2.2 (List.mem_map_of_mem (f := (·.1)) hp)
end

theorem tick69 {prog : Program} {w : World} {A : Around} {E : Value → Shared → Prop} {s : Shared} {env : Env} {Q : Flow → Shared → Prop} (h : Q .next s) : wpAny (model prog w) A (execs [] env) Q E s := by
  first | (walk1; exact h) | exact wpAny_execs_nil h
section
variable {w : World} {β : BA} {π : PA} {ω : OA} {tvs : List Value} {sg : List Sg} {c0 : BC} {n : Nat} {h h' : Heap} {σ : St} {G : Gh} {ms : List (Addr × Obj)}
theorem ne12 {f : FC} {fcs : List FC} (nd : (AD β π ω (f :: fcs)).Nodup) : π.pd ≠ f.fa ∧ π.pd ≠ f.fd ∧ π.pd ≠ f.fi ∧ π.p ≠ f.fa ∧ π.p ≠ f.fd ∧ π.p ≠ f.fi ∧ π.fl ≠ f.fa ∧ π.fl ≠ f.fd ∧ π.fl ≠ f.fi ∧ f.fa ≠ f.fd ∧ f.fa ≠ f.fi ∧ f.fd ≠ f.fi := by
  have d := dj_of nd
  have m1 : f.fa ∈ (f :: fcs).flatMap FA := by rw [List.flatMap_cons]; exact List.mem_append_left _ (.head _)
  have m2 : f.fd ∈ (f :: fcs).flatMap FA := by rw [List.flatMap_cons]; exact List.mem_append_left _ (.tail _ (.head _))
  have m3 : f.fi ∈ (f :: fcs).flatMap FA := by rw [List.flatMap_cons]; exact List.mem_append_left _ (.tail _ (.tail _ (.head _)))
  have p1 := (d.p π.p (.head _)).2.1
  have p2 := (d.p π.pd (.tail _ (.head _))).2.1
  have p3 := d.fl.1
  have nf := d.nf
  rw [List.flatMap_cons] at nf
  obtain ⟨n1, n2⟩ := List.nodup_cons.mp (List.nodup_append.mp nf).1
  obtain ⟨n3, _⟩ := List.nodup_cons.mp n2
  exact ⟨fun e => p2 (e ▸ m1), fun e => p2 (e ▸ m2), fun e => p2 (e ▸ m3), fun e => p1 (e ▸ m1), fun e => p1 (e ▸ m2), fun e => p1 (e ▸ m3), fun e => p3 (e ▸ m1), fun e => p3 (e ▸ m2), fun e => p3 (e ▸ m3), fun e => n1 (e ▸ .head _), fun e => n1 (e ▸ .tail _ (.head _)), fun e => n3 (e ▸ .head _)⟩
theorem mis_eq (x : Sg) (o : Str) : misKind (tk1 x) o = stopKind x o := by cases x <;> rfl
theorem tk1_is {x y : Sg} (hy : tk1 y = .pun y) (h : x ≠ y) : isP (tk1 x) y.str = false := by
  cases x <;> cases y <;> first | exact absurd rfl h | exact absurd hy (by decide) | rfl | decide +kernel
/-- a step of close -/
theorem step_close (X : Fx w β π ω tvs sg c0) (ok : StOk sg σ) (hw : σ.w = true) {x : Sg} (hx : sg[σ.i]? = some x) (hns : ¬ (x = .cma ∧ 1000 ≤ σ.lim)) {k : Fk} {b : Int} {fs : List (Fk × Int)} (efs : σ.fs = (k, b) :: fs) (hk : ∀ l, k ≠ .op l) {q : Addr} (hq : tvs[tpos sg σ.i]? = some (.ref q)) :
    DoesX w 500 14 [.ref π.p, .ref q] (ML w.params β π ω sg σ G) (fun h => MAt w β π ω tvs sg c0 (n + 1) h σ G) (fun _ h' r => SPn w β π ω tvs sg c0 n σ G.fcs h' r) (SX sg σ) := by
  refine DoesX.withPre fun ⟨h0, _, M0⟩ => ?_
  have lim9 : tpos sg σ.i < 1000 := by have := tpos_lt X.wf ok.lt; omega
  obtain ⟨q', hq', tq⟩ := X.tokq (tok_at hx)
  obtain rfl : q' = q := by rw [hq] at hq'; injection hq' with e; injection e with e; exact e.symm
  obtain ⟨c, kp, kl, kr, tm, nf, fcs0⟩ := G
  obtain ⟨f, fcs, rfl⟩ : ∃ f fcs, fcs0 = f :: fcs := by
    have := M0.frs
    rw [efs] at this
    cases fcs0 with
    | nil => exact this.elim
    | cons f fcs => exact ⟨f, fcs, rfl⟩
  obtain ⟨ta, rfl, _⟩ := M0.tm hw
  have hfr9 : (vals fcs).length < 1000 := by have := M0.frs.len; simp only [List.length_cons] at this; rw [vals_len]; have := ok.fl; have := ok.lt; have := X.wf.small; omega
  have hlm : f.lim = b := by have := M0.frs; rw [efs] at this; exact this.1
  have hit : itemsF k ≤ σ.i := by have := ok.it; rw [efs] at this; exact this _ (.head _)
  have hi9 : σ.i < 100 := by have := ok.lt; have := X.wf.small; omega
  have dj := dj_of M0.nd
  obtain ⟨ndt, ndf⟩ := nf_tail dj.nf
  have hne := ne12 M0.nd
  have hFs : ∀ {a : Addr}, a ∈ FA f → a ∈ (f :: fcs).flatMap FA := fun ha => by rw [List.flatMap_cons]; exact List.mem_append_left _ ha
  have hTs : ∀ {a : Addr}, a ∈ fcs.flatMap FA → a ∈ (f :: fcs).flatMap FA := fun ha => by rw [List.flatMap_cons]; exact List.mem_append_right _ ha
  have sPL : ∀ p ∈ PL w.params β π ((tpos sg σ.i : Nat) : Int) kp σ.lim kl (.ref ta) σ.pr kr, p ∈ ML w.params β π ω sg σ ⟨c, kp, kl, kr, .ref ta, nf, f :: fcs⟩ := fun p hp => List.mem_append_left _ hp
  have sF : ∀ p ∈ [((π.fl : Addr), listOf (vals fcs ++ [Value.ref f.fa]).toArray nf)], p ∈ ML w.params β π ω sg σ ⟨c, kp, kl, kr, .ref ta, nf, f :: fcs⟩ := fun p hp => List.mem_append_right _ (by rw [List.mem_singleton.mp hp, ← vals_cons]; exact .head _)
  have sT : ∀ p ∈ FL w.params f, p ∈ ML w.params β π ω sg σ ⟨c, kp, kl, kr, .ref ta, nf, f :: fcs⟩ := fun p hp => List.mem_append_right _ (.tail _ (List.mem_append_left _ (by rw [List.flatMap_cons]; exact List.mem_append_left _ hp)))
  have sO : ∀ p ∈ OL w.params β π.o ω, p ∈ ML w.params β π ω sg σ ⟨c, kp, kl, kr, .ref ta, nf, f :: fcs⟩ := fun p hp => List.mem_append_right _ (.tail _ (List.mem_append_right _ (List.mem_append_left _ hp)))
  have sB : ∀ p ∈ c.L w.params β, p ∈ ML w.params β π ω sg σ ⟨c, kp, kl, kr, .ref ta, nf, f :: fcs⟩ := fun p hp => List.mem_append_right _ (.tail _ (List.mem_append_right _ (List.mem_append_right _ hp)))
  have app : ∀ {a b : List (Addr × Obj)}, (∀ p ∈ a, p ∈ ML w.params β π ω sg σ ⟨c, kp, kl, kr, .ref ta, nf, f :: fcs⟩) → (∀ p ∈ b, p ∈ ML w.params β π ω sg σ ⟨c, kp, kl, kr, .ref ta, nf, f :: fcs⟩) → ∀ p ∈ a ++ b, p ∈ ML w.params β π ω sg σ ⟨c, kp, kl, kr, .ref ta, nf, f :: fcs⟩ := fun u v p hp => (List.mem_append.mp hp).elim (u p) (v p)
  have s3 := app (app sPL sF) sT
  have kB : ∀ {h h' : Heap} {ms B : List (Addr × Obj)}, MAt w β π ω tvs sg c0 (n + 1) h σ ⟨c, kp, kl, kr, .ref ta, nf, f :: fcs⟩ → Keep (ms.map (·.1)) h h' → (∀ p ∈ B, p ∈ ML w.params β π ω sg σ ⟨c, kp, kl, kr, .ref ta, nf, f :: fcs⟩) → (∀ p ∈ B, p.1 ∉ ms.map (·.1)) → Has h' B := fun M K hB hd p hp => K _ _ (M.has p (hB p hp)) (hd p hp)
  have off1 : ∀ {ms : List (Addr × Obj)} {h : Heap}, (∀ p ∈ ms, p ∈ ML w.params β π ω sg σ ⟨c, kp, kl, kr, .ref ta, nf, f :: fcs⟩) → MAt w β π ω tvs sg c0 (n + 1) h σ ⟨c, kp, kl, kr, .ref ta, nf, f :: fcs⟩ → ∀ a ∈ [π.tl, q'], a ∉ ms.map (·.1) := fun hs M => List.forall_mem_cons.mpr ⟨off_ms hs M.tlo, List.forall_mem_cons.mpr ⟨off_ms hs (tq M).2, List.forall_mem_nil _⟩⟩
  -- what lies off the places that a closing changes
  have n3 : ∀ {kp' : Tok} {lm : Int} {kl' : Tok} {tm' : Value} {pr' : Int} {kr' : Tok} {i : Int} {S : List Addr} {a : Addr}, a ∈ S → ((∀ z ∈ [π.p, π.pd], z ∉ S) ∧ (π.fl : Addr) ∉ S ∧ ∀ z ∈ FA f, z ∉ S) → a ∉ ((PL w.params β π i kp' lm kl' tm' pr' kr' ++ [((π.fl : Addr), listOf (vals fcs ++ [Value.ref f.fa]).toArray nf)]) ++ FL w.params f).map (·.1) := fun ha hd e => by
    rw [List.map_append, List.map_append] at e
    exact (List.mem_append.mp e).elim (fun e => (List.mem_append.mp e).elim (fun e => hd.1 _ e ha) fun e => eq1 e hd.2.1 ha) fun e => hd.2.2 _ e ha
  have dT : (∀ z ∈ ([π.p, π.pd] : List Addr), z ∉ fcs.flatMap FA) ∧ (π.fl : Addr) ∉ fcs.flatMap FA ∧ ∀ z ∈ FA f, z ∉ fcs.flatMap FA := ⟨fun z hz e => (dj.p z hz).2.1 (hTs e), fun e => dj.fl.1 (hTs e), fun z hz e => ndf z e hz⟩
  have dO : (∀ z ∈ ([π.p, π.pd] : List Addr), z ∉ OAd π ω) ∧ (π.fl : Addr) ∉ OAd π ω ∧ ∀ z ∈ FA f, z ∉ OAd π ω := ⟨fun z hz => (dj.p z hz).2.2.1, dj.fl.2.1, fun z hz => (dj.f z (hFs hz)).1⟩
  have dB : (∀ z ∈ ([π.p, π.pd] : List Addr), z ∉ BAd β) ∧ (π.fl : Addr) ∉ BAd β ∧ ∀ z ∈ FA f, z ∉ BAd β := ⟨fun z hz => (dj.p z hz).2.2.2, dj.fl.2.2, fun z hz => (dj.f z (hFs hz)).2⟩
  have stp : ∀ {r : Res}, stepR sg σ = r → step sg σ = r := fun e => by unfold step; rw [hw, if_pos rfl]; exact e
  have hsz : c.size < 100000 := by have := M0.sz; dsimp only at this; omega
  have h7 : c.texts[7]? = some (Str.ofString ",") := prefix_get M0.g1 X.t7
  have hoffB : ∀ a ∈ [π.p, π.pd, π.o, ω.od, ω.pf, ω.nf, ω.qf, π.fl, f.fa, f.fd, f.fi], a ∉ (c.L w.params β).map (·.1) := by
    intro a ha
    simp only [List.mem_cons, List.mem_nil_iff, or_false] at ha
    rcases ha with e | e | e | e | e | e | e | e | e | e | e
    · exact e ▸ dB.1 _ (.head _)
    · exact e ▸ dB.1 _ (.tail _ (.head _))
    · exact e ▸ dj.o π.o (.head _)
    · exact e ▸ dj.o ω.od (.tail _ (.head _))
    · exact e ▸ dj.o ω.pf (.tail _ (.tail _ (.head _)))
    · exact e ▸ dj.o ω.nf (.tail _ (.tail _ (.tail _ (.head _))))
    · exact e ▸ dj.o ω.qf (.tail _ (.tail _ (.tail _ (.tail _ (.head _)))))
    · exact e ▸ dB.2.1
    · exact e ▸ dB.2.2 _ (.head _)
    · exact e ▸ dB.2.2 _ (.tail _ (.head _))
    · exact e ▸ dB.2.2 _ (.tail _ (.tail _ (.head _)))
  have hoffO : ∀ a ∈ [π.fl, f.fa, f.fd, f.fi], a ∉ (OL w.params β π.o ω).map (·.1) := by
    intro a ha
    simp only [List.mem_cons, List.mem_nil_iff, or_false] at ha
    rcases ha with e | e | e | e
    · exact e ▸ dO.2.1
    · exact e ▸ dO.2.2 _ (.head _)
    · exact e ▸ dO.2.2 _ (.tail _ (.head _))
    · exact e ▸ dO.2.2 _ (.tail _ (.tail _ (.head _)))
  have s5 := app (app s3 sO) sB
  have hF0 := M0.frs
  rw [efs] at hF0
  replace hF0 := hF0.2.1
  subst hlm
  have hFA : ∀ {h : Heap}, MAt w β π ω tvs sg c0 (n + 1) h σ ⟨c, kp, kl, kr, .ref ta, nf, f :: fcs⟩ → FAt c.texts c.fns h k f := fun M => by have := M.frs; rw [efs] at this; exact this.2.1
  have hTm : ∀ {h : Heap}, MAt w β π ω tvs sg c0 (n + 1) h σ ⟨c, kp, kl, kr, .ref ta, nf, f :: fcs⟩ → TermAt c.texts c.fns h σ.tm (.ref ta) := fun M => by obtain ⟨a, e, t⟩ := M.tm hw; injection e with e; rw [e]; exact t
  have kt : ∀ {h h' : Heap} {ms : List (Addr × Obj)}, MAt w β π ω tvs sg c0 (n + 1) h σ ⟨c, kp, kl, kr, .ref ta, nf, f :: fcs⟩ → (∀ p ∈ ms, p ∈ ML w.params β π ω sg σ ⟨c, kp, kl, kr, .ref ta, nf, f :: fcs⟩) → Keep (ms.map (·.1)) h h' → KeepT h h' := fun M hs K => M.keepT X hs K
  cases k with
  | op l => exact absurd rfl (hk l)
  | round =>
    have hkd : f.kind = Str.ofString "round" := hF0
    by_cases e2 : x = .rp
    · subst e2
      refine ((cl_round w β π kp σ.lim kl (.ref ta) σ.pr kr tvs (tpos sg σ.i) q' (3 * σ.i : Nat) (vals fcs) nf ta f.fa f.fd f.fi f.kind f.kt f.lim f.lt f.fn f.ft f.nm f.nt f.pr f.pt f.left f.its f.n f.c1 f.c2 f.c3 f.c4 f.c5 f.c6 f.c7 lim9 hq X.o1 hfr9 hne hkd rfl).x (SX sg σ)).lift (by omega) s3 (fun h _ M => ⟨M.tl, (tq M).1, off1 s3 M⟩) (fun h h' r _ M K P => ?_) fun h k z M e => e
      obtain ⟨kp', kl', kr', k, nf', rfl, hH⟩ := P
      exact pop_SP (j := σ.i + 1) (T' := σ.tm) (c' := c) X M s3 K (by rw [tpos_succ hx]; rfl) efs rfl (stp (by unfold stepR; rw [hx]; dsimp only; rw [if_neg hns, efs]; dsimp only; rw [if_pos rfl, hw])) (fun p hp => hH p (List.mem_append_left _ hp)) (hH _ (List.mem_append_right _ (.head _))) (fun a ha => n3 ha dT) (kB M K sO fun p hp => n3 (List.mem_map_of_mem (f := (·.1)) hp) dO) (kB M K sB fun p hp => n3 (List.mem_map_of_mem (f := (·.1)) hp) dB) (M.ok.keepT (M.keepT X s3 K)) ((BC.Grow.refl _).le (by omega)) ((hTm M).keep (List.prefix_refl _) (List.prefix_refl _) (M.keepT X s3 K)) k
    ·
      refine (cl_badR w β π kp σ.lim kl (.ref ta) σ.pr kr tvs (tpos sg σ.i) q' (3 * σ.i : Nat) (vals fcs) nf ta f.fa f.fd f.fi f.kind f.kt f.lim f.lt f.fn f.ft f.nm f.nt f.pr f.pt f.left f.its f.n f.c1 f.c2 f.c3 f.c4 f.c5 f.c6 f.c7 (tk1 x) ω c lim9 hq X.o1 hfr9 hne hkd rfl X.oO X.o2 hsz h7 hoffB hoffO (tk1_is (y := .rp) rfl e2)).lift (by omega) s5 (fun h _ M => ⟨M.ok, M.tl, (tq M).1, off1 s5 M⟩) (fun _ _ _ _ _ _ e => e.elim) fun h k z M e => ?_
      obtain ⟨rfl, rfl⟩ := e
      exact ⟨σ.i, (stp (by unfold stepR; rw [hx]; dsimp only; rw [if_neg hns, efs]; dsimp only; rw [if_neg e2, bad, ← mis_eq])), by omega⟩
  | curly =>
    have hkd : f.kind = Str.ofString "curly" := hF0
    by_cases e2 : x = .rc
    · subst e2
      refine ((cl_curly w β π kp σ.lim kl (.ref ta) σ.pr kr tvs (tpos sg σ.i) q' (3 * σ.i : Nat) (vals fcs) nf ta f.fa f.fd f.fi f.kind f.kt f.lim f.lt f.fn f.ft f.nm f.nt f.pr f.pt f.left f.its f.n f.c1 f.c2 f.c3 f.c4 f.c5 f.c6 f.c7 lim9 hq X.o1 hfr9 hne hkd rfl).x (SX sg σ)).lift (by omega) s3 (fun h _ M => ⟨M.tl, (tq M).1, off1 s3 M⟩) (fun h h' r _ M K P => ?_) fun h k z M e => e
      obtain ⟨kp', kl', kr', k, nf', k1, k2, t, u, rfl, hH, ht, hu⟩ := P
      exact pop_SP (j := σ.i + 1) (T' := .brace σ.tm) (c' := c) X M s3 K (by rw [tpos_succ hx]; rfl) efs rfl (stp (by unfold stepR; rw [hx]; dsimp only; rw [if_neg hns, efs]; dsimp only; rw [if_pos rfl, hw])) (fun p hp => hH p (List.mem_append_left _ hp)) (hH _ (List.mem_append_right _ (.head _))) (fun a ha => n3 ha dT) (kB M K sO fun p hp => n3 (List.mem_map_of_mem (f := (·.1)) hp) dO) (kB M K sB fun p hp => n3 (List.mem_map_of_mem (f := (·.1)) hp) dB) (M.ok.keepT (M.keepT X s3 K)) ((BC.Grow.refl _).le (by omega)) (by rw [TermAt]; exact ⟨t, u, _, _, _, rfl, ⟨_, ht, rfl, _, rfl⟩, ⟨_, hu, rfl, _, rfl⟩, (hTm M).keep (List.prefix_refl _) (List.prefix_refl _) (M.keepT X s3 K)⟩) k
    ·
      refine (cl_badC w β π kp σ.lim kl (.ref ta) σ.pr kr tvs (tpos sg σ.i) q' (3 * σ.i : Nat) (vals fcs) nf ta f.fa f.fd f.fi f.kind f.kt f.lim f.lt f.fn f.ft f.nm f.nt f.pr f.pt f.left f.its f.n f.c1 f.c2 f.c3 f.c4 f.c5 f.c6 f.c7 (tk1 x) ω c lim9 hq X.o1 hfr9 hne hkd rfl X.oO X.o2 hsz h7 hoffB hoffO (tk1_is (y := .rc) rfl e2)).lift (by omega) s5 (fun h _ M => ⟨M.ok, M.tl, (tq M).1, off1 s5 M⟩) (fun _ _ _ _ _ _ e => e.elim) fun h k z M e => ?_
      obtain ⟨rfl, rfl⟩ := e
      exact ⟨σ.i, (stp (by unfold stepR; rw [hx]; dsimp only; rw [if_neg hns, efs]; dsimp only; rw [if_neg e2, bad, ← mis_eq])), by omega⟩
  | tail ts =>
    obtain ⟨hkd, hts⟩ := hF0
    have hl9 : f.its.length < 999 := by have := hts.length; simp only [itemsF] at hit; omega
    by_cases e2 : x = .rb
    · subst e2
      refine ((cl_tail w β π kp σ.lim kl (.ref ta) σ.pr kr tvs (tpos sg σ.i) q' (3 * σ.i : Nat) (vals fcs) nf ta f.fa f.fd f.fi f.kind f.kt f.lim f.lt f.fn f.ft f.nm f.nt f.pr f.pt f.left f.its f.n f.c1 f.c2 f.c3 f.c4 f.c5 f.c6 f.c7 c.texts c.fns ts σ.tm lim9 hq X.o1 hfr9 hne hkd rfl hl9).x (SX sg σ)).lift (by omega) s3 (fun h _ M => ⟨⟨(hFA M).2, hTm M⟩, M.tl, (tq M).1, off1 s3 M⟩) (fun h h' r _ M K P => ?_) fun h k z M e => e
      obtain ⟨kp', kl', kr', k, nf', t, rfl, hH, ht⟩ := P
      exact pop_SP (j := σ.i + 1) (T' := dots ts σ.tm) (c' := c) X M s3 K (by rw [tpos_succ hx]; rfl) efs rfl (stp (by unfold stepR; rw [hx]; dsimp only; rw [if_neg hns, efs]; dsimp only; rw [if_pos rfl, hw])) (fun p hp => hH p (List.mem_append_left _ hp)) (hH _ (List.mem_append_right _ (.head _))) (fun a ha => n3 ha dT) (kB M K sO fun p hp => n3 (List.mem_map_of_mem (f := (·.1)) hp) dO) (kB M K sB fun p hp => n3 (List.mem_map_of_mem (f := (·.1)) hp) dB) (M.ok.keepT (M.keepT X s3 K)) ((BC.Grow.refl _).le (by omega)) (ht) k
    ·
      refine (cl_badT w β π kp σ.lim kl (.ref ta) σ.pr kr tvs (tpos sg σ.i) q' (3 * σ.i : Nat) (vals fcs) nf ta f.fa f.fd f.fi f.kind f.kt f.lim f.lt f.fn f.ft f.nm f.nt f.pr f.pt f.left f.its f.n f.c1 f.c2 f.c3 f.c4 f.c5 f.c6 f.c7 (tk1 x) ω c lim9 hq X.o1 hfr9 hne hkd rfl X.oO X.o2 hsz h7 hoffB hoffO (tk1_is (y := .rb) rfl e2)).lift (by omega) s5 (fun h _ M => ⟨M.ok, M.tl, (tq M).1, off1 s5 M⟩) (fun _ _ _ _ _ _ e => e.elim) fun h k z M e => ?_
      obtain ⟨rfl, rfl⟩ := e
      exact ⟨σ.i, (stp (by unfold stepR; rw [hx]; dsimp only; rw [if_neg hns, efs]; dsimp only; rw [if_neg e2, bad, ← mis_eq])), by omega⟩
  | args ts =>
    obtain ⟨hkd, ⟨j9, hj1, hj2⟩, hts⟩ := hF0
    have hl9 : f.its.length < 999 := by have := hts.length; simp only [itemsF] at hit; omega
    by_cases e1 : x = .cma
    · subst e1
      refine ((cl_sepA w β π kp σ.lim kl (.ref ta) σ.pr kr tvs (tpos sg σ.i) q' (3 * σ.i : Nat) (vals fcs) nf ta f.fa f.fd f.fi f.kind f.kt f.lim f.lt f.fn f.ft f.nm f.nt f.pr f.pt f.left f.its f.n f.c1 f.c2 f.c3 f.c4 f.c5 f.c6 f.c7 lim9 hq X.o1 hfr9 hne hkd rfl (by omega)).x (SX sg σ)).lift (by omega) s3 (fun h _ M => ⟨M.tl, (tq M).1, off1 s3 M⟩) (fun h h' r _ M K P => ?_) fun h k z M e => e
      obtain ⟨kp', kl', k, nn', rfl, hH⟩ := P
      exact turn_SP (j := σ.i + 1) (x' := .args (ts ++ [σ.tm])) (f' := { f with kind := Str.ofString "args", its := f.its ++ [.ref ta], n := nn' }) X M s3 K (by rw [tpos_succ hx]; rfl) efs rfl ⟨rfl, rfl, rfl, rfl⟩ (stp (by unfold stepR; rw [hx]; dsimp only; rw [if_neg hns, efs]; dsimp only; rw [if_pos rfl])) (fun p hp => hH p (List.mem_append_left _ (List.mem_append_left _ hp))) (by rw [vals_cons]; exact hH _ (List.mem_append_left _ (List.mem_append_right _ (.head _)))) (fun p hp => hH p (List.mem_append_right _ hp)) (fun a ha => n3 ha dT) (kB M K sO fun p hp => n3 (List.mem_map_of_mem (f := (·.1)) hp) dO) (kB M K sB fun p hp => n3 (List.mem_map_of_mem (f := (·.1)) hp) dB) (⟨rfl, ⟨j9, hj1, hj2⟩, TermsAt.app (TermsAt.keep (List.prefix_refl _) (List.prefix_refl _) (M.keepT X s3 K) _ _ (hFA M).2.2) (TermsAt.one ((hTm M).keep (List.prefix_refl _) (List.prefix_refl _) (M.keepT X s3 K)))⟩) k
    · by_cases e2 : x = .rp
      · subst e2
        have s4 := app s3 sB
        refine ((cl_args w β π kp σ.lim kl (.ref ta) σ.pr kr tvs (tpos sg σ.i) q' (3 * σ.i : Nat) (vals fcs) nf ta f.fa f.fd f.fi f.kind f.kt f.lim f.lt f.fn f.ft f.nm f.nt f.pr f.pt f.left f.its f.n f.c1 f.c2 f.c3 f.c4 f.c5 f.c6 f.c7 c j9 ts σ.tm lim9 hq X.o1 hfr9 hne hkd rfl hl9 hj1 hj2 hsz ?_).x (SX sg σ)).lift (by omega) s4 (fun h _ M => ⟨⟨M.ok, (hFA M).2.2, hTm M⟩, M.tl, (tq M).1, off1 s4 M⟩) (fun h h' r _ M K P => ?_) fun h k z M e => e
        · exact fun a ha => hoffB a (by simp only [List.mem_cons, List.mem_nil_iff, or_false] at ha ⊢; rcases ha with h | h | h | h | h | h <;> simp [h])
        · obtain ⟨c', kp', kl', kr', k, nf', t, rfl, g, ok', hH, ht⟩ := P
          exact pop_SP (j := σ.i + 1) (T' := .f (ts ++ [σ.tm])) (c' := c') X M s4 K (by rw [tpos_succ hx]; rfl) efs rfl (stp (by unfold stepR; rw [hx]; dsimp only; rw [if_neg hns, efs]; dsimp only; rw [if_neg (by decide), if_pos rfl, hw])) (fun p hp => hH p (List.mem_append_left _ (List.mem_append_left _ hp))) (hH _ (List.mem_append_left _ (List.mem_append_right _ (.head _)))) (fun a ha => fun e => by rw [List.map_append] at e; exact (List.mem_append.mp e).elim (n3 ha dT) (dj.f a (hTs ha)).2) (kB M K sO fun p hp => fun e => by rw [List.map_append] at e; exact (List.mem_append.mp e).elim (n3 (List.mem_map_of_mem (f := (·.1)) hp) dO) (dj.o _ (List.mem_map_of_mem (f := (·.1)) hp))) (fun p hp => hH p (List.mem_append_right _ hp)) ok' (g.le (by omega)) (ht) k
      ·
        refine (cl_badA w β π kp σ.lim kl (.ref ta) σ.pr kr tvs (tpos sg σ.i) q' (3 * σ.i : Nat) (vals fcs) nf ta f.fa f.fd f.fi f.kind f.kt f.lim f.lt f.fn f.ft f.nm f.nt f.pr f.pt f.left f.its f.n f.c1 f.c2 f.c3 f.c4 f.c5 f.c6 f.c7 (tk1 x) ω c lim9 hq X.o1 hfr9 hne hkd rfl X.oO X.o2 hsz h7 hoffB hoffO (tk1_is (y := .cma) rfl e1) (tk1_is (y := .rp) rfl e2)).lift (by omega) s5 (fun h _ M => ⟨M.ok, M.tl, (tq M).1, off1 s5 M⟩) (fun _ _ _ _ _ _ e => e.elim) fun h k z M e => ?_
        obtain ⟨rfl, rfl⟩ := e
        exact ⟨σ.i, (stp (by unfold stepR; rw [hx]; dsimp only; rw [if_neg hns, efs]; dsimp only; rw [if_neg e1, if_neg e2, bad, ← mis_eq])), by omega⟩
  | list ts =>
    obtain ⟨hkd, hts⟩ := hF0
    have hl9 : f.its.length < 999 := by have := hts.length; simp only [itemsF] at hit; omega
    by_cases e1 : x = .cma
    · subst e1
      refine ((cl_sepL w β π kp σ.lim kl (.ref ta) σ.pr kr tvs (tpos sg σ.i) q' (3 * σ.i : Nat) (vals fcs) nf ta f.fa f.fd f.fi f.kind f.kt f.lim f.lt f.fn f.ft f.nm f.nt f.pr f.pt f.left f.its f.n f.c1 f.c2 f.c3 f.c4 f.c5 f.c6 f.c7 lim9 hq X.o1 hfr9 hne hkd rfl (by omega)).x (SX sg σ)).lift (by omega) s3 (fun h _ M => ⟨M.tl, (tq M).1, off1 s3 M⟩) (fun h h' r _ M K P => ?_) fun h k z M e => e
      obtain ⟨kp', kl', k, nn', rfl, hH⟩ := P
      exact turn_SP (j := σ.i + 1) (x' := .list (ts ++ [σ.tm])) (f' := { f with kind := Str.ofString "list", its := f.its ++ [.ref ta], n := nn' }) X M s3 K (by rw [tpos_succ hx]; rfl) efs rfl ⟨rfl, rfl, rfl, rfl⟩ (stp (by unfold stepR; rw [hx]; dsimp only; rw [if_neg hns, efs]; dsimp only; rw [if_pos rfl])) (fun p hp => hH p (List.mem_append_left _ (List.mem_append_left _ hp))) (by rw [vals_cons]; exact hH _ (List.mem_append_left _ (List.mem_append_right _ (.head _)))) (fun p hp => hH p (List.mem_append_right _ hp)) (fun a ha => n3 ha dT) (kB M K sO fun p hp => n3 (List.mem_map_of_mem (f := (·.1)) hp) dO) (kB M K sB fun p hp => n3 (List.mem_map_of_mem (f := (·.1)) hp) dB) (⟨rfl, TermsAt.app (TermsAt.keep (List.prefix_refl _) (List.prefix_refl _) (M.keepT X s3 K) _ _ (hFA M).2) (TermsAt.one ((hTm M).keep (List.prefix_refl _) (List.prefix_refl _) (M.keepT X s3 K)))⟩) k
    by_cases e3 : x = .bar
    · subst e3
      refine ((cl_sepT w β π kp σ.lim kl (.ref ta) σ.pr kr tvs (tpos sg σ.i) q' (3 * σ.i : Nat) (vals fcs) nf ta f.fa f.fd f.fi f.kind f.kt f.lim f.lt f.fn f.ft f.nm f.nt f.pr f.pt f.left f.its f.n f.c1 f.c2 f.c3 f.c4 f.c5 f.c6 f.c7 lim9 hq X.o1 hfr9 hne hkd rfl (by omega)).x (SX sg σ)).lift (by omega) s3 (fun h _ M => ⟨M.tl, (tq M).1, off1 s3 M⟩) (fun h h' r _ M K P => ?_) fun h k z M e => e
      obtain ⟨kp', kl', k, kt', nn', rfl, hH⟩ := P
      exact turn_SP (j := σ.i + 1) (x' := .tail (ts ++ [σ.tm])) (f' := { f with kind := Str.ofString "tail", kt := kt', its := f.its ++ [.ref ta], n := nn' }) X M s3 K (by rw [tpos_succ hx]; rfl) efs rfl ⟨rfl, rfl, rfl, rfl⟩ (stp (by unfold stepR; rw [hx]; dsimp only; rw [if_neg hns, efs]; dsimp only; rw [if_neg (by decide), if_pos rfl])) (fun p hp => hH p (List.mem_append_left _ (List.mem_append_left _ hp))) (by rw [vals_cons]; exact hH _ (List.mem_append_left _ (List.mem_append_right _ (.head _)))) (fun p hp => hH p (List.mem_append_right _ hp)) (fun a ha => n3 ha dT) (kB M K sO fun p hp => n3 (List.mem_map_of_mem (f := (·.1)) hp) dO) (kB M K sB fun p hp => n3 (List.mem_map_of_mem (f := (·.1)) hp) dB) (⟨rfl, TermsAt.app (TermsAt.keep (List.prefix_refl _) (List.prefix_refl _) (M.keepT X s3 K) _ _ (hFA M).2) (TermsAt.one ((hTm M).keep (List.prefix_refl _) (List.prefix_refl _) (M.keepT X s3 K)))⟩) k
    by_cases e2 : x = .rb
    · subst e2
      refine ((cl_list w β π kp σ.lim kl (.ref ta) σ.pr kr tvs (tpos sg σ.i) q' (3 * σ.i : Nat) (vals fcs) nf ta f.fa f.fd f.fi f.kind f.kt f.lim f.lt f.fn f.ft f.nm f.nt f.pr f.pt f.left f.its f.n f.c1 f.c2 f.c3 f.c4 f.c5 f.c6 f.c7 c.texts c.fns ts σ.tm lim9 hq X.o1 hfr9 hne hkd rfl hl9).x (SX sg σ)).lift (by omega) s3 (fun h _ M => ⟨⟨(hFA M).2, hTm M⟩, M.tl, (tq M).1, off1 s3 M⟩) (fun h h' r _ M K P => ?_) fun h k z M e => e
      obtain ⟨kp', kl', kr', k, nf', t, rfl, hH, ht⟩ := P
      exact pop_SP (j := σ.i + 1) (T' := dots (ts ++ [σ.tm]) .nil) (c' := c) X M s3 K (by rw [tpos_succ hx]; rfl) efs rfl (stp (by unfold stepR; rw [hx]; dsimp only; rw [if_neg hns, efs]; dsimp only; rw [if_neg (by decide), if_neg (by decide), if_pos rfl, hw])) (fun p hp => hH p (List.mem_append_left _ hp)) (hH _ (List.mem_append_right _ (.head _))) (fun a ha => n3 ha dT) (kB M K sO fun p hp => n3 (List.mem_map_of_mem (f := (·.1)) hp) dO) (kB M K sB fun p hp => n3 (List.mem_map_of_mem (f := (·.1)) hp) dB) (M.ok.keepT (M.keepT X s3 K)) ((BC.Grow.refl _).le (by omega)) (ht) k
    ·
      refine (cl_badL w β π kp σ.lim kl (.ref ta) σ.pr kr tvs (tpos sg σ.i) q' (3 * σ.i : Nat) (vals fcs) nf ta f.fa f.fd f.fi f.kind f.kt f.lim f.lt f.fn f.ft f.nm f.nt f.pr f.pt f.left f.its f.n f.c1 f.c2 f.c3 f.c4 f.c5 f.c6 f.c7 (tk1 x) ω c lim9 hq X.o1 hfr9 hne hkd rfl X.oO X.o2 hsz h7 hoffB hoffO (tk1_is (y := .cma) rfl e1) (tk1_is (y := .bar) rfl e3) (tk1_is (y := .rb) rfl e2)).lift (by omega) s5 (fun h _ M => ⟨M.ok, M.tl, (tq M).1, off1 s5 M⟩) (fun _ _ _ _ _ _ e => e.elim) fun h k z M e => ?_
      obtain ⟨rfl, rfl⟩ := e
      exact ⟨σ.i, (stp (by unfold stepR; rw [hx]; dsimp only; rw [if_neg hns, efs]; dsimp only; rw [if_neg e1, if_neg e3, if_neg e2, bad, ← mis_eq])), by omega⟩
end

theorem tick70 {prog : Program} {w : World} {A : Around} {E : Value → Shared → Prop} {s : Shared} {env : Env} {Q : Flow → Shared → Prop} (h : Q .next s) : wpAny (model prog w) A (execs [] env) Q E s := by
  first | (walk1; exact h) | exact wpAny_execs_nil h
section
variable {w : World} {β : BA} {π : PA} {ω : OA} {tvs : List Value} {sg : List Sg} {c0 : BC} {n : Nat} {h h' : Heap} {σ : St} {G : Gh} {ms : List (Addr × Obj)}
theorem MAt.stable (M : MAt w β π ω tvs sg c0 n h σ G) (kT : KeepT h h') (has : Has h' (ML w.params β π ω sg σ G)) (tl : h'.IsList π.tl tvs.toArray) : MAt w β π ω tvs sg c0 n h' σ G :=
  ⟨has, M.nd, M.ok.keepT kT, M.g1, M.g2, M.sz, M.frs.keep (List.prefix_refl _) (List.prefix_refl _) kT, fun e => by obtain ⟨a, b, t⟩ := M.tm e; exact ⟨a, b, t.keep (List.prefix_refl _) (List.prefix_refl _) kT⟩, isTup_keep kT M.ct, tl, M.tlo, M.tk.keep kT⟩
theorem MAt.all (M : MAt w β π ω tvs sg c0 n h σ G) (k : ∀ b o, h.get? b = some o → h'.get? b = some o) : MAt w β π ω tvs sg c0 n h' σ G :=
  M.stable (.of_keep k) (fun p hp => k _ _ (M.has p hp)) (by obtain ⟨o, e, r⟩ := M.tl; exact ⟨o, k _ _ e, r⟩)
theorem MAt.less {m : Nat} (M : MAt w β π ω tvs sg c0 n h σ G) (l : m ≤ n) : MAt w β π ω tvs sg c0 m h σ G := { M with sz := by have := M.sz; omega }
theorem MAt.book {c' : BC} (M : MAt w β π ω tvs sg c0 (n + 1) h σ G) (kT : KeepT h h') (has : Has h' (ML w.params β π ω sg σ { G with c := c' })) (tl : h'.IsList π.tl tvs.toArray) (ok : c'.Ok w h' β) (g : G.c.Grow c' 2) : MAt w β π ω tvs sg c0 n h' σ { G with c := c' } :=
  M.to kT tl has M.nd M.tlo ok g (M.frs.keep g.texts g.fns kT) fun e => by obtain ⟨a, b, t⟩ := M.tm e; exact ⟨a, b, t.keep g.texts g.fns kT⟩
theorem all_of (M : MAt w β π ω tvs sg c0 n h σ G) (hs : ∀ p ∈ ms, p ∈ ML w.params β π ω sg σ G) (K : Keep (ms.map (·.1)) h h') (H : Has h' ms) : ∀ b o, h.get? b = some o → h'.get? b = some o := fun b o e => by
  by_cases q : b ∈ ms.map (·.1)
  · obtain ⟨p, hp, rfl⟩ := List.mem_map.mp q
    have := M.has p (hs p hp)
    rw [e] at this
    rw [H p hp, Option.some.inj this]
  · exact K _ _ e q
theorem tk1_name {x : Sg} (h : x = .atm ∨ x = .fp) : (tk1 x).kind = Str.ofString "name" ∧ ∃ xt, (∀ t, (tk1 x).val t = .str xt t) ∧ xt ≠ Str.ofString "," := by
  rcases h with rfl | rfl
  · exact ⟨rfl, Str.ofString "a", fun _ => rfl, by decide⟩
  · exact ⟨rfl, Str.ofString "f", fun _ => rfl, by decide⟩
theorem tk1_other {x : Sg} (h1 : x ≠ .atm) (h2 : x ≠ .fp) : ((tk1 x).kind == Str.ofString "name") = false ∧ ((tk1 x).kind == Str.ofString "qname") = false ∧ (x = .cma → opNum (tk1 x) = 7) ∧ (x ≠ .cma → opNum (tk1 x) ≠ 7) := by
  cases x <;> first | exact absurd rfl h1 | exact absurd rfl h2 | exact ⟨by decide +kernel, by decide +kernel, (fun e => by first | rfl | (cases e)), (fun e => by first | exact absurd rfl e | decide)⟩
theorem sub_PL : ∀ p ∈ PL w.params β π ((tpos sg σ.i : Nat) : Int) G.kp σ.lim G.kl G.tm σ.pr G.kr, p ∈ ML w.params β π ω sg σ G := fun _ hp => List.mem_append_left _ hp
theorem sub_OL : ∀ p ∈ OL w.params β π.o ω, p ∈ ML w.params β π ω sg σ G := fun _ hp => List.mem_append_right _ (.tail _ (List.mem_append_right _ (List.mem_append_left _ hp)))
theorem sub_BL : ∀ p ∈ G.c.L w.params β, p ∈ ML w.params β π ω sg σ G := fun _ hp => List.mem_append_right _ (.tail _ (List.mem_append_right _ (List.mem_append_right _ hp)))
theorem sub_FL : ∀ p ∈ [((π.fl : Addr), listOf (vals G.fcs).toArray G.nf)], p ∈ ML w.params β π ω sg σ G := fun p hp => List.mem_append_right _ (by rw [List.mem_singleton.mp hp]; exact .head _)
theorem sub_app {a b c : List (Addr × Obj)} (u : ∀ p ∈ a, p ∈ c) (v : ∀ p ∈ b, p ∈ c) : ∀ p ∈ a ++ b, p ∈ c := fun p hp => (List.mem_append.mp hp).elim (u p) (v p)
/-- the operator's number of the token at hand -/
theorem mach_name (X : Fx w β π ω tvs sg c0) (ok : StOk sg σ) {x : Sg} (hx : sg[σ.i]? = some x) {q : Addr} (hq : tvs[tpos sg σ.i]? = some (.ref q)) :
    Does w 458 4 [.ref π.p, .ref q] (ML w.params β π ω sg σ G) (fun h => MAt w β π ω tvs sg c0 (n + 1) h σ G) (fun _ h' r => ∃ c', Has h' (ML w.params β π ω sg σ { G with c := c' }) ∧ (∃ m t, r = .int m t ∧ (x = .cma → m = 7) ∧ (x ≠ .cma → m ≠ 7)) ∧ MAt w β π ω tvs sg c0 n h' σ { G with c := c' }) := by
  refine Does.withPre fun ⟨h0, _, M0⟩ => ?_
  have lim9 : tpos sg σ.i < 1000 := by have := tpos_lt X.wf ok.lt; omega
  obtain ⟨q', hq', tq⟩ := X.tokq (tok_at hx)
  obtain rfl : q' = q := by rw [hq] at hq'; injection hq' with e; injection e with e; exact e.symm
  have dj := dj_of M0.nd
  by_cases hn : x = .atm ∨ x = .fp
  · obtain ⟨hk, xt, hv, hc⟩ := tk1_name hn
    have s9 := sub_app (sub_PL (w := w) (ω := ω) (G := G) (sg := sg) (σ := σ) (π := π) (β := β)) sub_BL
    refine (opn_nam w β π G.kp σ.lim G.kl G.tm σ.pr G.kr tvs (tpos sg σ.i) q' (3 * σ.i : Nat) (tk1 x) xt G.c lim9 hq X.o1.1 (by have := M0.sz; omega) (prefix_get M0.g1 X.t7) ?_ hk hv hc).lift (by omega) s9 (fun h _ M => ⟨M.ok, M.tl, (tq M).1, List.forall_mem_cons.mpr ⟨off_ms s9 M.tlo, List.forall_mem_cons.mpr ⟨off_ms s9 (tq M).2, List.forall_mem_nil _⟩⟩⟩) fun h h' r _ M K P => ?_
    · exact fun a ha => (dj.p a ha).2.2.2
    · obtain ⟨c', g, hH, ok', m, t, rfl, hm⟩ := P
      have hh : Has h' (ML w.params β π ω sg σ { G with c := c' }) := by
        refine has_all (fun p hp => hH p (List.mem_append_left _ hp)) ?_ (fun p hp => ?_) (fun p hp => ?_) (fun p hp => hH p (List.mem_append_right _ hp))
        · exact K _ _ (M.has _ (List.mem_append_right _ (.head _))) fun e => by
            rw [List.map_append] at e
            exact (List.mem_append.mp e).elim (fun e => (dj.p _ e).1 rfl) dj.fl.2.2
        · exact K _ _ (M.has p (List.mem_append_right _ (.tail _ (List.mem_append_left _ hp)))) fun e => by
            rw [List.map_append] at e
            exact (List.mem_append.mp e).elim (fun e => (dj.p _ e).2.1 (fr_adr hp)) (dj.f _ (fr_adr hp)).2
        · exact K _ _ (M.has p (sub_OL p hp)) fun e => by
            rw [List.map_append] at e
            exact (List.mem_append.mp e).elim (fun e => (dj.p _ e).2.2.1 (List.mem_map_of_mem (f := (·.1)) hp)) (dj.o _ (List.mem_map_of_mem (f := (·.1)) hp))
      exact ⟨c', hh, ⟨m, t, rfl, (fun e => by subst e; rcases hn with q | q <;> cases q), fun _ => hm⟩, M.book (M.keepT X s9 K) hh (M.keepL s9 K) ok' (g.le (by omega))⟩
  · obtain ⟨k1, k2, k3, k4⟩ := tk1_other (fun e => hn (.inl e)) (fun e => hn (.inr e))
    refine (opn_oth w π.p q' (tk1 x) (3 * σ.i : Nat) k1 k2).lift (by omega) (List.forall_mem_nil _) (fun h _ M => (tq M).1) fun h h' r _ M K P => ?_
    obtain ⟨t, rfl⟩ := P
    have M' := M.all fun b o e => K b o e List.not_mem_nil
    exact ⟨G.c, M'.has, ⟨_, t, rfl, k3, k4⟩, M'.less (by omega)⟩
/-- the operator is not shifted -/
theorem mach_noshift (X : Fx w β π ω tvs sg c0) {m : Int} {t : Tok} (hm : m = 7 → σ.lim ≤ 999) :
    Does w 479 8 [.ref π.p, .int m t] (ML w.params β π ω sg σ G) (fun h => MAt w β π ω tvs sg c0 n h σ G) (fun _ h' r => Has h' (ML w.params β π ω sg σ G) ∧ r = .bool false ∧ MAt w β π ω tvs sg c0 n h' σ G) := by
  have s9 := sub_app (sub_PL (w := w) (ω := ω) (G := G) (sg := sg) (σ := σ) (π := π) (β := β)) sub_OL
  by_cases e : m = 7
  · subst e
    refine (shf_lim w β π G.kp σ.lim G.kl G.tm σ.pr G.kr (tpos sg σ.i : Nat) ω t X.o1.1 X.oO X.o2 (hm rfl)).lift (by omega) s9 (fun h _ M => ⟨M.ct, off_ms s9 ?_⟩) fun h h' r _ M K P => ?_
    · obtain ⟨o, e, a, k, b⟩ := M.ct
      exact M.tup_off X e ⟨a, _, _, b⟩
    · have M' := M.all (all_of M s9 K P.1)
      exact ⟨M'.has, P.2, M'⟩
  · refine (shf_no w β π G.kp σ.lim G.kl G.tm σ.pr G.kr (tpos sg σ.i : Nat) ω m t X.o1.1 X.oO X.o2 e).lift (by omega) s9 (fun h _ M => trivial) fun h h' r _ M K P => ?_
    have M' := M.all (all_of M s9 K P.1)
    exact ⟨M'.has, P.2, M'⟩
theorem mach_nopost (X : Fx w β π ω tvs sg c0) {m : Int} {t : Tok} :
    Does w 486 8 [.ref π.p, .int m t] (ML w.params β π ω sg σ G) (fun h => MAt w β π ω tvs sg c0 n h σ G) (fun _ h' r => Has h' (ML w.params β π ω sg σ G) ∧ r = .bool false ∧ MAt w β π ω tvs sg c0 n h' σ G) := by
  have s9 := sub_app (sub_PL (w := w) (ω := ω) (G := G) (sg := sg) (σ := σ) (π := π) (β := β)) sub_OL
  refine (pfx_no w β π G.kp σ.lim G.kl G.tm σ.pr G.kr (tpos sg σ.i : Nat) ω m t X.o1.1 X.oO X.o2).lift (by omega) s9 (fun h _ M => trivial) fun h h' r _ M K P => ?_
  have M' := M.all (all_of M s9 K P.1)
  exact ⟨M'.has, P.2, M'⟩
/-- the comma is shifted -/
theorem mach_shift (X : Fx w β π ω tvs sg c0) (ok : StOk sg σ) (hw : σ.w = true) (hx : sg[σ.i]? = some .cma) (hl : 1000 ≤ σ.lim) (hp : σ.pr ≤ 999) {q : Addr} (hq : tvs[tpos sg σ.i]? = some (.ref q)) {t : Tok} :
    Does w 479 8 [.ref π.p, .int 7 t] (ML w.params β π ω sg σ G) (fun h => MAt w β π ω tvs sg c0 (n + 1) h σ G) (fun h h' r => r = .bool true ∧ ∀ k, SP w β π ω tvs sg c0 n σ G h h' (.int 0 k)) := by
  refine Does.withPre fun ⟨h0, _, M0⟩ => ?_
  have lim9 : tpos sg σ.i < 1000 := by have := tpos_lt X.wf ok.lt; omega
  have hfr9 : (vals G.fcs).length < 1000 := by rw [vals_len, M0.frs.len]; have := ok.fl; have := ok.lt; have := X.wf.small; omega
  obtain ⟨q', hq', tq⟩ := X.tokq (tok_at hx)
  obtain rfl : q' = q := by rw [hq] at hq'; injection hq' with e; injection e with e; exact e.symm
  have dj := dj_of M0.nd
  obtain ⟨c, kp, kl, kr, tm, nf, fcs⟩ := G
  obtain ⟨ta, rfl, _⟩ := M0.tm hw
  dsimp only at hfr9 dj
  have s9 := sub_app (sub_app (sub_app (sub_PL (w := w) (ω := ω) (G := ⟨c, kp, kl, kr, .ref ta, nf, fcs⟩) (sg := sg) (σ := σ) (π := π) (β := β)) sub_FL) sub_OL) sub_BL
  refine (op_shf w β π kp σ.lim kl (.ref ta) σ.pr kr tvs (tpos sg σ.i) q' (3 * σ.i : Nat) (vals fcs) nf (tk1 .cma) ω c ta t lim9 hq X.o1 hfr9 rfl hl hp X.oO X.o2 (by have := M0.sz; dsimp only at this; omega) (prefix_get M0.g2 X.f1) ?_).lift (by omega) s9 (fun h _ M => ⟨⟨M.ok, M.ct, off_ms s9 ?_⟩, M.tl, (tq M).1, List.forall_mem_cons.mpr ⟨off_ms s9 M.tlo, List.forall_mem_cons.mpr ⟨off_ms s9 (tq M).2, List.forall_mem_nil _⟩⟩⟩) fun h h' r _ M K P => ?_
  · intro a ha
    simp only [List.mem_cons, List.mem_nil_iff, or_false] at ha
    rcases ha with e | e | e | e | e | e | e | e
    · exact e ▸ (dj.p _ (.head _)).2.2.2
    · exact e ▸ (dj.p _ (.tail _ (.head _))).2.2.2
    · exact e ▸ dj.fl.2.2
    all_goals exact e ▸ dj.o _ (by simp [OAd])
  · obtain ⟨o, e, a, k, b⟩ := M.ct
    exact M.tup_off X e ⟨a, _, _, b⟩
  · obtain ⟨c', kp', kl', f, nf', rfl, g, ok', ⟨f1, f2, f3⟩, hN, hH⟩ := P
    refine ⟨rfl, fun k => ?_⟩
    have hT : TermAt c.texts c.fns h σ.tm (.ref ta) := by obtain ⟨a, e, t⟩ := M.tm hw; injection e with e; rw [e]; exact t
    refine enter_SP (j := σ.i + 1) (x := .op σ.tm) (c' := c') X M s9 K (by rw [tpos_succ hx]; rfl) ?_ hN (fun p hp => hH p (List.mem_append_left _ (List.mem_append_left _ (List.mem_append_left _ (List.mem_append_left _ hp))))) (hH _ (List.mem_append_left _ (List.mem_append_left _ (List.mem_append_left _ (List.mem_append_right _ (.head _)))))) (fun p hp => hH p (List.mem_append_left _ (List.mem_append_left _ (List.mem_append_right _ hp)))) ?_ (fun p hp => hH p (List.mem_append_left _ (List.mem_append_right _ hp))) (fun p hp => hH p (List.mem_append_right _ hp)) ok' (g.le (by omega)) ⟨hN.kd, f1, f2, ta, f3, hT.keep g.texts g.fns (M.keepT X s9 K)⟩ k
    · unfold step stepR; rw [hw, if_pos rfl, hx]; dsimp only; rw [if_pos ⟨rfl, hl⟩, if_pos hp]
    · rw [List.map_append, List.map_append, List.map_append]
      exact fun a ha e => (List.mem_append.mp e).elim (fun e => (List.mem_append.mp e).elim (fun e => (List.mem_append.mp e).elim (fun e => (dj.p _ e).2.1 ha) fun e => eq1 e dj.fl.1 ha) (dj.f a ha).1) (dj.f a ha).2
/-- the operator frame is reduced -/
theorem mach_reduce (X : Fx w β π ω tvs sg c0) (ok : StOk sg σ) (hw : σ.w = true) {x : Sg} (hx : sg[σ.i]? = some x) (hns : ¬ (x = .cma ∧ 1000 ≤ σ.lim)) {l : T} {b : Int} {fs : List (Fk × Int)} (efs : σ.fs = (.op l, b) :: fs) :
    Does w 493 8 [.ref π.p] (ML w.params β π ω sg σ G) (fun h => MAt w β π ω tvs sg c0 (n + 1) h σ G) (fun _ h' r => r = .none ∧ ∀ k, SPn w β π ω tvs sg c0 n σ G.fcs h' (.int 1 k)) := by
  refine Does.withPre fun ⟨h0, _, M0⟩ => ?_
  obtain ⟨c, kp, kl, kr, tm, nf, fcs0⟩ := G
  obtain ⟨f, fcs, rfl⟩ : ∃ f fcs, fcs0 = f :: fcs := by
    have := M0.frs
    rw [efs] at this
    cases fcs0 with
    | nil => exact this.elim
    | cons f fcs => exact ⟨f, fcs, rfl⟩
  obtain ⟨ta, rfl, _⟩ := M0.tm hw
  have hfr9 : (vals fcs).length < 1000 := by have := M0.frs.len; simp only [List.length_cons] at this; rw [vals_len]; have := ok.fl; have := ok.lt; have := X.wf.small; omega
  have hF : ∀ {h : Heap}, MAt w β π ω tvs sg c0 (n + 1) h σ ⟨c, kp, kl, kr, .ref ta, nf, f :: fcs⟩ → f.lim = b ∧ FAt c.texts c.fns h (.op l) f := fun M => by have := M.frs; rw [efs] at this; exact ⟨this.1, this.2.1⟩
  obtain ⟨hlm, -, -, -, la, hla, -⟩ := hF M0
  have dj := dj_of M0.nd
  obtain ⟨ndt, ndf⟩ := nf_tail dj.nf
  have s3 : ∀ p ∈ (PL w.params β π ((tpos sg σ.i : Nat) : Int) kp σ.lim kl (.ref ta) σ.pr kr ++ [((π.fl : Addr), listOf (vals fcs ++ [Value.ref f.fa]).toArray nf)]) ++ FL w.params f, p ∈ ML w.params β π ω sg σ ⟨c, kp, kl, kr, .ref ta, nf, f :: fcs⟩ :=
    sub_app (sub_app (sub_PL (G := ⟨c, kp, kl, kr, .ref ta, nf, f :: fcs⟩)) fun p hp => List.mem_append_right _ (by rw [List.mem_singleton.mp hp, ← vals_cons]; exact .head _)) fun p hp => List.mem_append_right _ (.tail _ (List.mem_append_left _ (by rw [List.flatMap_cons]; exact List.mem_append_left _ hp)))
  have hFs : ∀ {a : Addr}, a ∈ FA f → a ∈ (f :: fcs).flatMap FA := fun ha => by rw [List.flatMap_cons]; exact List.mem_append_left _ ha
  have hTs : ∀ {a : Addr}, a ∈ fcs.flatMap FA → a ∈ (f :: fcs).flatMap FA := fun ha => by rw [List.flatMap_cons]; exact List.mem_append_right _ ha
  subst hlm
  refine (op_red w β π kp σ.lim kl (.ref ta) σ.pr kr (tpos sg σ.i : Nat) (vals fcs) nf la ta f.fa f.fd f.fi f.kind f.kt f.lim f.lt f.fn f.ft f.nm f.nt f.pr f.pt f.left f.its f.n f.c1 f.c2 f.c3 f.c4 f.c5 f.c6 f.c7 X.o1 hfr9 (ne12 M0.nd) hla rfl).lift (by omega) s3 (fun _ _ _ => trivial) fun h h' r _ M K P => ?_
  obtain ⟨kp', kl', kr', k1, k2, nf', t, u, rfl, hH, ht, hu⟩ := P
  refine ⟨rfl, fun k => ?_⟩
  obtain ⟨-, -, f1, f2, la', hla', hl⟩ := hF M
  obtain rfl : la' = la := by rw [hla] at hla'; injection hla' with e; exact e.symm
  have hT : TermAt c.texts c.fns h σ.tm (.ref ta) := by obtain ⟨a, e, t⟩ := M.tm hw; injection e with e; rw [e]; exact t
  have kT := M.keepT X s3 K
  rw [f1] at ht
  rw [f2] at hH
  have n3 : ∀ {S : List Addr} {a : Addr}, a ∈ S → ((∀ z ∈ [π.p, π.pd], z ∉ S) ∧ (π.fl : Addr) ∉ S ∧ ∀ z ∈ FA f, z ∉ S) → a ∉ ((PL w.params β π ((tpos sg σ.i : Nat) : Int) kp f.lim kl (.ref ta) σ.pr kr ++ [((π.fl : Addr), listOf (vals fcs ++ [Value.ref f.fa]).toArray nf)]) ++ FL w.params f).map (·.1) := fun ha hd e => by
    rw [List.map_append, List.map_append] at e
    exact (List.mem_append.mp e).elim (fun e => (List.mem_append.mp e).elim (fun e => hd.1 _ e ha) fun e => eq1 e hd.2.1 ha) fun e => hd.2.2 _ e ha
  refine pop_SP (j := σ.i) (T' := .comma l σ.tm) (c' := c) X M s3 K rfl efs rfl ?_ (fun p hp => hH p (List.mem_append_left _ hp)) (hH _ (List.mem_append_right _ (.head _))) (fun a ha => ?_) (fun p hp => K _ _ (M.has p (sub_OL p hp)) ?_) (fun p hp => K _ _ (M.has p (sub_BL p hp)) ?_) (M.ok.keepT kT) ((BC.Grow.refl _).le (by omega)) ?_ k
  · unfold step stepR; rw [hw, if_pos rfl, hx]; dsimp only; rw [if_neg hns, efs]
  · exact n3 ha ⟨fun z hz e => (dj.p z hz).2.1 (hTs e), fun e => dj.fl.1 (hTs e), fun z hz e => ndf z e hz⟩
  · exact n3 (List.mem_map_of_mem (f := (·.1)) hp) ⟨fun z hz => (dj.p z hz).2.2.1, dj.fl.2.1, fun z hz => (dj.f z (hFs hz)).1⟩
  · exact n3 (List.mem_map_of_mem (f := (·.1)) hp) ⟨fun z hz => (dj.p z hz).2.2.2, dj.fl.2.2, fun z hz => (dj.f z (hFs hz)).2⟩
  · rw [TermAt]
    exact ⟨t, u, _, _, _, _, rfl, ⟨_, ht, rfl, _, rfl⟩, ⟨_, hu, rfl, _, rfl⟩, hl.keep (List.prefix_refl _) (List.prefix_refl _) kT, hT.keep (List.prefix_refl _) (List.prefix_refl _) kT⟩
end

theorem tick71 {prog : Program} {w : World} {A : Around} {E : Value → Shared → Prop} {s : Shared} {env : Env} {Q : Flow → Shared → Prop} (h : Q .next s) : wpAny (model prog w) A (execs [] env) Q E s := by
  first | (walk1; exact h) | exact wpAny_execs_nil h
section
variable {w : World} {β : BA} {π : PA} {ω : OA} {tvs : List Value} {sg : List Sg} {c0 : BC} {n : Nat} {h h' : Heap} {σ : St} {G : Gh} {ms : List (Addr × Obj)}
theorem mach_stable (m : Nat) : Stable w β π tvs (L1 w.params β π ((tpos sg σ.i : Nat) : Int) G.kp σ.lim G.kl G.tm σ.pr G.kr (MY w.params β π ω G.fcs G.nf)) (fun c h => MAt w β π ω tvs sg c0 m h σ { G with c := c }) :=
  ⟨fun c c' => by unfold L1; rw [List.map_append, List.map_append, MY_adr, MY_adr], fun c h h' M kT hH tl => M.stable kT hH tl⟩
/-- a step of operator -/
theorem step_operator (X : Fx w β π ω tvs sg c0) (ok : StOk sg σ) (hw : σ.w = true) (hs : step sg σ ≠ .stuck) : DoesX w 465 16 [.ref π.p] (ML w.params β π ω sg σ G) (fun h => MAt w β π ω tvs sg c0 (n + 2) h σ G) (SP w β π ω tvs sg c0 n σ G) (SX sg σ) := by
  obtain ⟨c9, kp, kl, kr, tm, nf, fcs9⟩ := G
  refine DoesX.withPre fun ⟨h0, _, M0⟩ => ?_
  have lim9 : tpos sg σ.i < 1000 := by have := tpos_lt X.wf ok.lt; omega
  have hfr9 : (vals fcs9).length < 1000 := by rw [vals_len, M0.frs.len]; have := ok.fl; have := ok.lt; have := X.wf.small; omega
  obtain ⟨x, hx⟩ : ∃ x, sg[σ.i]? = some x := ⟨_, List.getElem?_eq_getElem ok.lt⟩
  obtain ⟨q, hq, tq⟩ := X.tokq (tok_at hx)
  have stp : ∀ {r : Res}, stepR sg σ = r → step sg σ = r := fun e => by unfold step; rw [hw, if_pos rfl]; exact e
  have pre : ∀ {h : Heap}, MAt w β π ω tvs sg c0 (n + 2) h σ ⟨c9, kp, kl, kr, tm, nf, fcs9⟩ → MAt w β π ω tvs sg c0 (n + 2) h σ ⟨c9, kp, kl, kr, tm, nf, fcs9⟩ ∧ h.IsList π.tl tvs.toArray ∧ π.tl ∉ (ML w.params β π ω sg σ ⟨c9, kp, kl, kr, tm, nf, fcs9⟩).map (·.1) := fun M => ⟨M, M.tl, by rw [ML_adr]; exact M.tlo⟩
  by_cases hsh : x = .cma ∧ 1000 ≤ σ.lim
  · obtain ⟨rfl, hl⟩ := hsh
    have hp : σ.pr ≤ 999 := by
      by_cases e : 999 < σ.pr
      · exact absurd (stp (by unfold stepR; rw [hx]; dsimp only; rw [if_pos ⟨rfl, hl⟩, if_neg (by omega)])) hs
      · omega
    refine ((opr_shift w β π kp σ.lim kl tm σ.pr kr tvs (tpos sg σ.i) q c9 (MY w.params β π ω fcs9 nf) (fun h => MAt w β π ω tvs sg c0 (n + 2) h σ ⟨c9, kp, kl, kr, tm, nf, fcs9⟩) (fun c h => MAt w β π ω tvs sg c0 (n + 1) h σ ⟨c, kp, kl, kr, tm, nf, fcs9⟩) (fun h h' => ∀ k, SP w β π ω tvs sg c0 n σ ⟨c9, kp, kl, kr, tm, nf, fcs9⟩ h h' (.int 0 k)) lim9 hq (mach_stable (G := ⟨c9, kp, kl, kr, tm, nf, fcs9⟩) _) (fun h h' M kT hH tl => M.stable kT hH tl)
      ((mach_name (n := n + 1) (G := ⟨c9, kp, kl, kr, tm, nf, fcs9⟩) X ok hx hq).post fun _ _ _ ⟨c', a, ⟨m, t, b, d, _⟩, e⟩ => ⟨c', a, ⟨t, by rw [b, d rfl]⟩, e⟩) (fun c' t => mach_shift (G := ⟨c', kp, kl, kr, tm, nf, fcs9⟩) X ok hw hx hl hp hq) fun h0 h1 h2 nb P k => ?_).x (SX sg σ)).lift (by omega) (fun _ hp => hp) (fun h _ M => pre M) (fun h h' r _ _ _ P => ?_) fun _ _ _ _ e => e
    · obtain ⟨σ', G', a, b⟩ := P k
      exact ⟨σ', G', fun z hz => (a z hz).imp id (nb z), b⟩
    · obtain ⟨⟨k, rfl⟩, P⟩ := P
      exact P k
  · have hop := mach_name (n := n + 1) (w := w) (β := β) (π := π) (ω := ω) (tvs := tvs) (c0 := c0) (G := ⟨c9, kp, kl, kr, tm, nf, fcs9⟩) X ok hx hq
    refine (opr_ns w β π kp σ.lim kl tm σ.pr kr tvs (tpos sg σ.i) q c9 (MY w.params β π ω fcs9 nf) (fun h => MAt w β π ω tvs sg c0 (n + 2) h σ ⟨c9, kp, kl, kr, tm, nf, fcs9⟩) (fun c h => MAt w β π ω tvs sg c0 (n + 1) h σ ⟨c, kp, kl, kr, tm, nf, fcs9⟩) (fun m => m = 7 → σ.lim ≤ 999) (fun h' r => SPn w β π ω tvs sg c0 n σ fcs9 h' r) (fun k z => ∃ j : Nat, step sg σ = .flt k j ∧ z = 3 * j) (vals fcs9) nf lim9 hq hfr9 (mach_stable (G := ⟨c9, kp, kl, kr, tm, nf, fcs9⟩) _) (fun _ => .head _) (fun h h' M kT hH tl => M.stable kT hH tl)
      (hop.post fun _ _ _ ⟨c', a, ⟨m, t, b, d, e⟩, f⟩ => ⟨c', a, ⟨m, t, b, fun q => ?_⟩, f⟩) (fun c' m t hm => (mach_noshift (G := ⟨c', kp, kl, kr, tm, nf, fcs9⟩) X hm).post fun _ _ _ ⟨a, b, d⟩ => ⟨c', a, b, d⟩) (fun c' m t => (mach_nopost (G := ⟨c', kp, kl, kr, tm, nf, fcs9⟩) X).post fun _ _ _ ⟨a, b, d⟩ => ⟨c', a, b, d⟩) ?_).lift (by omega) (fun _ hp => hp) (fun h _ M => pre M) (fun h h' r _ _ _ P => P.sp) fun _ _ _ _ e => e
    · by_cases e2 : x = .cma
      · have : ¬ 1000 ≤ σ.lim := fun q => hsh ⟨e2, q⟩
        omega
      · exact absurd q (e e2)
    · have hfs := M0.frs
      dsimp only at hfs
      cases efs : σ.fs with
      | nil =>
        rw [efs] at hfs
        cases fcs9 with
        | cons f fcs => exact hfs.elim
        | nil => exact .inl ⟨rfl, fun c' h' k M => ⟨σ, ⟨c', kp, kl, kr, tm, nf, []⟩, fun a ha => ha, M.less (by omega), .inr ⟨stp (by unfold stepR; rw [hx]; dsimp only; rw [if_neg hsh, efs]), rfl, k, rfl⟩⟩⟩
      | cons y fs =>
        obtain ⟨k, b⟩ := y
        rw [efs] at hfs
        cases fcs9 with
        | nil => exact hfs.elim
        | cons f fcs =>
          obtain ⟨hlm, hF, -⟩ := hfs
          refine .inr ⟨vals fcs, f.fa, f.fd, f.fi, f.kind, f.kt, f.lim, f.lt, f.fn, f.ft, f.nm, f.nt, f.pr, f.pt, f.left, f.c1, f.c2, f.c3, f.c4, f.c5, f.c6, f.c7, vals_cons _ _, fun c' => .tail _ (List.mem_append_left _ (by rw [List.flatMap_cons]; exact List.mem_append_left _ (.head _))), fun c' => .tail _ (List.mem_append_left _ (by rw [List.flatMap_cons]; exact List.mem_append_left _ (.tail _ (.head _)))), ?_⟩
          cases k with
          | op l => exact .inl ⟨hF.1, fun c' => mach_reduce (n := n) (G := ⟨c', kp, kl, kr, tm, nf, f :: fcs⟩) X ok hw hx hsh efs⟩
          | round => exact .inr ⟨by rw [show f.kind = _ from hF]; decide +kernel, fun c' => step_close (n := n) (G := ⟨c', kp, kl, kr, tm, nf, f :: fcs⟩) X ok hw hx hsh efs (fun _ e => by cases e) hq⟩
          | curly => exact .inr ⟨by rw [show f.kind = _ from hF]; decide +kernel, fun c' => step_close (n := n) (G := ⟨c', kp, kl, kr, tm, nf, f :: fcs⟩) X ok hw hx hsh efs (fun _ e => by cases e) hq⟩
          | args ts => exact .inr ⟨by rw [hF.1]; decide +kernel, fun c' => step_close (n := n) (G := ⟨c', kp, kl, kr, tm, nf, f :: fcs⟩) X ok hw hx hsh efs (fun _ e => by cases e) hq⟩
          | list ts => exact .inr ⟨by rw [hF.1]; decide +kernel, fun c' => step_close (n := n) (G := ⟨c', kp, kl, kr, tm, nf, f :: fcs⟩) X ok hw hx hsh efs (fun _ e => by cases e) hq⟩
          | tail ts => exact .inr ⟨by rw [hF.1]; decide +kernel, fun c' => step_close (n := n) (G := ⟨c', kp, kl, kr, tm, nf, f :: fcs⟩) X ok hw hx hsh efs (fun _ e => by cases e) hq⟩
end

theorem DoesX.ex {ι : Type} {w : World} {f : Addr} {cost : Nat} {vs : List Value} {ms : List (Addr × Obj)} {Pre : ι → Heap → Prop} {P : Heap → Heap → Value → Prop} {X : Heap → Str → Int → Prop} (D : ∀ i, DoesX w f cost vs ms (Pre i) P X) : DoesX w f cost vs ms (fun h => ∃ i, Pre i h) P X :=
  fun p loose mean mg mb A env outer A₀ base h₀ L m s Q E B F Xi N T hA hf hk hd hu hh ⟨i, hpre⟩ hret hexc => D i p loose mean mg mb A env outer A₀ base h₀ L m s Q E B F Xi N T hA hf hk hd hu hh hpre hret hexc
theorem Does.ex {ι : Type} {w : World} {f : Addr} {cost : Nat} {vs : List Value} {ms : List (Addr × Obj)} {Pre : ι → Heap → Prop} {P : Heap → Heap → Value → Prop} (D : ∀ i, Does w f cost vs ms (Pre i) P) : Does w f cost vs ms (fun h => ∃ i, Pre i h) P :=
  fun p loose mean mg mb A env outer A₀ base h₀ L m s Q E B F Xi N T hA hf hk hd hu hh ⟨i, hpre⟩ hret => D i p loose mean mg mb A env outer A₀ base h₀ L m s Q E B F Xi N T hA hf hk hd hu hh hpre hret
/-- what the clause comes to -/
def finR (sg : List Sg) (r : R) : R := match r with
  | .inl (t, j) => if sg[j]? = some .dot then .inl (t, j) else stopR sg j (Str.ofString "end_expected")
  | .inr s => .inr s
def PInv (w : World) (β : BA) (π : PA) (ω : OA) (tvs : List Value) (sg : List Sg) (c0 : BC) (res : R) (n : Nat) (b : Bool) (v : PV) (h : Heap) : Prop := ∃ i : St × Gh, v = PVof w.params β π ω sg i.1 i.2 ∧ i.1.w = b ∧ StOk sg i.1 ∧ MAt w β π ω tvs sg c0 (2 * n + 5) h i.1 i.2 ∧ Runs sg n i.1 res
def PFin (w : World) (β : BA) (π : PA) (ω : OA) (tvs : List Value) (sg : List Sg) (c0 : BC) (res : R) (v : PV) (h : Heap) : Prop := ∃ i : St × Gh, v = PVof w.params β π ω sg i.1 i.2 ∧ i.1.w = true ∧ StOk sg i.1 ∧ MAt w β π ω tvs sg c0 3 h i.1 i.2 ∧ res = .inl (i.1.tm, i.1.i)
theorem tick72 {prog : Program} {w : World} {A : Around} {E : Value → Shared → Prop} {s : Shared} {env : Env} {Q : Flow → Shared → Prop} (h : Q .next s) : wpAny (model prog w) A (execs [] env) Q E s := by
  first | (walk1; exact h) | exact wpAny_execs_nil h
section
variable {w : World} {β : BA} {π : PA} {ω : OA} {tvs : List Value} {sg : List Sg} {c0 : BC} {n : Nat} {h h' : Heap} {σ : St} {G : Gh} {ms : List (Addr × Obj)} {res : R}
abbrev PPost (w : World) (β : BA) (π : PA) (ω : OA) (tvs : List Value) (sg : List Sg) (c0 : BC) (res : R) (n : Nat) (v : PV) (h h' : Heap) (r : Value) : Prop :=
  ∃ v' : PV, Has h' (v'.l w.params β π) ∧ (∀ a ∈ (v'.l w.params β π).map (·.1), a ∈ (v.l w.params β π).map (·.1) ∨ h.get? a = none) ∧ ((∃ k, r = .int 2 k ∧ PFin w β π ω tvs sg c0 res v' h') ∨ ∃ m, m < n ∧ ((∃ k, r = .int 0 k ∧ PInv w β π ω tvs sg c0 res m false v' h') ∨ ∃ k, r = .int 1 k ∧ PInv w β π ω tvs sg c0 res m true v' h'))
theorem sp_post (X : Fx w β π ω tvs sg c0) (ok : StOk sg σ) (hR : Runs sg n σ res) (hw : step sg σ = .done → σ.w = true) {r : Value} (P : SP w β π ω tvs sg c0 (2 * n + 3) σ G h h' r) : PPost w β π ω tvs sg c0 res n (PVof w.params β π ω sg σ G) h h' r := by
  obtain ⟨σ', G', hf, M, hs⟩ := P
  refine ⟨PVof w.params β π ω sg σ' G', M.has, fun a ha => ?_, ?_⟩
  · have e1 : ((PVof w.params β π ω sg σ' G').l w.params β π).map (·.1) = AD β π ω G'.fcs := ML_adr w.params β π ω sg σ' G'
    have e2 : ((PVof w.params β π ω sg σ G).l w.params β π).map (·.1) = AD β π ω G.fcs := ML_adr w.params β π ω sg σ G
    rw [e1] at ha
    rw [e2]
    exact hf a ha
  · rcases hs with ⟨e, k, rfl⟩ | ⟨e, rfl, k, rfl⟩
    · cases hR with
      | done q => rw [e] at q; cases q
      | flt q => rw [e] at q; cases q
      | @next _ s' m _ q hR =>
        rw [e] at q
        injection q with q
        subst q
        have ok' := st_ok X.wf ok e
        refine .inr ⟨m, Nat.lt_succ_self _, ?_⟩
        cases hb : σ'.w with
        | false => exact .inl ⟨k, by rw [if_neg (by decide)], ⟨σ', G'⟩, rfl, hb, ok', M.less (by omega), hR⟩
        | true => exact .inr ⟨k, by rw [if_pos rfl], ⟨σ', G'⟩, rfl, hb, ok', M.less (by omega), hR⟩
    · cases hR with
      | done q => exact .inl ⟨k, rfl, ⟨σ', G'⟩, rfl, hw e, ok, M.less (by omega), rfl⟩
      | flt q => rw [e] at q; cases q
      | next q => rw [e] at q; cases q
theorem exc_post (hR : Runs sg n σ res) {k : Str} {z : Int} (e : SX sg σ h k z) : ∃ j : Nat, res = .inr (k, j) ∧ z = 3 * j := by
  obtain ⟨j, e, rfl⟩ := e
  cases hR with
  | done q => rw [e] at q; cases q
  | flt q => rw [e] at q; injection q with q1 q2; subst q1; subst q2; exact ⟨_, rfl, rfl⟩
  | next q => rw [e] at q; cases q
theorem done_w (hs : step sg σ = .done) : σ.w = true := by
  cases hb : σ.w with
  | true => rfl
  | false =>
    unfold step at hs
    rw [hb, if_neg (by decide)] at hs
    unfold stepO at hs
    repeat' (split at hs)
    all_goals cases hs
theorem mach_parse (X : Fx w β π ω tvs sg c0) (tk : Tok) (N0 : Nat) (G0 : Gh) (σ0 : St) (h0 : G0.fcs = []) (hl : σ0.lim = 1200) :
    DoesX w 397 20 [.ref π.p, .int 1200 tk] (ML w.params β π ω sg σ0 G0) (fun h => PInv w β π ω tvs sg c0 res N0 false (PVof w.params β π ω sg σ0 G0) h)
      (fun h h' r => ∃ v' : PV, Has h' (v'.l w.params β π) ∧ (∀ a ∈ (v'.l w.params β π).map (·.1), a ∈ (ML w.params β π ω sg σ0 G0).map (·.1) ∨ h.get? a = none) ∧ PFin w β π ω tvs sg c0 res v' h' ∧ ∃ t k, r = .ref t ∧ h'.get? t = some (tupOf [v'.tm, .int v'.pr k]) ∧ h.get? t = none) (fun _ k z => ∃ j : Nat, res = .inr (k, j) ∧ z = 3 * j) := by
  have hop : ∀ n (v : PV), DoesX w 418 9 [.ref π.p] (v.l w.params β π) (PInv w β π ω tvs sg c0 res n false v) (PPost w β π ω tvs sg c0 res n v) (fun _ k z => ∃ j : Nat, res = .inr (k, j) ∧ z = 3 * j) := fun n v => by
    refine DoesX.ex fun ⟨σ, G⟩ => DoesX.withPre fun ⟨h9, _, hv, hw, ok, _, hR⟩ => ?_
    subst hv
    exact (step_operand (n := 2 * n + 4) X ok hw).lift (by omega) (fun _ h => h) (fun h _ P => P.2.2.2.1) (fun h h' r _ P _ Q => sp_post X ok hR done_w (by obtain ⟨σ', G', a, M, b⟩ := Q; exact ⟨σ', G', a, M.less (by omega), b⟩)) fun h k z P e => exc_post hR e
  have hor : ∀ n (v : PV), DoesX w 465 16 [.ref π.p] (v.l w.params β π) (PInv w β π ω tvs sg c0 res n true v) (PPost w β π ω tvs sg c0 res n v) (fun _ k z => ∃ j : Nat, res = .inr (k, j) ∧ z = 3 * j) := fun n v => by
    refine DoesX.ex fun ⟨σ, G⟩ => DoesX.withPre fun ⟨h9, _, hv, hw, ok, _, hR⟩ => ?_
    subst hv
    have hst : step sg σ ≠ .stuck := fun e => by
      cases hR with
      | done q => rw [e] at q; cases q
      | flt q => rw [e] at q; cases q
      | next q => rw [e] at q; cases q
    exact (step_operator (n := 2 * n + 3) X ok hw hst).lift (by omega) (fun _ h => h) (fun h _ P => P.2.2.2.1) (fun h h' r _ P _ Q => sp_post X ok hR done_w Q) fun h k z P e => exc_post hR e
  refine (does_parse w β π tvs tk (PInv w β π ω tvs sg c0 res) (PFin w β π ω tvs sg c0 res) (fun k z => ∃ j : Nat, res = .inr (k, j) ∧ z = 3 * j) N0 (PVof w.params β π ω sg σ0 G0) X.o1.1 ?_ ?_ ?_ ?_ ?_ hop hor).lift (by omega) (fun _ h => h) (fun h _ P => ⟨P, ?_⟩) (fun _ _ _ _ _ _ P => P) fun _ _ _ _ e => e
  · rintro n b v h h' ⟨⟨σ, G⟩, rfl, hw, ok, M, hR⟩ kT hH tl
    exact ⟨⟨σ, G⟩, rfl, hw, ok, M.stable kT hH tl, hR⟩
  · rintro v h h' ⟨⟨σ, G⟩, rfl, hw, ok, M, hR⟩ kT hH tl
    exact ⟨⟨σ, G⟩, rfl, hw, ok, M.stable kT hH tl, hR⟩
  · rintro v h ⟨⟨σ, G⟩, rfl, hw, ok, M, hR⟩
    obtain ⟨ta, e, _⟩ := M.tm hw
    exact ⟨ta, e⟩
  · rintro v h ⟨⟨σ, G⟩, rfl, hw, ok, M, hR⟩ a ha
    have e1 : ((PVof w.params β π ω sg σ0 G0).l w.params β π).map (·.1) = AD β π ω G0.fcs := ML_adr w.params β π ω sg σ0 G0
    have e2 : ((PVof w.params β π ω sg σ G).l w.params β π).map (·.1) = AD β π ω G.fcs := ML_adr w.params β π ω sg σ G
    rw [e1, h0] at ha
    rw [e2]
    rcases List.mem_append.mp ha with q | q
    · exact List.mem_append_left _ q
    · rcases List.mem_cons.mp q with q | q
      · exact List.mem_append_right _ (q ▸ List.mem_cons_self)
      · exact List.mem_append_right _ (.tail _ (List.mem_append_right _ q))
  · rintro k h h' ⟨⟨σ, G⟩, e, hw, ok, M, hR⟩ kT hH tl
    have e9 : ({ PVof w.params β π ω sg σ0 G0 with lim := 1200, kl := k } : PV) = PVof w.params β π ω sg σ { G with kl := k } := by
      have hl' : σ.lim = 1200 := by rw [← hl]; exact (congrArg PV.lim e).symm
      rw [e, ← hl']
      rfl
    rw [e9] at hH ⊢
    exact ⟨⟨σ, { G with kl := k }⟩, rfl, hw, ok, ⟨hH, M.nd, M.ok.keepT kT, M.g1, M.g2, M.sz, M.frs.keep (List.prefix_refl _) (List.prefix_refl _) kT, fun e => by obtain ⟨a, b, t⟩ := M.tm e; exact ⟨a, b, t.keep (List.prefix_refl _) (List.prefix_refl _) kT⟩, isTup_keep kT M.ct, tl, M.tlo, M.tk.keep kT⟩, hR⟩
  · obtain ⟨⟨σ, G⟩, e, hw, ok, M, hR⟩ := P
    rw [e]
    refine ⟨M.tl, ?_, fun x hx q => ?_, fun x hx => M.noTup X x (List.mem_append_right _ hx)⟩
    · have e2 : ((PVof w.params β π ω sg σ G).l w.params β π).map (·.1) = AD β π ω G.fcs := ML_adr w.params β π ω sg σ G
      rw [e2]
      exact M.tlo
    · have d := dj_of M.nd
      have hm : x.1 ∈ (MY w.params β π ω G.fcs G.nf G.c).map (·.1) := List.mem_map_of_mem hx
      rw [MY_adr] at hm
      have q' : x.1 = π.pd := q
      rw [q'] at hm
      have z := d.p π.pd (.tail _ (.head _))
      rcases List.mem_cons.mp hm with y | y
      · exact z.1 y
      · rcases List.mem_append.mp y with y | y
        · exact z.2.1 y
        · rcases List.mem_append.mp y with y | y
          · exact z.2.2.1 y
          · exact z.2.2.2 y
theorem tk1_end (x : Sg) : (x = .dot ∧ (tk1 x).kind = Str.ofString "end") ∨ (x ≠ .dot ∧ ((tk1 x).kind == Str.ofString "end") = false) := by
  cases x <;> first | exact .inl ⟨rfl, rfl⟩ | exact .inr ⟨by decide, by decide +kernel⟩
theorem mach_clause (X : Fx w β π ω tvs sg c0) (N0 : Nat) (G0 : Gh) (σ0 : St) (h0 : G0.fcs = []) (hl : σ0.lim = 1200) :
    DoesX w 355 22 [.ref π.p] (ML w.params β π ω sg σ0 G0) (fun h => PInv w β π ω tvs sg c0 res N0 false (PVof w.params β π ω sg σ0 G0) h ∧ ∀ (i : Nat) (q : Addr), tvs[i]? = some (.ref q) → ∃ o, h.get? q = some o ∧ isTup o)
      (fun h h' r => ∃ (σ : St) (G : Gh), (∀ a ∈ AD β π ω G.fcs, a ∈ AD β π ω G0.fcs ∨ h.get? a = none) ∧ MAt w β π ω tvs sg c0 3 h' σ G ∧ r = G.tm ∧ σ.w = true ∧ finR sg res = .inl (σ.tm, σ.i) ∧ sg[σ.i]? = some .dot) (fun _ k z => ∃ j : Nat, finR sg res = .inr (k, j) ∧ z = 3 * j) := by
  refine (does_clause w β π tvs (fun h => PInv w β π ω tvs sg c0 res N0 false (PVof w.params β π ω sg σ0 G0) h) (PFin w β π ω tvs sg c0 res) (fun v => ∃ (i : St × Gh), v = PVof w.params β π ω sg i.1 i.2 ∧ finR sg res = .inl (i.1.tm, i.1.i) ∧ sg[i.1.i]? = some .dot) (fun k z => ∃ j : Nat, finR sg res = .inr (k, j) ∧ z = 3 * j) (PVof w.params β π ω sg σ0 G0) ?_ ?_ ?_
    (fun tk => (mach_parse X tk N0 G0 σ0 h0 hl).post (fun _ _ _ x => x) fun _ _ _ ⟨j, e, z⟩ => ⟨j, by rw [e]; rfl, z⟩) ?_).lift (by omega) (fun _ h => h) (fun h _ P => ⟨P.1, ?_⟩) (fun h h' r _ P _ Q => ?_) fun _ _ _ _ e => e
  · rintro h h' ⟨⟨σ, G⟩, e, hw, ok, M, hR⟩ kT hH tl
    rw [e] at hH ⊢
    exact ⟨⟨σ, G⟩, rfl, hw, ok, M.stable kT hH tl, hR⟩
  · rintro v h h' ⟨⟨σ, G⟩, rfl, hw, ok, M, hR⟩ kT hH tl
    exact ⟨⟨σ, G⟩, rfl, hw, ok, M.stable kT hH tl, hR⟩
  · rintro v h ⟨⟨σ, G⟩, rfl, hw, ok, M, hR⟩
    obtain ⟨ta, e, _⟩ := M.tm hw
    exact ⟨ta, e⟩
  · rintro v h ⟨⟨σ, G⟩, rfl, hw, ok, M, hR⟩
    obtain ⟨x, hx⟩ : ∃ x, sg[σ.i]? = some x := ⟨_, List.getElem?_eq_getElem ok.lt⟩
    obtain ⟨q, hq, tq⟩ := X.tokq (tok_at hx)
    have lim9 : tpos sg σ.i < 1000 := by have := tpos_lt X.wf ok.lt; dsimp only at this; omega
    refine ⟨tpos sg σ.i, q, tk1 x, (3 * σ.i : Nat), rfl, lim9, hq, (tq M).1, ?_⟩
    rcases tk1_end x with ⟨rfl, hk⟩ | ⟨hd, hk⟩
    · exact .inl ⟨hk, ⟨σ, G⟩, rfl, by rw [hR]; unfold finR; dsimp only; rw [if_pos hx], hx⟩
    · have hfr : finR sg res = .inr (stopKind x (Str.ofString "end_expected"), σ.i) := by
        rw [hR]; unfold finR; dsimp only
        rw [if_neg (by rw [hx]; exact fun q => hd (Option.some.inj q)), stopR_eq hx]
      refine .inr ⟨hk, ⟨σ.i, by rw [hfr, mis_eq], by omega⟩, fun ot => ?_⟩
      refine Does.ex fun ⟨σ2, G2⟩ => Does.withPre fun ⟨h9, _, hv, hw2, ok2, M2, hR2⟩ => ?_
      rw [hv]
      dsimp only at hv hw2 ok2 M2 hR2
      have ei : σ2.i = σ.i := by
        have a : res = .inl (σ.tm, σ.i) := hR
        rw [a] at hR2
        injection hR2 with e; injection e with _ e; exact e.symm
      have hx2 : sg[σ2.i]? = some x := by rw [ei]; exact hx
      have hq2 : tvs[tpos sg σ2.i]? = some (.ref q) := by rw [ei]; exact hq
      obtain ⟨q3, hq3, tq3⟩ := X.tokq (tok_at hx2)
      obtain rfl : q3 = q := by rw [hq2] at hq3; injection hq3 with e; injection e with e; exact e.symm
      have dj := dj_of M2.nd
      have s9 := sub_app (sub_app (sub_PL (w := w) (ω := ω) (G := G2) (sg := sg) (σ := σ2) (π := π) (β := β)) sub_OL) sub_BL
      refine (does_mis w β π G2.kp σ2.lim G2.kl G2.tm σ2.pr G2.kr tvs (tpos sg σ2.i) q3 (3 * σ2.i : Nat) (tk1 x) ω G2.c (Str.ofString "end_expected") ot (by rw [ei]; exact lim9) hq2 X.o1.1 X.oO X.o2 (by have := M2.sz; omega) (prefix_get M2.g1 X.t7) ?_).lift (by omega) s9 (fun h _ P => ⟨P.2.2.2.1.ok, P.2.2.2.1.tl, (tq3 P.2.2.2.1).1, List.forall_mem_cons.mpr ⟨off_ms s9 P.2.2.2.1.tlo, List.forall_mem_cons.mpr ⟨off_ms s9 (tq3 P.2.2.2.1).2, List.forall_mem_nil _⟩⟩⟩) fun h h' r _ P K Q => ?_
      · intro a ha
        simp only [List.mem_cons, List.mem_nil_iff, or_false] at ha
        rcases ha with e | e | e | e | e | e | e
        · exact e ▸ (dj.p _ (.head _)).2.2.2
        · exact e ▸ (dj.p _ (.tail _ (.head _))).2.2.2
        all_goals exact e ▸ dj.o _ (by simp [OAd])
      · obtain ⟨c', _, _, _, e, dx, od, mA, ns, F⟩ := Q
        rw [ei] at F
        exact ⟨e, dx, od, mA, ns, F⟩
  · obtain ⟨⟨⟨σ, G⟩, e, hw, ok, M, hR⟩, htk⟩ := P
    rw [e]
    have e2 : ((PVof w.params β π ω sg σ G).l w.params β π).map (·.1) = AD β π ω G.fcs := ML_adr w.params β π ω sg σ G
    rw [e2]
    exact ⟨M.tl, M.tlo, fun i q hq => by obtain ⟨o, a, b⟩ := htk i q hq; exact ⟨M.tup_off X a b, o, a⟩⟩
  · obtain ⟨v', _, hf, ⟨⟨σ, G⟩, rfl, hw, ok, M, hR⟩, hr, ⟨σ2, G2⟩, hv, hg1, hg2⟩ := Q
    have e1 : ((PVof w.params β π ω sg σ G).l w.params β π).map (·.1) = AD β π ω G.fcs := ML_adr w.params β π ω sg σ G
    have e2 : ((PVof w.params β π ω sg σ0 G0).l w.params β π).map (·.1) = AD β π ω G0.fcs := ML_adr w.params β π ω sg σ0 G0
    rw [e1, e2] at hf
    have hR' : res = .inl (σ.tm, σ.i) := hR
    have hd : sg[σ.i]? = some .dot ∧ finR sg res = .inl (σ.tm, σ.i) := by
      rw [hR'] at hg1 ⊢
      unfold finR at hg1 ⊢
      dsimp only at hg1 ⊢
      by_cases q : sg[σ.i]? = some .dot
      · exact ⟨q, by rw [if_pos q]⟩
      · rw [if_neg q] at hg1
        unfold stopR at hg1
        split at hg1 <;> cases hg1
    exact ⟨σ, G, hf, M, hr, hw, hd.2, hd.1⟩
end

abbrev st0 : St := ⟨false, 0, [], 1200, 0, .nil⟩
/-- the machine at its start -/
theorem mach_start {w : World} {β : BA} {π : PA} {ω : OA} {tvs : List Value} {sg : List Sg} {c : BC} {h : Heap} {kp kl kr : Tok} {nf : Nat} (hPL : Has h (PL w.params β π 0 kp 1200 kl .none 0 kr)) (hfl : h.get? π.fl = some (listOf [].toArray nf)) (hOL : Has h (OL w.params β π.o ω)) (hBL : Has h (c.L w.params β))
    (o1 : π.pd < π.p ∧ π.p < π.fl) (o2 : ω.od < π.o ∧ π.o < ω.pf ∧ ω.pf < ω.nf ∧ ω.nf < ω.qf) (d1 : ∀ a ∈ OAd π ω, a ∉ BAd β) (d2 : ∀ a ∈ OAd π ω ++ BAd β, @LT.lt Nat _ a π.pd) (ok : c.Ok w h β) (hoO : OOk w ω) (hcs : c.size ≤ 1000) (wf : WF sg) (h7 : c.texts[7]? = some (Str.ofString ",")) (hf1 : c.fns[1]? = some (7, 2))
    (ct : IsTup h ω.ct [.int 1000 ω.t1, .str (Str.ofString "xfy") ω.t2].toArray) (tl : h.IsList π.tl tvs.toArray) (tlo : π.tl ∉ AD β π ω []) (tk : TksAt h tvs (toksOf sg 0)) (N0 : Nat) (hN : N0 ≤ 300) {res : R} (hR : Runs sg N0 st0 res) :
    Fx w β π ω tvs sg c ∧ MAt w β π ω tvs sg c (2 * N0 + 5) h st0 ⟨c, kp, kl, kr, .none, nf, []⟩ ∧ PInv w β π ω tvs sg c res N0 false (PVof w.params β π ω sg st0 ⟨c, kp, kl, kr, .none, nf, []⟩) h := by
  suffices H : Fx w β π ω tvs sg c ∧ MAt w β π ω tvs sg c (2 * N0 + 5) h st0 ⟨c, kp, kl, kr, .none, nf, []⟩ from ⟨H.1, H.2, ⟨st0, ⟨c, kp, kl, kr, .none, nf, []⟩⟩, rfl, rfl, ⟨wf.pos, Nat.le_refl _, (fun f hf => nomatch hf), fun _ => trivial⟩, H.2, hR⟩
  refine ⟨⟨hoO, o1, ⟨o2.1, o2.2.1, o2.2.2.1, o2.2.2.2, d2 _ (by simp [OAd])⟩, d2 _ (by simp [BAd]), wf, fun k d e => ?_, h7, hf1⟩, ⟨?_, ?_, ok, List.prefix_refl _, List.prefix_refl _, by dsimp only; omega, trivial, (fun e => by cases e), ct, tl, tlo, tk⟩⟩
  · obtain ⟨v, hv, q, _, _, _, _, rfl, _⟩ := tk.get e
    exact ⟨q, hv⟩
  · exact has_all hPL hfl (fun p hp => nomatch hp) hOL hBL
  · obtain ⟨b1, b2, b3, b4, b5⟩ := ok.ord
    have nB : (BAd β).Nodup := by
      simp only [BAd, List.nodup_cons, List.mem_cons, List.mem_nil_iff, or_false, not_or, List.nodup_nil, and_true, not_false_eq_true]
      have q1 : β.b ≠ β.bd := by omega
      refine ⟨⟨?_, ?_, ?_, ?_, ?_⟩, ⟨?_, ?_, ?_, ?_⟩, ⟨?_, ?_, ?_⟩, ⟨?_, ?_⟩, ?_⟩ <;> (refine neN ?_; omega)
    have nO : (OAd π ω).Nodup := by
      obtain ⟨a1, a2, a3, a4⟩ := o2
      simp only [OAd, List.nodup_cons, List.mem_cons, List.mem_nil_iff, or_false, not_or, List.nodup_nil, and_true, not_false_eq_true]
      refine ⟨⟨?_, ?_, ?_, ?_⟩, ⟨?_, ?_, ?_⟩, ⟨?_, ?_⟩, ?_⟩ <;> (refine neN ?_; omega)
    refine List.nodup_append.mpr ⟨?_, List.nodup_cons.mpr ⟨fun q => ?_, List.nodup_append.mpr ⟨List.nodup_nil, List.nodup_append.mpr ⟨nO, nB, fun a ha b hb e => d1 a ha (e ▸ hb)⟩, fun a ha => nomatch ha⟩⟩, fun a ha b hb e => ?_⟩
    · simp only [List.nodup_cons, List.mem_cons, List.mem_nil_iff, or_false, List.nodup_nil, and_true, not_false_eq_true]
      refine neN ?_; omega
    · have q' : (π.fl : Addr) ∈ OAd π ω ++ BAd β := q
      have z : @LT.lt Nat _ π.fl π.pd := d2 _ q'
      omega
    · subst e
      rcases List.mem_cons.mp hb with q | q
      · simp only [List.mem_cons, List.mem_nil_iff, or_false] at ha
        have q' : @Eq Nat a π.fl := q
        rcases ha with y | y
        · have y' : @Eq Nat a π.p := y; omega
        · have y' : @Eq Nat a π.pd := y; omega
      · have q' : a ∈ OAd π ω ++ BAd β := q
        have z : @LT.lt Nat _ a π.pd := d2 _ q'
        simp only [List.mem_cons, List.mem_nil_iff, or_false] at ha
        rcases ha with y | y
        · have y' : @Eq Nat a π.p := y; omega
        · have y' : @Eq Nat a π.pd := y; omega

mutual
def tsz : T → Nat
  | .a | .seven | .nil | .curl => 1
  | .f ts => tssz ts + 1
  | .dot x y | .comma x y => tsz x + tsz y + 1
  | .brace x => tsz x + 1
def tssz : List T → Nat
  | [] => 0
  | t :: ts => tsz t + tssz ts
end
theorem tsz_pos : ∀ t : T, 0 < tsz t
  | .a | .seven | .nil | .curl => by simp only [tsz]; omega
  | .f _ => by simp only [tsz]; omega
  | .dot _ _ | .comma _ _ => by simp only [tsz]; omega
  | .brace _ => by simp only [tsz]; omega
theorem tssz_app : ∀ a b : List T, tssz (a ++ b) = tssz a + tssz b
  | [], b => by simp only [List.nil_append, tssz]; omega
  | t :: a, b => by simp only [List.cons_append, tssz, tssz_app a b]; omega
theorem dots_sz : ∀ (ts : List T) (r : T), tsz (dots ts r) = tssz ts + ts.length + tsz r
  | [], r => by simp only [dots, tssz, List.length_nil]; omega
  | t :: ts, r => by simp only [dots, tsz, tssz, dots_sz ts r, List.length_cons]; omega
def szR (sg : List Sg) (i : Nat) (k : Nat) (r : R) : Prop := match r with
  | .inl (t, j) => tsz t ≤ k + 2 * (j - i)
  | .inr _ => True
theorem descent_sz {sg : List Sg} (w : WF sg) : ∀ n : Nat, (∀ i, i < sg.length → szR sg i 0 (operandS sg n i)) ∧ (∀ i cl ts, cl = .rp ∨ cl = .rb → i < sg.length → szR sg i (tssz ts + ts.length) (itemsS sg n i cl ts)) ∧ (∀ i, i < sg.length → szR sg i 0 (wholeS sg n i)) := by
  have stop : ∀ i k j o, szR sg i k (stopR sg j o) := fun i k j o => by unfold stopR; split <;> exact trivial
  intro n
  induction n with
  | zero => exact ⟨fun i _ => trivial, fun i _ _ _ _ => trivial, fun i _ => trivial⟩
  | succ n ih =>
    obtain ⟨ho, hi, hw⟩ := ih
    obtain ⟨oo, oi, ow⟩ := descent_ok w n
    refine ⟨fun i h => ?_, fun i cl ts hcl h => ?_, fun i h => ?_⟩
    · rw [operandS]
      split
      · simp only [szR, tsz]; omega
      · simp only [szR, tsz]; omega
      · rename_i e
        have l := w.lt e (by decide)
        have a := hi (i + 1) .rp [] (.inl rfl) l
        have b := oi (i + 1) .rp [] (.inl rfl) l
        rcases q : itemsS sg n (i + 1) .rp [] with ⟨t, j⟩ | st
        · rw [q] at a b; obtain ⟨b1, b2⟩ := b; simp only [szR, tssz, List.length_nil] at a ⊢; omega
        · exact trivial
      · rename_i e
        have l := w.lt e (by decide)
        split
        · simp only [szR, tsz]; omega
        · have a := hi (i + 1) .rb [] (.inr rfl) l
          have b := oi (i + 1) .rb [] (.inr rfl) l
          rcases q : itemsS sg n (i + 1) .rb [] with ⟨t, j⟩ | st
          · rw [q] at a b; obtain ⟨b1, b2⟩ := b; simp only [szR, tssz, List.length_nil] at a ⊢; omega
          · exact trivial
      · rename_i e
        have l := w.lt e (by decide)
        split
        · simp only [szR, tsz]; omega
        · have a := hw (i + 1) l
          have b := ow (i + 1) l
          rcases q : wholeS sg n (i + 1) with ⟨t, j⟩ | st
          · rw [q] at a b; obtain ⟨b1, b2⟩ := b; dsimp only; split
            · simp only [szR, tsz] at a ⊢; omega
            · exact stop _ _ _ _
          · exact trivial
      · rename_i e
        have l := w.lt e (by decide)
        have a := hw (i + 1) l
        have b := ow (i + 1) l
        rcases q : wholeS sg n (i + 1) with ⟨t, j⟩ | st
        · rw [q] at a b; obtain ⟨b1, b2⟩ := b; dsimp only; split
          · simp only [szR] at a ⊢; omega
          · exact stop _ _ _ _
        · exact trivial
      · exact trivial
    · rw [itemsS]
      have a := ho i h
      have b := oo i h
      rcases q : operandS sg n i with ⟨t, j⟩ | st
      · rw [q] at a b
        obtain ⟨b1, b2⟩ := b
        dsimp only
        split
        · rename_i e
          have l := w.lt e.1 (by decide)
          have a2 := ho (j + 1) l
          have bb := oo (j + 1) l
          rcases q2 : operandS sg n (j + 1) with ⟨r, k⟩ | st
          · rw [q2] at a2 bb; obtain ⟨c1, c2⟩ := bb; dsimp only; split
            · simp only [szR, dots_sz, tssz_app, tssz, List.length_append, List.length_cons, List.length_nil] at a a2 ⊢; omega
            · exact stop _ _ _ _
          · exact trivial
        · split
          · unfold build
            split
            · simp only [szR, tsz, tssz_app, tssz] at a ⊢; omega
            · simp only [szR, dots_sz, tsz, tssz_app, tssz, List.length_append, List.length_cons, List.length_nil] at a ⊢; omega
          · split
            · rename_i e
              have l := w.lt e (by decide)
              have a2 := hi (j + 1) cl (ts ++ [t]) hcl l
              have bb := oi (j + 1) cl (ts ++ [t]) hcl l
              rcases q2 : itemsS sg n (j + 1) cl (ts ++ [t]) with ⟨r, k⟩ | st
              · rw [q2] at a2 bb; obtain ⟨c1, c2⟩ := bb
                simp only [szR, tssz_app, tssz, List.length_append, List.length_cons, List.length_nil] at a a2 ⊢; omega
              · exact trivial
            · exact stop _ _ _ _
      · exact trivial
    · rw [wholeS]
      have a := ho i h
      have b := oo i h
      rcases q : operandS sg n i with ⟨t, j⟩ | st
      · rw [q] at a b
        obtain ⟨b1, b2⟩ := b
        dsimp only
        split
        · rename_i e
          have l := w.lt e (by decide)
          have a2 := hw (j + 1) l
          have bb := ow (j + 1) l
          rcases q2 : wholeS sg n (j + 1) with ⟨r, k⟩ | st
          · rw [q2] at a2 bb; obtain ⟨c1, c2⟩ := bb; simp only [szR, tsz] at a a2 ⊢; omega
          · exact trivial
        · exact a
      · exact trivial
open PySem.SeqAt in
theorem tup_rc {A : Around} {s : Shared} {a b : Addr} {xs ys : List Value} (hl : IsTup s.heap a xs.toArray) (hb : IsTup s.heap b ys.toArray) (hu : A.units < cLine) (hlen : xs.length = ys.length) (he : ∀ (j : Nat) (x y : Value), xs[j]? = some x → ys[j]? = some y → EqAt A.in1 s x y true) : RcAt A s (.ref a) (.ref b) true := by
  have z := RcAt.tuples (A := A) (s := s) (l := a) (b := b) (items := xs.toArray) (items2 := ys.toArray) (e := fun _ => true) (by obtain ⟨o, p, q, n, d⟩ := hl; exact ⟨o, p, q, n, d⟩) (by obtain ⟨o, p, q, n, d⟩ := hb; exact ⟨o, p, q, n, d⟩) hu (fun j h1 h2 => he j _ _ (by simp at h1 ⊢) (by simp at h2 ⊢))
  have e : ((List.range (min xs.toArray.size ys.toArray.size)).all (fun _ => true) && xs.toArray.size == ys.toArray.size) = true := by simp [hlen]
  rw [e] at z
  exact z
open PySem.SeqAt in
theorem eq_of_rc {A : Around} {s : Shared} {a b : Addr} (h : RcAt A s (.ref a) (.ref b) true) : EqAt A s (.ref a) (.ref b) true := by
  by_cases e : a = b
  · subst e; exact EqAt.same _
  · exact EqAt.of_refs e h
open PySem.SeqAt in
theorem pair_eq {A : Around} {s : Shared} {k1 k2 : Str} {t1 t2 : Tok} {x y : Value} (e : k1 = k2) (h : EqAt A s x y true) : ∀ (j : Nat) (u v : Value), [Value.str k1 t1, x][j]? = some u → [Value.str k2 t2, y][j]? = some v → EqAt A s u v true := by
  intro j u v hu hv
  match j, hu, hv with
  | 0, hu, hv =>
    simp only [List.getElem?_cons_zero, Option.some.injEq] at hu hv
    subst hu; subst hv; subst e
    have := EqAt.str_str (A := A) (s := s) k1 t1 k1 t2
    rwa [beq_self_eq_true] at this
  | 1, hu, hv =>
    simp only [List.getElem?_cons_succ, List.getElem?_cons_zero, Option.some.injEq] at hu hv
    subst hu; subst hv; exact h
  | j + 2, hu, _ => simp at hu
open PySem.SeqAt in
theorem trip_eq {A : Around} {s : Shared} {k1 k2 : Str} {t1 t2 t3 t4 : Tok} {n m : Int} {x y : Value} (e : k1 = k2) (e2 : n = m) (h : EqAt A s x y true) : ∀ (j : Nat) (u v : Value), [Value.str k1 t1, .int n t3, x][j]? = some u → [Value.str k2 t2, .int m t4, y][j]? = some v → EqAt A s u v true := by
  intro j u v hu hv
  match j, hu, hv with
  | 0, hu, hv =>
    simp only [List.getElem?_cons_zero, Option.some.injEq] at hu hv
    subst hu; subst hv; subst e
    have := EqAt.str_str (A := A) (s := s) k1 t1 k1 t2
    rwa [beq_self_eq_true] at this
  | 1, hu, hv =>
    simp only [List.getElem?_cons_succ, List.getElem?_cons_zero, Option.some.injEq] at hu hv
    subst hu; subst hv; subst e2
    have := EqAt.int_int (A := A) (s := s) n t3 n t4
    rwa [beq_self_eq_true] at this
  | 2, hu, hv =>
    simp only [List.getElem?_cons_succ, List.getElem?_cons_zero, Option.some.injEq] at hu hv
    subst hu; subst hv; exact h
  | j + 3, hu, _ => simp at hu
open PySem.SeqAt in
theorem int_eq {A : Around} {s : Shared} {n m : Int} {t u : Tok} (e : n = m) : EqAt A s (.int n t) (.int m u) true := by
  subst e
  have := EqAt.int_int (A := A) (s := s) n t n u
  rwa [beq_self_eq_true] at this
open PySem.SeqAt in
/-- two values of the same term are equal -/
def TermRc (tx : List Str) (fs : List (Int × Int)) (t : T) : Prop := ∀ (A : Around) (s : Shared) (v1 v2 : Value), TermAt tx fs s.heap t v1 → TermAt tx fs s.heap t v2 → A.units + 2 * tsz t < cLine → ∃ a b, v1 = .ref a ∧ v2 = .ref b ∧ RcAt A s (.ref a) (.ref b) true
open PySem.SeqAt in
theorem TermRc.eq {tx : List Str} {fs : List (Int × Int)} {t : T} (h : TermRc tx fs t) {A : Around} {s : Shared} {v1 v2 : Value} (x : TermAt tx fs s.heap t v1) (y : TermAt tx fs s.heap t v2) (hu : A.units + 2 * tsz t < cLine) : EqAt A s v1 v2 true := by
  obtain ⟨a, b, rfl, rfl, r⟩ := h A s v1 v2 x y hu
  exact eq_of_rc r
open PySem.SeqAt in
mutual
theorem term_rc {tx : List Str} {fs : List (Int × Int)} (hx : tx.Nodup) (hf : fs.Nodup) : ∀ t : T, TermRc tx fs t
  | .a => fun A s v1 v2 x y hu => by
    rw [TermAt] at x y
    simp only [tsz] at hu
    obtain ⟨n, r, k1, k2, rfl, h1, h2⟩ := x
    obtain ⟨n', r', k1', k2', rfl, h1', h2'⟩ := y
    obtain rfl := nodup_get hx h2 h2'
    exact ⟨_, _, rfl, rfl, tup_rc h1 h1' (by omega) rfl (pair_eq rfl (int_eq rfl))⟩
  | .seven => fun A s v1 v2 x y hu => by
    rw [TermAt] at x y
    simp only [tsz] at hu
    obtain ⟨r, k1, k2, rfl, h1⟩ := x
    obtain ⟨r', k1', k2', rfl, h1'⟩ := y
    exact ⟨_, _, rfl, rfl, tup_rc h1 h1' (by omega) rfl (pair_eq rfl (int_eq rfl))⟩
  | .nil => fun A s v1 v2 x y hu => by
    rw [TermAt] at x y
    simp only [tsz] at hu
    obtain ⟨r, k1, k2, rfl, h1⟩ := x
    obtain ⟨r', k1', k2', rfl, h1'⟩ := y
    exact ⟨_, _, rfl, rfl, tup_rc h1 h1' (by omega) rfl (pair_eq rfl (int_eq rfl))⟩
  | .curl => fun A s v1 v2 x y hu => by
    rw [TermAt] at x y
    simp only [tsz] at hu
    obtain ⟨r, k1, k2, rfl, h1⟩ := x
    obtain ⟨r', k1', k2', rfl, h1'⟩ := y
    exact ⟨_, _, rfl, rfl, tup_rc h1 h1' (by omega) rfl (pair_eq rfl (int_eq rfl))⟩
  | .f ts => fun A s v1 v2 x y hu => by
    rw [TermAt] at x y
    simp only [tsz] at hu
    obtain ⟨n, j, r, q, k1, k2, vs, rfl, h1, h2, h3, h4, h5⟩ := x
    obtain ⟨n', j', r', q', k1', k2', vs', rfl, h1', h2', h3', h4', h5'⟩ := y
    obtain rfl := nodup_get hx h4 h4'
    obtain rfl := nodup_get hf h3 h3'
    have hu2 : (A.in1).units + 2 * tssz ts + 1 < cLine := by rw [units_in1]; omega
    refine ⟨_, _, rfl, rfl, tup_rc h1 h1' (by omega) rfl (trip_eq rfl rfl (eq_of_rc (tup_rc h2 h2' (by rw [units_in1]; omega) (by rw [h5.length, h5'.length]) (terms_rc hx hf ts (A.in1.in1) s vs vs' h5 h5' (by rw [units_in1]; omega)))))⟩
  | .dot t u => fun A s v1 v2 x y hu => by
    rw [TermAt] at x y
    simp only [tsz] at hu
    obtain ⟨r, q, k1, k2, a, b, rfl, h1, h2, h3, h4⟩ := x
    obtain ⟨r', q', k1', k2', a', b', rfl, h1', h2', h3', h4'⟩ := y
    refine ⟨_, _, rfl, rfl, tup_rc h1 h1' (by omega) rfl (trip_eq rfl rfl (eq_of_rc (tup_rc h2 h2' (by rw [units_in1]; omega) rfl fun j p p' e e' => ?_)))⟩
    have c1 := TermRc.eq (term_rc hx hf t) (A := A.in1.in1) h3 h3' (by rw [units_in1, units_in1]; have := tsz_pos u; omega)
    have c2 := TermRc.eq (term_rc hx hf u) (A := A.in1.in1) h4 h4' (by rw [units_in1, units_in1]; have := tsz_pos t; omega)
    match j, e, e' with
    | 0, e, e' => simp only [List.getElem?_cons_zero, Option.some.injEq] at e e'; subst e; subst e'; exact c1
    | 1, e, e' => simp only [List.getElem?_cons_succ, List.getElem?_cons_zero, Option.some.injEq] at e e'; subst e; subst e'; exact c2
    | j + 2, e, _ => simp at e
  | .comma t u => fun A s v1 v2 x y hu => by
    rw [TermAt] at x y
    simp only [tsz] at hu
    obtain ⟨r, q, k1, k2, a, b, rfl, h1, h2, h3, h4⟩ := x
    obtain ⟨r', q', k1', k2', a', b', rfl, h1', h2', h3', h4'⟩ := y
    refine ⟨_, _, rfl, rfl, tup_rc h1 h1' (by omega) rfl (trip_eq rfl rfl (eq_of_rc (tup_rc h2 h2' (by rw [units_in1]; omega) rfl fun j p p' e e' => ?_)))⟩
    have c1 := TermRc.eq (term_rc hx hf t) (A := A.in1.in1) h3 h3' (by rw [units_in1, units_in1]; have := tsz_pos u; omega)
    have c2 := TermRc.eq (term_rc hx hf u) (A := A.in1.in1) h4 h4' (by rw [units_in1, units_in1]; have := tsz_pos t; omega)
    match j, e, e' with
    | 0, e, e' => simp only [List.getElem?_cons_zero, Option.some.injEq] at e e'; subst e; subst e'; exact c1
    | 1, e, e' => simp only [List.getElem?_cons_succ, List.getElem?_cons_zero, Option.some.injEq] at e e'; subst e; subst e'; exact c2
    | j + 2, e, _ => simp at e
  | .brace t => fun A s v1 v2 x y hu => by
    rw [TermAt] at x y
    simp only [tsz] at hu
    obtain ⟨r, q, k1, k2, a, rfl, h1, h2, h3⟩ := x
    obtain ⟨r', q', k1', k2', a', rfl, h1', h2', h3'⟩ := y
    refine ⟨_, _, rfl, rfl, tup_rc h1 h1' (by omega) rfl (trip_eq rfl rfl (eq_of_rc (tup_rc h2 h2' (by rw [units_in1]; omega) rfl fun j p p' e e' => ?_)))⟩
    have c1 := TermRc.eq (term_rc hx hf t) (A := A.in1.in1) h3 h3' (by rw [units_in1, units_in1]; omega)
    match j, e, e' with
    | 0, e, e' => simp only [List.getElem?_cons_zero, Option.some.injEq] at e e'; subst e; subst e'; exact c1
    | j + 1, e, _ => simp at e
theorem terms_rc {tx : List Str} {fs : List (Int × Int)} (hx : tx.Nodup) (hf : fs.Nodup) : ∀ (ts : List T) (A : Around) (s : Shared) (vs vs' : List Value), TermsAt tx fs s.heap ts vs → TermsAt tx fs s.heap ts vs' → A.units + 2 * tssz ts < cLine → ∀ (j : Nat) (x y : Value), vs[j]? = some x → vs'[j]? = some y → EqAt A s x y true
  | [], A, s, vs, vs', x, y, hu, j, a, b, e, e' => by rw [TermsAt] at x; subst x; simp at e
  | t :: ts, A, s, vs, vs', x, y, hu, j, a, b, e, e' => by
    rw [TermsAt] at x y
    simp only [tssz] at hu
    obtain ⟨v, rest, rfl, h1, h2⟩ := x
    obtain ⟨v', rest', rfl, h1', h2'⟩ := y
    match j, e, e' with
    | 0, e, e' =>
      simp only [List.getElem?_cons_zero, Option.some.injEq] at e e'
      subst e; subst e'
      exact TermRc.eq (term_rc hx hf t) h1 h1' (by omega)
    | j + 1, e, e' =>
      simp only [List.getElem?_cons_succ] at e e'
      exact terms_rc hx hf ts A s rest rest' h2 h2' (by omega) j a b e e'
end

theorem fr_keepU {g h h' : Heap} {L : Addr} {m : Str → Option Value} {ms : List Addr} (F : Fr g L h m) (k : KeepU ms h h') (hL : L ∉ ms) (st : g.StaysIn h') : Fr g L h' m := by
  obtain ⟨oL, es, ep, hL', hd, r⟩ := F.ns
  obtain ⟨sl, q⟩ := k L oL hL' hL (fun vs e => by rw [hd] at e; cases e)
  exact ⟨⟨_, es, ep, q, hd, r⟩, st, F.above⟩
theorem tick73 {prog : Program} {w : World} {A : Around} {E : Value → Shared → Prop} {s : Shared} {env : Env} {Q : Flow → Shared → Prop} (h : Q .next s) : wpAny (model prog w) A (execs [] env) Q E s := by
  first | (walk1; exact h) | exact wpAny_execs_nil h
section
variable {w : World} {A₀ : Around} {E : Value → Shared → Prop} {s' : Shared} {g h : Heap} {outer : List Env} {L a e dx : Addr} {m mg mb : Str → Option Value} {name : Str} {scope : Scope} {cd : Value} {P : Params} {ms : List Addr} {p : Program} {loose : List Str} {mean : ExcName → Option Value} {xn n : Str} {np pos : Pos} {b₀ : Stmt} {suite : List Stmt} {rest : List ExceptHandler} {Q : Flow → Shared → Prop}
/-- the fault is caught under a name -/
theorem caught_fault (K : Below A₀ g outer g) (F : Fr g L h m) (X : (Mine.hd.heap_39 P).In g) (T : Top p loose mean mg mb g) (hL : L ∉ ms) (x : Fly g (envOf name scope L a cd :: outer) e dx .none s'.heap) (ku : KeepU ms h s'.heap)
    (ex : nsIn (Mine.hd.heap_39 P) mainGlobals xn = some (some (.ref 51)))
    (k : ∀ h' tk, Fr g L h' (fun y => if y = n then some (.ref e) else m y) → (∃ oe vs, h'.get? e = some oe ∧ oe.cls = .ref 51 ∧ oe.dict = some dx ∧ oe.data = .fields vs) → g.get? e = none → KeepU (L :: ms) h h' → KeepU [L] s'.heap h' →
      wpAny (model PR w) ((A₀.deeper (envOf name scope L a cd)).mark (some (.ref e))) (execs (b₀ :: suite) (envOf name scope L a cd))
        (fun f s₄ => wpAny (model PR w) (A₀.deeper (envOf name scope L a cd)) (do bindName (envOf name scope L a cd) n .none; unbindBehindTheSuite (envOf name scope L a cd) n pos) (fun _ s₅ => Q f s₅) E s₄)
        (AsSuiteRaised (model PR w) ((A₀.deeper (envOf name scope L a cd)).mark (some (.ref e))) (envOf name scope L a cd) n pos (notedBy (model PR w) ((A₀.deeper (envOf name scope L a cd)).mark (some (.ref e))) (envOf name scope L a cd) (cameBackBy (model PR w) (A₀.deeper (envOf name scope L a cd)) (envOf name scope L a cd) E)))
        { s' with heap := h', toks := tk })
    (hk : scope.kind = .function := by rfl) (hlo : (envOf name scope L a cd).kindOf n = some .local := by rfl) (hx : (envOf name scope L a cd).kindOf xn = some .globalImplicit := by rfl) (hd : (xn == ("__debug__" : Str)) = false := by decide) :
    wpAny (model PR w) (A₀.deeper (envOf name scope L a cd)) (noteFrame (.ref e) (envOf name scope L a cd))
      (fun _ s₂ => wpAny (model PR w) (A₀.deeper (envOf name scope L a cd)) (setFlight (.ref e) none) (fun _ s₃ =>
        wpAny (model PR w) (A₀.deeper (envOf name scope L a cd)) (handleBy (.ref e) (envOf name scope L a cd) (.ExceptHandler (some (.Name xn np)) (some n) (b₀ :: suite) pos :: rest)) Q E s₃) E s₂) E s' := by
  refine fly_note (Around.frames_deeper K.stack) rfl x fun h₄ x4 u4 => ?_
  refine fly_set (s := { s' with heap := h₄ }) (fr := none) x4 fun h₅ x5 u5 => ?_
  have F₅ := fr_keepU F ((ku.post u4).post u5) hL x5.stays
  have x5' := x5
  obtain ⟨f1, f2, f3, oe, vs, T', oT, ts, he, hc, hdx, hdd, h1, hnT, hTe, hT, hdT, h3⟩ := x5'
  refine wpAny_handleBy_cons (codeAny_handlers_test (name_K F₅ X (topRead_of T) ex ?_ hk hx hd)) (by intro q; cases q)
  obtain ⟨nm, q, bs, hdct, sn, sub, ab, col, dd, k0, k1, k2, k3, k5, newId, hC⟩ := clsObj (X.keeps F₅.keep)
  refine wpAny_excMatches_sub_self hC he hc (by decide) (codeAny_handlers_suite_as ?_)
  refine fly_set (s := { s' with heap := h₅ }) (fr := none) x5 fun h₆ x6 u6 => ?_
  have F₆ := fr_keepU F (((ku.post u4).post u5).post u6) hL x6.stays
  obtain ⟨_, _, _, oe6, vs6, _, _, _, he6, hc6, hdx6, hdd6, _⟩ := x6
  have hLe : L ≠ e := fun q => by
    obtain ⟨oL, es, ep, hL', hdL, _⟩ := F₆.ns
    rw [q, he6] at hL'
    cases hL'
    rw [hdL] at hdd6
    cases hdd6
  refine wpAny_storeName_local hlo F₆.ns (fun h₇ hn hs => ?_) (by show (scope.kind == .class || (scope.kind == .module && L != mainGlobals)) = false; rw [hk]; rfl)
  have hs7 : ∀ b o, b ≠ L → h₆.get? b = some o → h₇.get? b = some o := fun b o hb e => (hs.2 b hb).trans e
  have kU : ∀ {ms : List Addr} {h : Heap}, KeepU ms h h₆ → KeepU (L :: ms) h h₇ := fun kk b o e nb q => by
    obtain ⟨sl, z⟩ := kk b o e (fun y => nb (.tail _ y)) q
    exact ⟨sl, hs7 b _ (fun y => nb (y ▸ .head _)) z⟩
  exact k h₇ _ (F₆.set hn hs) ⟨oe6, vs6, hs7 e _ (Ne.symm hLe) he6, hc6, hdx6, hdd6⟩ f2 (kU (((ku.post u4).post u5).post u6)) (kU (ms := []) (fun b o e _ q => by
    obtain ⟨sl, z⟩ := u4 b o e q
    obtain ⟨sl2, z2⟩ := u5 b _ z q
    exact u6 b { o with slots := sl2 } z2 q))
end

theorem look_ns {od : Obj} {mA : Str → Option Value} {ns : List Str} {name : Str} {v : Value} (D : NsObj od mA ns) (e : mA name = some v) : lookIn name od = some (some v) := by
  obtain ⟨es, ep, hd, sk, uk, hf⟩ := D.data
  have z := hf name
  rw [e] at z
  unfold lookIn
  rw [hd]
  dsimp only
  unfold nsFind findBy at z
  rw [← Array.find?_toList] at z
  obtain ⟨y, hy, rfl⟩ := Option.map_eq_some_iff.mp z
  rw [hy]
theorem tick74 {prog : Program} {w : World} {A : Around} {E : Value → Shared → Prop} {s : Shared} {env : Env} {Q : Flow → Shared → Prop} (h : Q .next s) : wpAny (model prog w) A (execs [] env) Q E s := by
  first | (walk1; exact h) | exact wpAny_execs_nil h
section
variable {prog : Program} {w : World} {A : Around} {E : Value → Shared → Prop} {s : Shared} {K : Frag} {x : Addr} {ox od : Obj} {mA : Str → Option Value} {ns : List Str} {name : Str} {v : Value} {attr : Option Value} {expr : Bool} {Q : Value → Shared → Prop}
/-- an attribute of the exception, read from its dict of names -/
theorem get_exc (X : K.In s.heap) (I : InstAt s.heap x ox 51 (some od)) (D : NsObj od mA ns) (e : mA name = some v)
    (hga : findIn K (.ref 51) "__getattribute__" = some (some (.builtin "BaseException.__getattribute__"))) (hgt : findIn K (.ref 51) "__getattr__" = some none) (hb : mroIn K 51 (.type "BaseException") = some true)
    (hh : hasDictIn K 51 = true) (ha : findIn K (.ref 51) name = some attr) (hn : noGet K attr = true) (hv : handedIn v = true)
    (h : Q v { s with toks := s.toks + 1 }) : wpAny (model prog w) A (getAttr (.ref x) name expr) Q E s := by
  obtain ⟨hh', g, d, t, os⟩ := s
  have hf := findObj_own hh ha hn (look_ns D e)
  have L0 := I.type (M := model prog w)
  have L1 := looks_findIn (M := model prog w) X hga
  have L2 := looks_findIn (M := model prog w) X hgt
  have L3 := looks_find (M := model prog w) X I hf
  have f3 := PySem.F.attr_Exception.ga.bind (.ref x)
  have hx0 : (expr && onTheHeap (Value.builtin "BaseException.__getattribute__")) = false := by cases expr <;> rfl
  have hx2 : (Value.builtin "BaseException.__getattribute__" == Value.builtin "object.__getattribute__") = false := by decide +kernel
  have hx1 : (onTheHeap (Value.ref 51) && Value.builtin "BaseException.__getattribute__" == Value.builtin "object.__getattribute__") = false := by rw [hx2]; rfl
  have sub : Looks (model prog w) hh' (isInstance (.ref x) (.type "BaseException")) true := L0.andThen (looks_mroIn X hb)
  unfold getAttr getAttrBy
  refine wpAny_bind (wpAny_mkText (wpAny_holding (wpAny_bind (L0.at (wpAny_bind (L1.at ?_))))))
  dsimp only
  rw [if_neg (by rw [hx1]; exact Bool.false_ne_true)]
  unfold getAttrByItsOwn hookBefore
  refine wpAny_bind (L2.at (wpAny_bind (wpAny_attempt (wpAny_holding ?_))))
  unfold callGetattribute
  rw [if_neg (by rw [hx0]; exact Bool.false_ne_true)]
  unfold boundAndCalled
  rw [f3]
  refine wpAny_bind (wpAny_pure (wpAny_call (codeAny_call_builtin PySem.F.attr_Exception.ga.plain PySem.F.entry_bexc_ga (@check_slot (model prog w) _ _ _ "BaseException.__getattribute__" "BaseException" "__getattribute__" (.ref x) [.str name t] [] _ (by decide +kernel) (by decide +kernel) sub (PySem.F.args_bexc_ga (.ref x) (.str name t)) ?_))))
  refine wpAny_bind (wpAny_pure (wpAny_bind (wpAny_pure (wpAny_bind (L0.at (wpAny_bind (L3.at ?_)))))))
  refine wpAny_pure ?_
  show wpAny _ _ (handedOut v) _ _ _
  rw [handedOut_of hv]; exact wpAny_pure h
end

theorem tick75 {prog : Program} {w : World} {A : Around} {E : Value → Shared → Prop} {s : Shared} {env : Env} {Q : Flow → Shared → Prop} (h : Q .next s) : wpAny (model prog w) A (execs [] env) Q E s := by
  first | (walk1; exact h) | exact wpAny_execs_nil h
section
local macro_rules | `(tactic| walk_at "compareOp In str ref") => `(tactic| (k_here; (with_reducible show wpAny _ _ (compareOp CmpOp.In (Value.str _ _) (Value.ref _)) _ _ _); (with_unfolding_all refine' in_tuple_strs ?k1 ?k2 ?_; (case k1 => first | walk_at "m tupC" | exact Fr.tup (by assumption) (Fr.tup (by assumption) (Fr.tup (by assumption) (Fr.tup (by assumption) (by assumption))))); (case k2 => kde_strs); k_whole)))
set_option maxHeartbeats 8000000 in
theorem does_table (w : World) (β : BA) : Does w 286 12 [.ref β.b, .bool false] [] (fun _ => True)
    (fun h h' r => ∃ (o : Nat) (ω : OA), r = .ref o ∧ Has h' (OL w.params β o ω) ∧ OOk w ω ∧ IsTup h' ω.ct [.int 1000 ω.t1, .str (Str.ofString "xfy") ω.t2].toArray ∧ (ω.od < o ∧ o < ω.pf ∧ ω.pf < ω.nf ∧ ω.nf < ω.qf) ∧ ∀ p ∈ OL w.params β o ω, h.get? p.1 = none) := by
  walk_at "m fill"
  intro p loose mean mg mb A env outer A₀ base h₀ L m s Q E B F X N T hA hf hk hd hu hh hpre hret
  obtain ⟨ah, dp, fr, gd, un⟩ := A
  obtain rfl : fr = some (env :: outer) := hA
  obtain rfl : ah = none := hh
  replace hd : dp + _ < recursionLimit := hd
  replace hu : un + _ < cLine := hu
  k_dflt (refine' call_clsD ?k1 ?k2 ?k3 ?k4 ?k5 ?k6 ?_; (case k1 => k_asm); (case k2 => k_asm); (case k3 => k_asm); (case k4 => k_is); (case k5 => k_is); (case k6 => k_is); k_whole)
  intro x d h' F' N' l1 l2 hkc hxn hdn
  (try k_lt l1)
  (try k_lt2 l2)
  k_sweep
  k_dflt (refine' enterD (binds := [(Str.ofString "self", .ref x), (Str.ofString "symbols", .ref β.b), (Str.ofString "standard", .bool false)]) ?k1 ?k2 ?k3 ?k4 ?k5 ?kA ?kF ?kK ?k6 ?k7 ?k8 ?k9 ?kB ?_ ?c2 ?c3 ?c4 ?c5; (case kA => walk_at "m frames"); (case kF => first | assumption | exact rfl); (case kK => first | assumption | exact rfl); (case k1 => k_asm); (case k2 => k_asm); (case k3 => k_asm); (case k4 => k_asm); (case k5 => k_asm); (case k6 => k_is); (case k7 => k_is); (case k8 => walk_at "m room"); (case k9 => first | exact BindsTo.of_eq rfl | exact binds_K (by k_in) rfl (by k_is) rfl rfl rfl); (case c5 => decide); (case kB => exact locs rfl); (case c2 => exact rfl); (case c3 => exact rfl); (case c4 => exact rfl); k_whole)
  intro g L' h₁ F' N' B' X' T' hg hgs
  k_fold
  obtain ⟨a1, a2, ht1⟩ : ∃ a b, IsTup g 196 [.str (Str.ofString "fx") a, .str (Str.ofString "fy") b].toArray := ⟨_, _, _, X' 196 _ rfl, rfl, _, rfl⟩
  obtain ⟨b1, b2, b3, ht2⟩ : ∃ a b c, IsTup g 197 [.str (Str.ofString "xfx") a, .str (Str.ofString "xfy") b, .str (Str.ofString "yfx") c].toArray := ⟨_, _, _, _, X' 197 _ rfl, rfl, _, rfl⟩
  k_steps
  refine ⟨rfl, ?_⟩
  show Q _ _
  have hno : ∀ b o, s.heap.get? b = some o → g.get? b = some o := fun b o e => hg b o (hkc b o e) (fun q => by
    simp only [List.map_cons, List.map_nil, List.mem_cons, List.mem_nil_iff, or_false] at q
    rcases q with rfl | rfl
    · rw [hxn] at e; cases e
    · rw [hdn] at e; cases e)
  rename News g L' _ _ => N9
  rename Fr g L' _ _ => F9
  refine' hret _ _ _ (fun b o e _ => Fr.keep F9 b o (hno b o e)) ⟨x, ⟨d, _, _, _, _, _, _, _, _, _, _, _, _, _⟩, rfl, ?has, ⟨?d1, ?d2, ?d3, ?lo⟩, ?ct, ?ord, ?fr⟩
  case has => walk_at "m has"
  case d2 => assumption
  case d1 => assumption
  case d3 => assumption
  case lo => exact ⟨by assumption, by assumption, by assumption⟩
  case ct => exact News.isTup N9 (by k_mem)
  case ord => refine ⟨?_, ?_, ?_, ?_⟩ <;> (dsimp only; omega)
  case fr =>
    have key : ∀ {a : Addr}, g.get? a = none → s.heap.get? a = none := fun {a} e => by
      cases q : s.heap.get? a with
      | none => rfl
      | some o => rw [hno _ _ q] at e; cases e
    intro p hp
    simp only [OL, List.mem_cons, List.mem_nil_iff, or_false] at hp
    rcases hp with rfl | rfl | rfl | rfl | rfl <;> exact key (News.fresh N9 (by k_mem))
end

/-- an own class is called: what stood before stands, below what is new -/
theorem call_clsE {prog : Program} {w : World} {A : Around} {E : Value → Shared → Prop} {s : Shared} {K : Frag} {L C : Addr} {h₀ : Heap} {m : Str → Option Value} {news : List (Addr × Obj)} {Q : Value → Shared → Prop} {pos : List Value} {kw : List (Str × Value)} {fI : Addr}
    (F : Fr h₀ L s.heap m) (X₀ : K.In h₀) (N : News h₀ L s.heap news) (hm : makesIn K C = true) (hi : findIn K (.ref C) "__init__" = some (some (.ref fI))) (hf : isFn K (.ref fI) = true)
    (h : ∀ x dx h', Fr h₀ L h' m → News h₀ L h' ((x, instObj C dx) :: (dx, dictOf [] 0) :: news) → (∀ p ∈ news, p.1 < dx) → dx < x → (∀ b o, s.heap.get? b = some o → h'.get? b = some o) → s.heap.get? x = none → s.heap.get? dx = none → (∀ b o, s.heap.get? b = some o → @LT.lt Nat _ b dx) →
      codeAny (model prog w) (A.under (.builtin "type.__call__" ⟨.ref C :: pos, kw⟩)) (.call (.ref fI) ⟨.ref x :: pos, kw⟩) (InitBack x fun r s' => match r with | .ok (.ret v) => Q v s' | .ok _ => False | .error e => E e s') { s with heap := h' }) :
    wpAny (model prog w) A (call (.ref C) pos kw) Q E s := wpAny_call (by
  obtain ⟨hh, g, d, t, os⟩ := s
  have X := X₀.keeps F.keep
  refine make_core (makes_of X hm) (looks_findIn X hi) (fun self => bind_fn X self (beq_iff_eq.mp hf)) (.inl rfl) (h _ hh.objs.size _ ((F.push _).push _) ?_ (fun p hp => Heap.lt_size (N p hp).1) (Nat.lt_succ_self _) (fun b o e => Heap.get?_push_of_some _ (Heap.get?_push_of_some _ e)) (Heap.get?_none_of_le (Nat.le_succ _)) (Heap.get?_none_of_le (Nat.le_refl _)) fun b o e => Heap.lt_size e)
  have := (N.push F emptyDict).push (F.push _) (instObj C hh.objs.size)
  rwa [Heap.size_push] at this)
theorem tick76 {prog : Program} {w : World} {A : Around} {E : Value → Shared → Prop} {s : Shared} {env : Env} {Q : Flow → Shared → Prop} (h : Q .next s) : wpAny (model prog w) A (execs [] env) Q E s := by
  first | (walk1; exact h) | exact wpAny_execs_nil h
section
set_option maxHeartbeats 8000000 in
theorem does_new (w : World) (β : BA) (o tl : Nat) (km : Tok) : Does w 517 9 [.ref β.b, .ref o, .str (Str.ofString "codes") km, .ref tl] [] (fun _ => True)
    (fun h h' r => ∃ (π : PA) (kp kl kr : Tok) (nf : Nat), r = .ref π.p ∧ π.o = o ∧ π.tl = tl ∧ Has h' (PL w.params β π 0 kp 1200 kl .none 0 kr ++ [(π.fl, listOf [].toArray nf)]) ∧ (π.pd < π.p ∧ π.p < π.fl) ∧ (∀ p ∈ PL w.params β π 0 kp 1200 kl .none 0 kr ++ [(π.fl, listOf [].toArray nf)], h.get? p.1 = none) ∧ ∀ b ob, h.get? b = some ob → @LT.lt Nat _ b π.pd) := by
  walk_at "m fill"
  intro p loose mean mg mb A env outer A₀ base h₀ L m s Q E B F X N T hA hf hk hd hu hh hpre hret
  obtain ⟨ah, dp, fr, gd, un⟩ := A
  obtain rfl : fr = some (env :: outer) := hA
  obtain rfl : ah = none := hh
  replace hd : dp + _ < recursionLimit := hd
  replace hu : un + _ < cLine := hu
  k_dflt (refine' call_clsE ?k1 ?k2 ?k3 ?k4 ?k5 ?k6 ?_; (case k1 => k_asm); (case k2 => k_asm); (case k3 => k_asm); (case k4 => k_is); (case k5 => k_is); (case k6 => k_is); k_whole)
  intro x d h' F' N' l1 l2 hkc hxn hdn hlt9
  (try k_lt l1)
  (try k_lt2 l2)
  k_sweep
  k_dflt (refine' enterD (binds := [(Str.ofString "self", .ref x), (Str.ofString "symbols", .ref β.b), (Str.ofString "operators", .ref o), (Str.ofString "mode", .str (Str.ofString "codes") km), (Str.ofString "tokens", .ref tl)]) ?k1 ?k2 ?k3 ?k4 ?k5 ?kA ?kF ?kK ?k6 ?k7 ?k8 ?k9 ?kB ?_ ?c2 ?c3 ?c4 ?c5; (case kA => walk_at "m frames"); (case kF => first | assumption | exact rfl); (case kK => first | assumption | exact rfl); (case k1 => k_asm); (case k2 => k_asm); (case k3 => k_asm); (case k4 => k_asm); (case k5 => k_asm); (case k6 => k_is); (case k7 => k_is); (case k8 => walk_at "m room"); (case k9 => first | exact BindsTo.of_eq rfl | exact binds_K (by k_in) rfl (by k_is) rfl rfl rfl); (case c5 => decide); (case kB => exact locs rfl); (case c2 => exact rfl); (case c3 => exact rfl); (case c4 => exact rfl); k_whole)
  intro g L' h₁ F' N' B' X' T' hg hgs
  k_fold
  k_steps
  refine ⟨rfl, ?_⟩
  show Q _ _
  have hno : ∀ b o, s.heap.get? b = some o → g.get? b = some o := fun b o e => hg b o (hkc b o e) (fun q => by
    simp only [List.map_cons, List.map_nil, List.mem_cons, List.mem_nil_iff, or_false] at q
    rcases q with rfl | rfl
    · rw [hxn] at e; cases e
    · rw [hdn] at e; cases e)
  rename News g L' _ _ => N9
  rename Fr g L' _ _ => F9
  refine' hret _ _ _ (fun b o e _ => Fr.keep F9 b o (hno b o e)) ⟨⟨x, d, o, tl, _, _, _, _, _, _, _, _, _, _, _, _, _, _, _, _, _, _, _⟩, _, _, _, _, rfl, rfl, rfl, ?has, ?ord, ?fr, ?hs⟩
  case has => exact has_app (by walk_at "m has") (by walk_at "m has")
  case ord => refine ⟨?_, ?_⟩ <;> (dsimp only; omega)
  case hs => exact hlt9
  case fr =>
    have key : ∀ {a : Addr}, g.get? a = none → s.heap.get? a = none := fun {a} e => by
      cases q : s.heap.get? a with
      | none => rfl
      | some o => rw [hno _ _ q] at e; cases e
    intro p hp
    simp only [PL, List.cons_append, List.nil_append, List.mem_cons, List.mem_nil_iff, or_false] at hp
    rcases hp with rfl | rfl | rfl <;> exact key (News.fresh N9 (by k_mem))
end

/-- what is due -/
def DueAt (tx : List Str) (fs : List (Int × Int)) (h : Heap) : R → Value → Int → Prop
  | .inl (t, j), v, z => z = j ∧ TermAt tx fs h t v
  | .inr (k, j), v, z => z = -1 ∧ StopAt h v k (3 * j)
theorem DueAt.keep {tx : List Str} {fs : List (Int × Int)} {h h' : Heap} (k : KeepT h h') : ∀ {r : R} {v : Value} {z : Int}, DueAt tx fs h r v z → DueAt tx fs h' r v z
  | .inl (_, _), _, _, ⟨a, b⟩ => ⟨a, b.keep (List.prefix_refl _) (List.prefix_refl _) k⟩
  | .inr (_, _), _, _, ⟨a, st, k1, k2, e, b⟩ => ⟨a, st, k1, k2, e, k _ _ b (isTup_of _)⟩
theorem news_new {g h h' : Heap} {L : Addr} {m : Str → Option Value} {own X : List (Addr × Obj)} (F : Fr g L h m) (N : News g L h own) (K : Keep ([] : List Addr) h h') (hH : Has h' X) (hn : ∀ p ∈ X, h.get? p.1 = none) : News g L h' (X ++ own) := fun p hp => by
  rcases List.mem_append.mp hp with q | q
  · refine ⟨hH p q, fun e => ?_, ?_⟩
    · obtain ⟨oL, _, _, hL, _⟩ := F.ns
      have := hn p q
      rw [e, hL] at this
      cases this
    · cases z : g.get? p.1 with
      | none => rfl
      | some o => have := F.keep _ _ z; rw [hn p q] at this; cases this
  · exact ⟨K _ _ (N p q).1 List.not_mem_nil, (N p q).2⟩
theorem keep_off {ms : List (Addr × Obj)} {as : List Addr} {h h' : Heap} {a : Addr} {o : Obj} (K : Keep (ms.map (·.1)) h h') (e : ms.map (·.1) = as) (na : a ∉ as) (x : h.get? a = some o) : h'.get? a = some o := K a o x (by rw [e]; exact na)
theorem cmp_rc {prog : Program} {w : World} {A : Around} {E : Value → Shared → Prop} {s : Shared} {a b : Addr} {Q : Value → Shared → Prop} (h : PySem.SeqAt.RcAt A s (.ref a) (.ref b) true) (hq : Q (.bool true) s) : wpAny (model prog w) A (compareOp .Eq (.ref a) (.ref b)) Q E s := h prog w E Q hq
theorem term_cmp {A : Around} {s : Shared} {tx : List Str} {fs : List (Int × Int)} {t : T} {a b : Addr} (h : TermRc tx fs t) (x : TermAt tx fs s.heap t (.ref a)) (y : TermAt tx fs s.heap t (.ref b)) (hu : A.units + 2 * tsz t < cLine) : PySem.SeqAt.RcAt A s (.ref a) (.ref b) true := by
  obtain ⟨a', b', e1, e2, r⟩ := h A s _ _ x y hu
  injection e1 with e1; injection e2 with e2
  rw [e1, e2]; exact r
theorem lists_rc {A : Around} {s : Shared} {a b : Addr} {vs : List Value} (hl : s.heap.IsList a vs.toArray) (hb : s.heap.IsList b vs.toArray) (hu : A.units < cLine) : PySem.SeqAt.RcAt A s (.ref a) (.ref b) true := by
  have z := PySem.SeqAt.RcAt.lists (A := A) (s := s) (e := fun _ => true) hl hb rfl hu (fun j _ _ => PySem.SeqAt.EqAt.same _)
  rwa [show ((List.range vs.toArray.size).all fun _ => true) = true from by simp] at z
theorem tup_self {A : Around} {s : Shared} {a : Addr} {vs : List Value} (hl : IsTup s.heap a vs.toArray) (hu : A.units < cLine) : PySem.SeqAt.RcAt A s (.ref a) (.ref a) true :=
  tup_rc hl hl hu rfl fun j x y e e' => by rw [e] at e'; injection e' with e'; subst e'; exact PySem.SeqAt.EqAt.same _
theorem last_tok {sg : List Sg} (w : WF sg) {i : Nat} (h : sg[i]? = some .dot) : (toksOf sg 0).length = tpos sg i + 1 := by
  have hi := (List.getElem?_eq_some_iff.mp h).1
  have he : i + 1 = sg.length := by
    rcases Nat.lt_or_ge (i + 1) sg.length with q | q
    · exact absurd h (w.only i q)
    · omega
  have := tpos_succ h
  rw [if_neg (by decide), he] at this
  rw [← this, tpos, List.take_length]
theorem slice_all (vs : List Value) : (slicePick vs.toArray none none none).toList = vs := by rw [slicePick_all]
theorem news_book {g h h' : Heap} {L : Addr} {m : Str → Option Value} {P : Params} {β : BA} {c : BC} {own : List (Addr × Obj)} (F : Fr g L h m) (F' : Fr g L h' m) (N : News g L h own) (K : Keep ([] : List Addr) h h') (hH : Has h' (c.L P β)) (hn : ∀ p ∈ c.L P β, h.get? p.1 = none) :
    ∃ im, News g L h' (own ++ Rest P β c im) ∧ ImK g L h' im ∧ (∀ p ∈ im, isTup p.2) ∧ ∀ p ∈ own, p.1 ∉ (c.L P β).map (·.1) := by
  refine ⟨tupsAt g h', fun p hp => ?_, tups_imK F', fun p hp => (mem_tups.mp hp).2.1, fun p hp q => ?_⟩
  · rcases List.mem_append.mp hp with q | q
    · exact ⟨K _ _ (N p q).1 List.not_mem_nil, (N p q).2⟩
    · rw [rest_eq] at q
      rcases List.mem_append.mp q with q | q
      · refine ⟨hH p q, fun e => ?_, ?_⟩
        · obtain ⟨oL, _, _, hL, _⟩ := F.ns
          have := hn p q
          rw [e, hL] at this
          cases this
        · cases z : g.get? p.1 with
          | none => rfl
          | some o => have := F.keep _ _ z; rw [hn p q] at this; cases this
      · obtain ⟨a, b, c⟩ := mem_tups.mp q
        exact ⟨a, fun e => frame_noTup F' (e ▸ a) b, c⟩
  · obtain ⟨p', hp', e⟩ := List.mem_map.mp q
    have := hn p' hp'
    rw [show p'.1 = p.1 from e, (N p hp).1] at this
    cases this
def mLaw (sc sl tl : Addr) (b : Nat) (dv : Value) (bz : Int) (bk : Tok) : Str → Option Value := fun y => if y = Str.ofString "behind" then some (.int bz bk) else if y = Str.ofString "due" then some dv else if y = Str.ofString "book" then some (.ref b) else if y = Str.ofString "tokens" then some (.ref tl) else if y = Str.ofString "signs" then some (.ref sl) else List.lookup y [(Str.ofString "script", Value.ref sc)]
theorem mLaw_fr {g h : Heap} {L sc sl tl : Addr} {b : Nat} {dv : Value} {bz : Int} {bk : Tok} {m : Str → Option Value} (F : Fr g L h m) (h1 : m (Str.ofString "behind") = some (.int bz bk)) (h2 : m (Str.ofString "due") = some dv) (h3 : ∀ y, y ≠ Str.ofString "behind" → y ≠ Str.ofString "due" → m y = mLaw sc sl tl b dv bz bk y) : Fr g L h (mLaw sc sl tl b dv bz bk) := fr_congr F fun y => by
  by_cases e0 : y = Str.ofString "behind"
  · subst e0; rw [h1]; rfl
  by_cases e1 : y = Str.ofString "due"
  · subst e1; rw [h2]; rfl
  exact (h3 y e0 e1)
def mFor (sc sl tl : Addr) (b : Nat) (dv : Value) (bz : Int) (bk : Tok) (v1 v2 : Option Value) : Str → Option Value := fun y => if y = Str.ofString "closing" then v2 else if y = Str.ofString "token" then v1 else mLaw sc sl tl b dv bz bk y
theorem mFor_start {g h : Heap} {L sc sl tl : Addr} {b : Nat} {dv : Value} {bz : Int} {bk : Tok} (F : Fr g L h (mLaw sc sl tl b dv bz bk)) : Fr g L h (mFor sc sl tl b dv bz bk none none) := fr_congr F fun y => by
  unfold mFor
  by_cases e0 : y = Str.ofString "closing"
  · subst e0; rfl
  by_cases e1 : y = Str.ofString "token"
  · subst e1; rfl
  simp only [e0, e1, if_false]
theorem mFor_set {g h : Heap} {L sc sl tl : Addr} {b : Nat} {dv : Value} {bz : Int} {bk : Tok} {v1 v2 a c : Option Value} (F : Fr g L h (fun y => if y = Str.ofString "closing" then c else if y = Str.ofString "token" then a else mFor sc sl tl b dv bz bk v1 v2 y)) : Fr g L h (mFor sc sl tl b dv bz bk a c) := fr_congr F fun y => by
  unfold mFor
  by_cases e0 : y = Str.ofString "closing"
  · subst e0; rfl
  by_cases e1 : y = Str.ofString "token"
  · subst e1; rfl
  simp only [e0, e1, if_false]
theorem in_strs_int {prog : Program} {w : World} {A : Around} {E : Value → Shared → Prop} {s : Shared} {l : Addr} {items : List Value} {b : Int} {u : Tok} {Q : Value → Shared → Prop} (hl : IsTup s.heap l items.toArray) (hs : ∀ y ∈ items, ∃ a t, y = .str a t) (h : Q (.bool false) s) : wpAny (model prog w) A (compareOp .In (.int b u) (.ref l)) Q E s := by
  refine PySem.SeqAt.in_tupleAt (fun _ => false) (by obtain ⟨o, a, c, n, d⟩ := hl; exact ⟨o, a, c, n, d⟩) (fun y hy => ?_) (by rw [show (items.toArray.any fun _ => false) = false from by simp]; exact h)
  obtain ⟨a, t, rfl⟩ := hs y (by simpa using hy)
  exact PySem.SeqAt.EqAt.str_int a t b u
/-- a tuple that im holds -/
def TupK (g : Heap) (L : Addr) (im : List (Addr × Obj)) (q : Addr) (a : Array Value) : Prop := ∀ h m, Fr g L h m → Has h im → IsTup h q a
def TkK (g : Heap) (L : Addr) (im : List (Addr × Obj)) (q : Addr) (d : TK) (z : Int) : Prop := ∀ h m, Fr g L h m → Has h im → TupTk h q d z
theorem iterL_noTup {o : Obj} {l : Addr} {i : Nat} (h : IterL o l i) : ¬ isTup o := by
  rintro ⟨e, _⟩
  rw [h.1] at e
  exact absurd e (by decide)
theorem toks_pun : ∀ (l : List Sg) (k : Nat), ∀ d ∈ toksOf l k, d.1 ≠ .pun .dot
  | [], _, d, h => by simp [toksOf] at h
  | x :: l, k, d, h => by
    rw [toksOf] at h
    rcases List.mem_append.mp h with q | q
    · cases x <;> simp [tkOf] at q <;> first | (rcases q with q | q <;> (subst q; intro e; cases e)) | (subst q; intro e; cases e)
    · exact toks_pun l (k + 1) d q
abbrev clsAny (x : Str) : Bool := [Str.ofString ")", Str.ofString "]", Str.ofString "}", Str.ofString "."].any fun y => y == x
abbrev sepAny (x : Str) : Bool := [Str.ofString ",", Str.ofString "|"].any fun y => y == x
theorem tok_str (d : TK) (h : d ≠ .pun .dot) : d = .int7 ∨ ∃ xt, (∀ t, d.val t = .str xt t) ∧ cloT d = clsAny xt ∧ endT d = (clsAny xt || sepAny xt) := by
  cases d with
  | int7 => exact .inl rfl
  | namA => exact .inr ⟨_, fun _ => rfl, by decide +kernel, by decide +kernel⟩
  | namF => exact .inr ⟨_, fun _ => rfl, by decide +kernel, by decide +kernel⟩
  | opn => exact .inr ⟨_, fun _ => rfl, by decide +kernel, by decide +kernel⟩
  | opc => exact .inr ⟨_, fun _ => rfl, by decide +kernel, by decide +kernel⟩
  | fin => exact .inr ⟨_, fun _ => rfl, by decide +kernel, by decide +kernel⟩
  | pun x => cases x <;> first | exact absurd rfl h | exact .inr ⟨_, fun _ => rfl, by decide +kernel, by decide +kernel⟩
/-- in the handler -/
def ExcMark : Prop := True
theorem tick77 {prog : Program} {w : World} {A : Around} {E : Value → Shared → Prop} {s : Shared} {env : Env} {Q : Flow → Shared → Prop} (h : Q .next s) : wpAny (model prog w) A (execs [] env) Q E s := by
  first | (walk1; exact h) | exact wpAny_execs_nil h
section
local macro_rules | `(tactic| walk_at "eval Call") => `(tactic| (k_here; k_dflt (refine Call_ ?_)))
local macro_rules | `(tactic| walk_at "m tk") => `(tactic| exact (by assumption : TkK _ _ _ _ _ _) _ _ (by assumption) (fun p hp => ((by assumption : News _ _ _ _) p ((by walk_at "m tail" : ∀ p ∈ _, p ∈ _) p hp)).1))
local macro_rules | `(tactic| walk_at "subscriptTail Name Constant ref int") => `(tactic| (k_here; (with_reducible show wpAny _ _ (subscriptTail _ _ (Value.ref _) (Value.int _ _)) _ _ _); k_dflt (refine' item_tupleT ?k1 ?k2 ?k3 ?k4 ?k5 ?_ ?k6; (case k6 => with_unfolding_all rfl); (case k1 => exact (by assumption : TupK _ _ _ _ _) _ _ (by assumption) (fun p hp => ((by assumption : News _ _ _ _) p ((by walk_at "m tail" : ∀ p ∈ _, p ∈ _) p hp)).1)); (case k2 => decide); (case k3 => decide); (case k4 => rfl); (case k5 => rfl); k_whole)))
local macro_rules | `(tactic| walk_at "call ref") => `(tactic| (k_here; (with_reducible show wpAny _ _ (call (Value.ref 320) [_]) _ _ _); k_dflt (refine' use_pure (does_ends _ _ _ _) ?k1 ?k2 ?k3 ?k4 ?k5 ?kA ?kf ?kk ?kd ?ku ?kh ?kp ?_; (case k4 => k_asm); walk_at "m fin"; (case kp => walk_at "m tk"); k_whole); intro r h' tk' F' N' hP; subst hP; (try dsimp only); (try k_sweep)))
local macro_rules | `(tactic| walk_at "compareOp In int ref") => `(tactic| (k_here; (with_reducible show wpAny _ _ (compareOp CmpOp.In (Value.int _ _) (Value.ref _)) _ _ _); k_dflt (refine' in_strs_int ?k1 ?k2 ?_; (case k1 => exact News.isTup (by assumption) (.head _)); (case k2 => (intro y hy; simp only [List.mem_cons, List.mem_nil_iff, or_false] at hy; first | (rcases hy with h | h | h | h <;> exact ⟨_, _, h⟩) | (rcases hy with h | h <;> exact ⟨_, _, h⟩))); k_whole)))
local macro_rules | `(tactic| walk_at "compareOp In str ref") => `(tactic| (k_here; (with_reducible show wpAny _ _ (compareOp CmpOp.In (Value.str _ _) (Value.ref _)) _ _ _); k_dflt (refine' in_tuple_strs ?k1 ?k2 ?_; (case k1 => exact News.isTup (by assumption) (.head _)); (case k2 => kde_strs); k_whole)))
local macro_rules | `(tactic| walk_at "subscriptTail Name Slice ref ref") => `(tactic| (k_here; (with_reducible show wpAny _ _ (subscriptTail _ (PySem.Expr.Slice _ _ none _) (Value.ref _) (Value.ref _)) _ _ _); k_dflt (refine' kmk_slice_lit ?F ?N ?l ?p ?q ?e ?_ ?s ?t ?z; (case F => k_asm); (case N => k_asm); (case l => exact News.isList (by assumption) (.head _)); (case p => kmk_part); (case q => kmk_part); (case e => exact slice_all _); (case s => with_unfolding_all rfl); (case t => kmk_pure); (case z => (simp only [List.size_toArray]; rw [sizeLine_eq]; omega)); k_whole); intro D' h' F' N' l1; (try k_lt l1); (try k_sweep)))
local macro_rules | `(tactic| walk_at "m sub") => `(tactic| (intro p hp; simp only [OL, List.mem_cons, List.mem_nil_iff, or_false] at hp; rcases hp with rfl | rfl | rfl | rfl | rfl <;> k_mem))
local macro_rules | `(tactic| walk_at "m tail9") => `(tactic| (intro _ h; repeat (first | exact rest_bk _ h | refine List.Mem.tail _ ?_)))
local macro_rules | `(tactic| walk_at "compareOp Eq ref ref") => `(tactic| refine hold ?_)
local macro_rules | `(tactic| walk_at "getAttr ref") => `(tactic| (have : ExcMark := (by with_reducible assumption); refine hold ?_))
local macro_rules | `(tactic| walk_at "m listC") => `(tactic| exact News.isList (by assumption) (by k_mem))
local macro_rules | `(tactic| walk_at "subscriptTail Name UnaryOp ref int") => `(tactic| (k_here; (with_reducible show wpAny _ _ (subscriptTail _ _ (Value.ref _) (Value.int _ _)) _ _ _); k_dflt (refine' item_last ?k1 ?_ ?k6; (case k1 => exact News.isList (by assumption) (by k_mem)); (case k6 => with_unfolding_all rfl); k_whole)))
local macro_rules | `(tactic| walk_at "exec Try") => `(tactic| refine hold ?_)
local macro_rules | `(tactic| walk_at "exec For") => `(tactic| refine hold ?_)
local macro_rules | `(tactic| walk_at "exec For Name Name cons nil") => `(tactic| refine hold ?_)
local macro_rules | `(tactic| walk_at "pyIter ref") => `(tactic| refine hold ?_)
local macro_rules | `(tactic| walk_at "call ref") => `(tactic| (k_here; (with_reducible show wpAny _ _ (call (Value.ref 528) _) _ _ _); refine hold ?_))
local macro_rules | `(tactic| walk_at "call ref") => `(tactic| (k_here; (with_reducible show wpAny _ _ (call (Value.ref 535) _) _ _ _); refine hold ?_))
local macro_rules | `(tactic| walk_at "call ref") => `(tactic| (k_here; (with_reducible show wpAny _ _ (call (Value.ref 542) _) _ _ _); refine hold ?_))
local macro_rules | `(tactic| walk_at "call ref") => `(tactic| (k_here; (with_reducible show wpAny _ _ (call (Value.ref 154) _) _ _ _); refine hold ?_))
local macro_rules | `(tactic| walk_at "call ref") => `(tactic| (k_here; (with_reducible show wpAny _ _ (call (Value.ref 570) _) _ _ _); refine hold ?_))
local macro_rules | `(tactic| walk_at "call ref") => `(tactic| (k_here; (with_reducible show wpAny _ _ (call (Value.ref 549) _) _ _ _); refine hold ?_))
local macro_rules | `(tactic| walk_at "call ref") => `(tactic| (k_here; (with_reducible show wpAny _ _ (call (Value.ref 286) _) _ _ _); refine hold ?_))
local macro_rules | `(tactic| walk_at "call ref") => `(tactic| (k_here; (with_reducible show wpAny _ _ (call (Value.ref 517) _) _ _ _); refine hold ?_))
local macro_rules | `(tactic| walk_at "call ref") => `(tactic| (k_here; (with_reducible show wpAny _ _ (call (Value.ref 355) _) _ _ _); refine hold ?_))
set_option maxHeartbeats 8000000 in
theorem law_holds : PySem.Challenge.rw_rh0095_01.Holds := by
  refine hd ?_
  (w_strict (k_go0; (all_goals try k_fold)))
  w_top off
  rename World => w
  rename IntsAre _ _ => hI
  rename Heap.IsList _ _ _ => hL
  rename ¬ _ < _ => hcond
  rename Fr _ _ _ _ => F0
  rename Shared => s1
  rename Addr => sc
  rename List Int => ns
  rename List Value => cells
  rename Top _ _ _ _ _ _ => T0
  rename Frag.In _ _ => X0
  rename Below _ _ _ _ => K0
  have B0 : Below callerA s1.heap [] s1.heap := K0
  have hrl : 900 < recursionLimit := by decide
  have hcl : 7200 < cLine := by decide
  have hlen : ns.length ≤ 63 := by omega
  obtain ⟨Mid1, hMid1⟩ : ∃ Mid1 : Shared → Prop, ∀ s', Mid1 s' ↔ (∃ (h : Heap) (tk : Nat) (sl tl : Addr) (svs : List Value) (n1 : Nat) (tvs : List Value) (n2 : Nat) (sg : List Sg) (β : BA) (c : BC) (dv : Value) (bz : Int) (bk : Tok) (im : List (Addr × Obj)), s' = ⟨h, s1.gens, s1.drawn, tk, s1.os⟩ ∧ Fr s1.heap s1.heap.objs.size h (mLaw sc sl tl β.b dv bz bk) ∧
      News s1.heap s1.heap.objs.size h ((tl, listOf tvs.toArray n2) :: (sl, listOf svs.toArray n1) :: Rest w.params β c im) ∧ c.Ok w h β ∧ (∀ a ∈ [tl, sl], a ∉ (c.L w.params β).map (·.1)) ∧ SgAre svs sg ∧ WF sg ∧ TksAt h tvs (toksOf sg 0) ∧ c.texts[7]? = some (Str.ofString ",") ∧ c.fns[1]? = some (7, 2) ∧ c.size ≤ 1000 ∧ DueAt c.texts c.fns h (finR sg (wholeS sg (2 * sg.length + 2) 0)) dv bz) := ⟨_, fun _ => Iff.rfl⟩
  refine execs_at 5 Mid1 ?_ ?_
  · simp only [List.take_succ_cons, List.take_zero]
    k_steps
    unfold Hold
    rename News _ _ _ _ => N5
    rename Fr _ _ _ _ => F5
    k_dflt (refine' use_does (does_figures w sc cells ns _ hI hlen) ?k1 ?k2 ?k3 N5 ?k5 ?kA ?kf ?kk ?kd ?ku ?kh (List.forall_mem_nil _) ?kp ?_; walk_at "m fin"; (case kp => exact Fr.lst F5 hL))
    intro r h' tk' hK hP F6
    obtain ⟨fa, n0, fvs, fs, rfl, ha, hn, hfI, hf15, hfR⟩ := hP
    have N6 := news_add F5 (news_keep (ms := []) N5 hK (fun _ _ q => nomatch q)) ha hn
    clear N5 F5
    k_steps
    unfold Hold
    rename News _ _ _ _ => N5
    rename Fr _ _ _ _ => F5
    k_dflt (refine' use_does (does_signs w fa fvs fs hfI hf15 hfR) ?k1 ?k2 ?k3 N5 ?k5 ?kA ?kf ?kk ?kd ?ku ?kh (List.forall_mem_nil _) ?kp ?_; walk_at "m fin"; (case kp => exact News.isList N5 (.head _)))
    intro r h' tk' hK hP F6
    obtain ⟨sl, n1, svs, sg, rfl, ha, hn, hS, wf⟩ := hP
    have N6 := news_add F5 (news_keep (ms := []) N5 hK (fun _ _ q => nomatch q)) ha hn
    clear N5 F5
    k_steps
    unfold Hold
    rename News _ _ _ _ => N5
    rename Fr _ _ _ _ => F5
    k_dflt (refine' use_does (does_tokens w sl svs sg hS wf) ?k1 ?k2 ?k3 N5 ?k5 ?kA ?kf ?kk ?kd ?ku ?kh (List.forall_mem_nil _) ?kp ?_; walk_at "m fin"; (case kp => exact News.isList N5 (.head _)))
    intro r h' tk' hK hP F6
    obtain ⟨tl, n2, tvs, rfl, ha, hn, hT⟩ := hP
    have N6 := news_add F5 (news_keep (ms := []) N5 hK (fun _ _ q => nomatch q)) ha hn
    obtain ⟨im, N7, hIm, hTup⟩ := fresh_tups (own := [_, _, _]) (im := []) F6 (by simpa using N6)
    dsimp only [List.nil_append, List.cons_append] at N7
    clear N5 F5 N6
    k_steps
    unfold Hold
    rename News _ _ _ _ => N5
    rename Fr _ _ _ _ => F5
    have hT5 := hT.keep (hIm _ _ F5 (fun p hp => (N5 p ((by walk_at "m rest" : ∀ p ∈ im, p ∈ _) p hp)).1))
    replace N5 := sub_news N5 (news' := [(tl, listOf tvs.toArray n2), (sl, listOf svs.toArray n1)]) (fun p hp => by simp only [List.mem_cons, List.mem_nil_iff, or_false] at hp; rcases hp with rfl | rfl <;> simp)
    k_dflt (refine' use_does (does_symbols w) ?k1 ?k2 ?k3 N5 ?k5 ?kA ?kf ?kk ?kd ?ku ?kh (List.forall_mem_nil _) True.intro ?_; walk_at "m fin")
    intro r h' tk' hK hP F6
    obtain ⟨β, c, rfl, hH, hO, hcs, h7, hf1, hfre⟩ := hP
    obtain ⟨im2, N7, hIm2, hTup2, hoff⟩ := news_book F5 F6 N5 hK hH hfre
    have hT6 := hT5.keep (.of_keep fun b o e => hK b o e List.not_mem_nil)
    dsimp only [List.nil_append, List.cons_append] at N7
    clear N5 F5
    k_steps
    unfold Hold
    rename News _ _ _ _ => N5
    rename Fr _ _ _ _ => F5
    have hk5 := hIm2 _ _ F5 (fun p hp => (N5 p ((by walk_at "m tail" : ∀ p ∈ im2, p ∈ _) p hp)).1)
    have hsm := wf.small
    obtain ⟨nn, hnn⟩ : ∃ nn, nn = 2 * sg.length + 2 := ⟨_, rfl⟩
    have hdd := (descent_does w sg wf nn).2.2
    have hok0 := (descent_ok wf nn).2.2 0 wf.pos
    have hgb : gb sg 0 (wholeS sg nn 0) ≤ 300 := by
      rcases hq : wholeS sg nn 0 with ⟨t, j⟩ | st
      · rw [hq] at hok0; obtain ⟨_, b⟩ := hok0; simp only [gb]; omega
      · simp only [gb]; omega
    k_dflt (refine' use_bk (own := [_, _]) (hdd β c sl svs 0 0 _ rfl wf.pos (SgAre.vals hS) (by omega) (by omega)) ?k1 ?k2 ?k3 N5 ?k5 ?kA ?kf ?kk ?kd ?ku ?kh (hO.keepT hk5) ?kp ?kx ?_; walk_at "m fin"; (case kx => exact hoff); (case kp => exact ⟨News.isList N5 (.tail _ (.head _)), hoff _ (.tail _ (.head _))⟩))
    intro r h' tk' c3 im3 F6 N6 hIm3 hTup3 hO3 hG3 hKT3 hR
    have hT3 := (hT6.keep hk5).keep hKT3
    have hoff3 : ∀ a ∈ [tl, sl], a ∉ (c3.L w.params β).map (·.1) := fun a ha => by
      rw [BC.addrs w.params β c c3]
      simp only [List.mem_cons, List.mem_nil_iff, or_false] at ha
      rcases ha with rfl | rfl
      · exact hoff _ (.head _)
      · exact hoff _ (.tail _ (.head _))
    dsimp only [List.nil_append, List.cons_append] at N6
    rcases hq : wholeS sg nn 0 with ⟨t, j⟩ | ⟨kd, j⟩
    · rw [hq] at hR hok0
      obtain ⟨_, hj⟩ := hok0
      obtain ⟨tv, ⟨pa, pk, rfl, hpa, hpn⟩, hTm⟩ := hR
      obtain ⟨x, hx⟩ : ∃ x, sg[j]? = some x := ⟨_, List.getElem?_eq_getElem hj⟩
      obtain ⟨tx, hv⟩ := (SgAre.vals hS).2 j x hx
      have hx' : svs[Int.toNat (j : Int)]? = some (.str x.str tx) := hv
      obtain ⟨ta, rfl⟩ := hTm.ref
      replace N6 := news_add F5 N6 hpa hpn
      clear N5 F5
      by_cases hd : x = .dot
      · subst hd
        k_steps
        rename News _ _ _ _ => N9
        rename Fr _ _ _ _ => F9
        have hk8 : KeepT _ _ := hIm3 _ _ F9 (fun p hp => (N9 p ((by walk_at "m tail" : ∀ p ∈ im3, p ∈ _) p hp)).1)
        have hk9 := hk8
        refine (hMid1 _).mpr ⟨_, _, sl, tl, svs, n1, tvs, n2, sg, β, c3, _, _, _, im3, rfl, mLaw_fr F9 rfl rfl (fun y h1 h2 => by unfold mLaw; simp only [h1, h2, if_false]; rfl), sub_news N9 (fun p hp => by repeat (first | exact hp | refine List.Mem.tail _ ?_)), hO3.keepT hk9, hoff3, hS, wf, hT3.keep hk9, prefix_get hG3.texts h7, prefix_get hG3.fns hf1, by have := hG3.size; unfold BC.size at *; omega, ?_⟩
        rw [← hnn, hq]
        unfold finR
        dsimp only
        rw [if_pos hx]
        exact ⟨rfl, hTm.keep (List.prefix_refl _) (List.prefix_refl _) hk9⟩
      · have hne : (x.str == Str.ofString ".") = false := by cases x <;> first | exact absurd rfl hd | decide +kernel
        have hne2 : (x.str != Str.ofString ".") = true := by unfold bne; rw [hne]; rfl
        k_steps
        unfold Hold
        rename News _ _ _ _ => N5
        rename Fr _ _ _ _ => F5
        have hk5' : KeepT _ _ := hIm3 _ _ F5 (fun p hp => (N5 p ((by walk_at "m tail" : ∀ p ∈ im3, p ∈ _) p hp)).1)
        k_dflt (refine' use_does (does_stop w sl svs sg j x _ _ _ (by omega) (SgAre.vals hS) hx) ?k1 ?k2 ?k3 N5 ?k5 ?kA ?kf ?kk ?kd ?ku ?kh (List.forall_mem_nil _) ?kp ?_; walk_at "m fin"; (case kp => exact News.isList N5 (.tail _ (.tail _ (.head _)))))
        intro r h' tk' hK hP F7
        obtain ⟨v, ⟨pa2, pk2, rfl, hpa2, hpn2⟩, st, sk1, sk2, rfl, hst⟩ := hP
        have N7 := news_add F5 (news_keep (ms := []) N5 hK (fun _ _ q => nomatch q)) hpa2 hpn2
        obtain ⟨im4, N8, hIm4, hTup4⟩ := fresh_im (own := [_, _, _, _]) F7 N7
        have hk6 : KeepT _ _ := hk5'.trans (.of_keep fun b o e => hK b o e List.not_mem_nil)
        dsimp only [List.nil_append, List.cons_append] at N8
        clear N5 F5 N7
        k_steps
        rename News _ _ _ _ => N9
        rename Fr _ _ _ _ => F9
        have hk8 : KeepT _ _ := hIm4 _ _ F9 (fun p hp => (N9 p ((by walk_at "m tail" : ∀ p ∈ im4, p ∈ _) p hp)).1)
        have hk9 := hk6.trans hk8
        refine (hMid1 _).mpr ⟨_, _, sl, tl, svs, n1, tvs, n2, sg, β, c3, _, _, _, im4, rfl, mLaw_fr F9 rfl rfl (fun y h1 h2 => by unfold mLaw; simp only [h1, h2, if_false]; rfl), sub_news N9 (fun p hp => by repeat (first | exact hp | refine List.Mem.tail _ ?_)), hO3.keepT hk9, hoff3, hS, wf, hT3.keep hk9, prefix_get hG3.texts h7, prefix_get hG3.fns hf1, by have := hG3.size; unfold BC.size at *; omega, ?_⟩
        rw [← hnn, hq]
        unfold finR
        dsimp only
        rw [if_neg (by rw [hx]; exact fun q => hd (Option.some.inj q)), stopR_eq hx]
        exact ⟨rfl, st, sk1, sk2, rfl, hk8 _ _ hst (isTup_of _)⟩
    · rw [hq] at hR
      obtain ⟨tv, ⟨pa, pk, rfl, hpa, hpn⟩, hSt⟩ := hR
      replace N6 := news_add F5 N6 hpa hpn
      clear N5 F5
      k_steps
      rename News _ _ _ _ => N9
      rename Fr _ _ _ _ => F9
      have hk8 : KeepT _ _ := hIm3 _ _ F9 (fun p hp => (N9 p ((by walk_at "m tail" : ∀ p ∈ im3, p ∈ _) p hp)).1)
      have hk9 := hk8
      refine (hMid1 _).mpr ⟨_, _, sl, tl, svs, n1, tvs, n2, sg, β, c3, _, _, _, im3, rfl, mLaw_fr F9 rfl rfl (fun y h1 h2 => by unfold mLaw; simp only [h1, h2, if_false]; rfl), sub_news N9 (fun p hp => by repeat (first | exact hp | refine List.Mem.tail _ ?_)), hO3.keepT hk9, hoff3, hS, wf, hT3.keep hk9, prefix_get hG3.texts h7, prefix_get hG3.fns hf1, by have := hG3.size; unfold BC.size at *; omega, ?_⟩
      rw [← hnn, hq]
      obtain ⟨st, sk1, sk2, e, hst⟩ := hSt
      exact ⟨rfl, st, sk1, sk2, e, hk8 _ _ hst (isTup_of _)⟩
  · intro s' hs'
    obtain ⟨h, tk, sl, tl, svs, n1, tvs, n2, sg, β, c, dv, bz, bk, im0, rfl, F0', N0', hO, hoff, hS, wf, hT, h7, hf1, hcs, hD⟩ := (hMid1 s').mp hs'
    obtain ⟨Mid2, hMid2⟩ : ∃ Mid2 : Shared → Prop, ∀ s', Mid2 s' ↔ (∃ (h : Heap) (tk : Nat) (v1 v2 : Option Value) (im : List (Addr × Obj)), s' = ⟨h, s1.gens, s1.drawn, tk, s1.os⟩ ∧ Fr s1.heap s1.heap.objs.size h (mFor sc sl tl β.b dv bz bk v1 v2) ∧
      News s1.heap s1.heap.objs.size h ((tl, listOf tvs.toArray n2) :: (sl, listOf svs.toArray n1) :: Rest w.params β c im) ∧ c.Ok w h β ∧ TksAt h tvs (toksOf sg 0) ∧ DueAt c.texts c.fns h (finR sg (wholeS sg (2 * sg.length + 2) 0)) dv bz) := ⟨_, fun _ => Iff.rfl⟩
    simp only [List.drop_succ_cons, List.drop_zero]
    refine execs_at 1 Mid2 ?_ ?_
    · simp only [List.take_succ_cons, List.take_zero]
      replace F0' := mFor_start F0'
      obtain ⟨im9, N9, hI9, hT9⟩ := fresh_im (own := [_, _]) F0' N0'
      dsimp only [List.nil_append, List.cons_append] at N9
      clear N0'
      k_steps
      unfold Hold
      refine wpAny_For ?_
      k_steps
      unfold Hold
      rename News _ _ _ _ => N1
      rename Fr _ _ _ _ => F1
      refine iter_list F1 N1 (News.isList N1 (.head _)) ?_
      intro it o h5 ho F5 N5 l5
      have q1 : @LT.lt Nat _ tl it := l5 _ (.head _)
      have q2 : @LT.lt Nat _ sl it := l5 _ (.tail _ (.head _))
      have hit : it ∉ (c.L w.params β).map (·.1) := fun q => by
        obtain ⟨p, hp, e⟩ := List.mem_map.mp q
        have := l5 p (.tail _ (.tail _ (rest_bk p hp)))
        rw [e] at this
        exact Nat.lt_irrefl _ this
      have ktO : ∀ {h h' : Heap} {L : Addr} {m : Str → Option Value} {im : List (Addr × Obj)}, ImK s1.heap L h im → Fr s1.heap L h' m → Has h' im → KeepT h h' := fun a b c => a _ _ b c
      have hO5 : c.Ok w h5 β ∧ TksAt h5 tvs (toksOf sg 0) ∧ DueAt c.texts c.fns h5 (finR sg (wholeS sg (2 * sg.length + 2) 0)) dv bz := by
        have hk : KeepT h h5 := hI9 _ _ F5 (fun p hp => (N5 p (.tail _ (.tail _ (.tail _ (rest_im p hp))))).1)
        exact ⟨hO.keepT hk, hT.keep hk, hD.keep hk⟩
      obtain ⟨Im, hIm⟩ : ∃ Im : Nat → Shared → Prop, ∀ n s', Im n s' ↔ (∃ (i : Nat) (h : Heap) (tk : Nat) (v1 v2 : Option Value) (o : Obj) (im : List (Addr × Obj)), s' = ⟨h, s1.gens, s1.drawn, tk, s1.os⟩ ∧ n = tvs.length - i ∧ i ≤ tvs.length ∧ IterL o tl i ∧ Fr s1.heap s1.heap.objs.size h (mFor sc sl tl β.b dv bz bk v1 v2) ∧
        News s1.heap s1.heap.objs.size h ((it, o) :: (tl, listOf tvs.toArray n2) :: (sl, listOf svs.toArray n1) :: Rest w.params β c im) ∧ c.Ok w h β ∧ TksAt h tvs (toksOf sg 0) ∧ DueAt c.texts c.fns h (finR sg (wholeS sg (2 * sg.length + 2) 0)) dv bz) := ⟨_, fun _ _ => Iff.rfl⟩
      refine for_P Mid2 Im ?_ ?_ tvs.length ((hIm _ _).mpr ⟨0, _, _, none, none, o, _, rfl, rfl, Nat.zero_le _, ho, F5, N5, hO5.1, hO5.2.1, hO5.2.2⟩)
      · clear N1 F1 N5 F5 l5 hO5
        intro n s' hs'
        obtain ⟨i, h, tk9, v1, v2, o, im, rfl, rfl, hi2, ho, F, N, hO, hT, hD⟩ := (hIm _ _).mp hs'
        obtain ⟨im2, N2, hI2, hTup⟩ := fresh_im (own := [_, _, _]) F N
        dsimp only [List.nil_append, List.cons_append] at N2
        have hne : ∀ p ∈ (((tl : Nat), listOf tvs.toArray n2) :: (sl, listOf svs.toArray n1) :: Rest w.params β c im2), p.1 ≠ it := List.forall_mem_cons.mpr ⟨Nat.ne_of_lt q1, List.forall_mem_cons.mpr ⟨Nat.ne_of_lt q2, rest_off N2 (fun p hp => .tail _ (.tail _ (.tail _ hp))) (.head _) (iterL_noTup ho) hTup hit⟩⟩
        rcases Nat.lt_or_ge i tvs.length with hlt | hge
        · obtain ⟨d, hd⟩ : ∃ d, (toksOf sg 0)[i]? = some d := ⟨_, List.getElem?_eq_getElem (by rw [← hT.len]; exact hlt)⟩
          obtain ⟨v, hv, q, ka, kb, kc, z, rfl, hz, hq⟩ := hT.get hd
          refine next_list F N2 ho (News.isList N2 (.tail _ (.head _))) (by simpa using hv) hne ?_
          intro o' h6 ho' F6 N6
          dsimp only
          have htk : TkK s1.heap s1.heap.objs.size im2 q d.1 z := fun h9 m9 F9 H9 => TupTk.keepT (hI2 h9 m9 F9 H9) ⟨_, _, _, hq⟩
          clear N2 N F
          have fin9 : ∀ (h8 : Heap) (tk8 : Nat) (a b : Option Value), Fr s1.heap s1.heap.objs.size h8 (fun y => if y = Str.ofString "closing" then b else if y = Str.ofString "token" then a else mFor sc sl tl β.b dv bz bk v1 v2 y) → News s1.heap s1.heap.objs.size h8 ((it, o') :: (tl, listOf tvs.toArray n2) :: (sl, listOf svs.toArray n1) :: Rest w.params β c im2) →
              ∃ m, m < tvs.length - i ∧ Im m ⟨h8, s1.gens, s1.drawn, tk8, s1.os⟩ := fun h8 tk8 a b F8 N8 => by
            have hk8 : KeepT h h8 := hI2 _ _ F8 (fun p hp => (N8 p (.tail _ (.tail _ (.tail _ (rest_im p hp))))).1)
            exact ⟨tvs.length - (i + 1), by omega, (hIm _ _).mpr ⟨i + 1, h8, tk8, _, _, o', im2, rfl, rfl, hlt, ho', mFor_set F8, N8, hO.keepT hk8, hT.keep hk8, hD.keep hk8⟩⟩
          rcases tok_str d.1 (toks_pun _ _ d (List.mem_of_getElem? hd)) with e7 | ⟨xt, hxt, hc1, hc2⟩
          · rw [e7] at hq htk
            have hqt : TupK s1.heap s1.heap.objs.size im2 q [.str (Str.ofString "int") ka, .int 7 kb, .int z kc].toArray := fun h9 m9 F9 H9 => isTup_keep (hI2 h9 m9 F9 H9) ⟨_, hq, rfl, _, rfl⟩
            k_steps
            rename News _ _ _ _ => N9
            rename Fr _ _ _ _ => F9
            exact fin9 _ _ _ _ F9 (sub_news N9 (fun p hp => by repeat (first | exact hp | refine List.Mem.tail _ ?_)))
          · rw [hxt] at hq
            have c1 : (cloT d.1 != ([Str.ofString ")", Str.ofString "]", Str.ofString "}", Str.ofString "."].any fun y => y == xt)) = false := by rw [hc1]; simp
            have hqt : TupK s1.heap s1.heap.objs.size im2 q [.str d.1.kind ka, .str xt kb, .int z kc].toArray := fun h9 m9 F9 H9 => isTup_keep (hI2 h9 m9 F9 H9) ⟨_, hq, rfl, _, rfl⟩
            cases hcl : ([Str.ofString ")", Str.ofString "]", Str.ofString "}", Str.ofString "."].any fun y => y == xt) with
            | true =>
              have c2 : (endT d.1 != ([Str.ofString ")", Str.ofString "]", Str.ofString "}", Str.ofString "."].any fun y => y == xt)) = false := by rw [hc2, show clsAny xt = true from hcl, hcl]; rfl
              k_steps
              rename News _ _ _ _ => N9
              rename Fr _ _ _ _ => F9
              exact fin9 _ _ _ _ F9 (sub_news N9 (fun p hp => by repeat (first | exact hp | refine List.Mem.tail _ ?_)))
            | false =>
              have c2 : (endT d.1 != ([Str.ofString ",", Str.ofString "|"].any fun y => y == xt)) = false := by rw [hc2, show clsAny xt = false from hcl]; simp
              k_steps
              rename News _ _ _ _ => N9
              rename Fr _ _ _ _ => F9
              exact fin9 _ _ _ _ F9 (sub_news N9 (fun p hp => by repeat (first | exact hp | refine List.Mem.tail _ ?_)))
        · refine end_list F N2 ho (News.isList N2 (.tail _ (.head _))) (by simpa using hge) hne rfl ?_
          intro h6 F6 N6
          dsimp only
          have hk6 : KeepT h h6 := hI2 _ _ F6 (fun p hp => (N6 p (.tail _ (.tail _ (rest_im p hp)))).1)
          exact (hMid2 _).mpr ⟨h6, _, v1, v2, im2, rfl, F6, N6, hO.keepT hk6, hT.keep hk6, hD.keep hk6⟩
      · clear N1 F1 N5 F5 l5 hO5
        intro s' hs'
        k_steps
        exact hs'
    · clear F0' hO hT hD
      intro s' hs'
      obtain ⟨h, tk9, v1, v2, im, rfl, F0', N0', hO, hT, hD⟩ := (hMid2 s').mp hs'
      simp only [List.drop_succ_cons, List.drop_zero]
      obtain ⟨im9, N9, hI9, hT9⟩ := fresh_im (own := [_, _]) F0' N0'
      dsimp only [List.nil_append, List.cons_append] at N9
      clear N0'
      have htl9 : tvs.length < 1000 := by have := hT.len; have := toks_len sg 0; have := wf.small; omega
      k_steps
      unfold Hold
      rename News _ _ _ _ => N5
      rename Fr _ _ _ _ => F5
      k_dflt (refine' use_does (does_table w β) ?k1 ?k2 ?k3 N5 ?k5 ?kA ?kf ?kk ?kd ?ku ?kh (List.forall_mem_nil _) True.intro ?_; walk_at "m fin")
      intro r h' tk' hK hP F6
      obtain ⟨o9, ω, rfl, hH, hoO, hct, hord, hfre⟩ := hP
      have hk5 : KeepT h _ := hI9 _ _ F5 (fun p hp => (N5 p (.tail _ (.tail _ (.tail _ (rest_im p hp))))).1)
      have hk6 : KeepT h h' := hk5.trans (.of_keep fun b o e => hK b o e List.not_mem_nil)
      have N6 := news_new F5 N5 hK hH hfre
      have hDO : ∀ p ∈ OL w.params β o9 ω, ∀ x ∈ (_ : List (Addr × Obj)), p.1 ≠ x.1 := fun p hp x hx e => by
        have z := (N5 x hx).1
        have z2 := hfre p hp
        rw [e, z] at z2
        cases z2
      rename _ ∧ _ ∧ AllLt _ _ => l9
      have hDB := off_rest (c' := c) l9.2.2
      obtain ⟨im10, N7, hI10, hT10⟩ := fresh_im (own := [_, _, _, _, _, _, _, _]) F6 N6
      dsimp only [List.nil_append, List.cons_append] at N7
      have hO6 := hO.keepT hk6
      have hT6 := hT.keep hk6
      have hD6 := hD.keep hk6
      clear N5 F5 N6 hI9 hT9
      k_steps
      unfold Hold
      rename News _ _ _ _ => N5
      rename Fr _ _ _ _ => F5
      have hk7 : KeepT h' _ := hI10 _ _ F5 (fun p hp => (N5 p ((by walk_at "m tail" : ∀ p ∈ im10, p ∈ _) p hp)).1)
      k_dflt (refine' use_does (does_new w β o9 _ _) ?k1 ?k2 ?k3 N5 ?k5 ?kA ?kf ?kk ?kd ?ku ?kh (List.forall_mem_nil _) True.intro ?_; walk_at "m fin")
      intro r h8 tk8 hK8 hP F8
      obtain ⟨π, kp, kl, kr, nf, rfl, ho, htl, hH8, hord8, hfre8, hlt8⟩ := hP
      subst ho
      subst htl
      have hk8 : KeepT h' h8 := hk7.trans (.of_keep fun b o e => hK8 b o e List.not_mem_nil)
      have N8 := news_new F5 N5 hK8 hH8 hfre8
      have b1 : @LT.lt Nat _ π.tl π.pd := hlt8 π.tl _ (News.get N5 (by k_mem))
      have b2 : @LT.lt Nat _ tl π.pd := hlt8 tl _ (News.get N5 (by k_mem))
      have b3 : @LT.lt Nat _ sl π.pd := hlt8 sl _ (News.get N5 (by k_mem))
      have b4 : ∀ a ∈ OAd π ω ++ BAd β, @LT.lt Nat _ a π.pd := fun a ha => by
        rcases List.mem_append.mp ha with q | q
        · obtain ⟨p, hp, e⟩ := List.mem_map.mp (show a ∈ (OL w.params β π.o ω).map (·.1) from q)
          rw [← e]
          exact hlt8 _ _ (N5 p (List.mem_append_left (as := OL w.params β π.o ω) _ hp)).1
        · obtain ⟨p, hp, e⟩ := List.mem_map.mp (show a ∈ (c.L w.params β).map (·.1) from q)
          rw [← e]
          exact hlt8 _ _ (N5 p ((by walk_at "m tail9" : ∀ p ∈ c.L w.params β, p ∈ _) p hp)).1
      have hOB : ∀ a ∈ OAd π ω, a ∉ BAd β := fun a ha hb => by
        obtain ⟨p, hp, e⟩ := List.mem_map.mp (show a ∈ (OL w.params β π.o ω).map (·.1) from ha)
        obtain ⟨p2, hp2, e2⟩ := List.mem_map.mp (show a ∈ (c.L w.params β).map (·.1) from hb)
        exact hDO p hp p2 (.tail _ (.tail _ (.tail _ (rest_bk p2 hp2)))) (e.trans e2.symm)
      have offAD : ∀ {D : Nat}, @LT.lt Nat _ D π.pd → (∀ p ∈ OL w.params β π.o ω, p.1 ≠ D) → D ∉ (c.L w.params β).map (·.1) → D ∉ AD β π ω [] := fun {D} hlt hO hB q => by
        rcases List.mem_append.mp q with q | q
        · simp only [List.mem_cons, List.mem_nil_iff, or_false] at q
          obtain ⟨h1, h2⟩ := hord8
          rcases q with y | y
          · have y' : @Eq Nat D π.p := y; omega
          · have y' : @Eq Nat D π.pd := y; omega
        · rcases List.mem_cons.mp q with y | y
          · obtain ⟨h1, h2⟩ := hord8
            have y' : @Eq Nat D π.fl := y; omega
          · rcases List.mem_append.mp (show D ∈ OAd π ω ++ BAd β from y) with y | y
            · obtain ⟨p, hp, e⟩ := List.mem_map.mp (show D ∈ (OL w.params β π.o ω).map (·.1) from y)
              exact hO p hp e
            · exact hB y
      have a1 : π.tl ∉ AD β π ω [] := offAD b1 (fun p hp => hDO p hp _ (.head _)) hDB
      have a2 : tl ∉ AD β π ω [] := offAD b2 (fun p hp => hDO p hp _ (.tail _ (.head _))) (hoff _ (.head _))
      have a3 : sl ∉ AD β π ω [] := offAD b3 (fun p hp => hDO p hp _ (.tail _ (.tail _ (.head _)))) (hoff _ (.tail _ (.head _)))
      obtain ⟨im11, N9, hI11, hT11⟩ := fresh_im (own := [_, _, _, _, _, _, _, _, _, _, _]) F8 N8
      dsimp only [List.nil_append, List.cons_append] at N9
      have hO8 := hO6.keepT hk8
      have hT8 := hT6.keep hk8
      have hD8 := hD6.keep hk8
      have hct8 := isTup_keep hk8 hct
      clear N5 F5 N8 hI10 hT10 hO6 hT6 hD6 hct hO hT hD
      k_steps
      unfold Hold
      refine wpAny_Try_except ?_
      k_steps
      unfold Hold
      rename News _ _ _ _ => N5
      rename Fr _ _ _ _ => F5
      have hk9 : KeepT h8 _ := hI11 _ _ F5 (fun p hp => (N5 p ((by walk_at "m tail" : ∀ p ∈ im11, p ∈ _) p hp)).1)
      obtain ⟨N0, hN0, hRuns⟩ := machine wf (n := 2 * sg.length + 2) (Nat.le_refl _)
      have hsm := wf.small
      obtain ⟨X9, M0, hInv⟩ := mach_start (tvs := tvs) (sg := sg) (kp := kp) (kl := kl) (kr := kr) (nf := nf) (fun p hp => (N5 p (List.mem_append_left (as := PL w.params β π 0 kp 1200 kl .none 0 kr) _ hp)).1) (N5 _ (.tail _ (.tail _ (.head _)))).1 (fun p hp => (N5 p (.tail _ (.tail _ (.tail _ (List.mem_append_left (as := OL w.params β π.o ω) _ hp))))).1) (fun p hp => (N5 p ((by walk_at "m tail9" : ∀ p ∈ c.L w.params β, p ∈ _) p hp)).1)
        hord8 hord hOB b4 (hO8.keepT hk9) hoO hcs wf h7 hf1 (isTup_keep hk9 hct8) (News.isList N5 (by k_mem)) a1 (hT8.keep hk9) N0 (by omega) hRuns
      have NM : News s1.heap s1.heap.objs.size _ (ML w.params β π ω sg st0 ⟨c, kp, kl, kr, .none, nf, []⟩) := sub_news N5 (by
        intro p hp
        rcases List.mem_append.mp hp with q | q
        · exact List.mem_append_left (as := PL w.params β π 0 kp 1200 kl .none 0 kr) _ q
        · rcases List.mem_cons.mp q with q | q
          · exact q ▸ .tail _ (.tail _ (.head _))
          · rcases List.mem_append.mp (show p ∈ OL w.params β π.o ω ++ c.L w.params β from q) with q | q
            · exact .tail _ (.tail _ (.tail _ (List.mem_append_left (as := OL w.params β π.o ω) _ q)))
            · exact (by walk_at "m tail9" : ∀ p ∈ c.L w.params β, p ∈ _) p q)
      k_dflt (refine' use_x (mach_clause X9 N0 ⟨c, kp, kl, kr, .none, nf, []⟩ st0 rfl rfl) ?k1 ?k2 ?k3 NM ?k5 ?kA ?kf ?kk ?kd ?ku ?kh ?kp ?kn ?kx; walk_at "m fin")
      case kp =>
        refine ⟨hInv, fun i q hq => ?_⟩
        have hi : i < tvs.length := (List.getElem?_eq_some_iff.mp hq).1
        obtain ⟨v, hv, q', k1, k2, k3, z, rfl, _, e⟩ := (hT8.keep hk9).get (List.getElem?_eq_getElem (show i < (toksOf sg 0).length by rw [← hT8.len]; exact hi))
        rw [hq] at hv
        injection hv with hv; injection hv with hv
        exact ⟨_, hv ▸ e, isTup_of _⟩
      case kx =>
        intro e dx h13 tk13 kind z x13 ku13 hfl13 ⟨j13, hfin, hz⟩
        subst hz
        have hDx := hD8.keep hk9
        rw [hfin] at hDx
        obtain ⟨rfl, ad, q1, q2, rfl, hq⟩ := hDx
        have hL9 : s1.heap.objs.size ∉ (ML w.params β π ω sg st0 ⟨c, kp, kl, kr, .none, nf, []⟩).map (·.1) := fun q => by
          obtain ⟨p, hp, e⟩ := List.mem_map.mp q
          exact (NM p hp).2.1 e
        refine caught_fault (K := B0) F5 X0 T0 hL9 x13 ku13 (by k_is) ?_
        intro h14 tk14 F14 he14 hen14 ku14 ku15
        have F13 := fr_keepU F5 ku13 hL9 x13.stays
        obtain ⟨od, mA, ns, k1, k2, hdx, D13, e1, e2⟩ := hfl13
        obtain ⟨oe, vs14, he, hc14, hd14, hdd14⟩ := he14
        obtain ⟨es13, ep13, hd13, sk13, uk13, hf13⟩ := D13.data
        have hdL : dx ≠ s1.heap.objs.size := fun q => by
          obtain ⟨oL, es, ep, hL', hdL, _, hf⟩ := F13.ns
          rw [← q, hdx] at hL'
          injection hL' with hL'
          subst hL'
          rw [hd13] at hdL
          injection hdL with z1 z2
          subst z1
          have y1 := hf13 (Str.ofString "kind")
          rw [hf (Str.ofString "kind"), e1] at y1
          exact absurd y1 (by intro y; cases y)
        obtain ⟨sl14, hdx14⟩ := ku15 dx od hdx (fun y => hdL (List.mem_singleton.mp y)) (fun vs y => by rw [hd13] at y; cases y)
        have I14 : InstAt h14 e oe 51 (some { od with slots := sl14 }) := ⟨he, hc14, by unfold notCls; rw [hdd14], by rw [hd14]; exact hdx14⟩
        have D14 : NsObj { od with slots := sl14 } mA ns := ⟨⟨es13, ep13, hd13, sk13, uk13, hf13⟩, D13.win, D13.len⟩
        have had14 : IsTup h14 ad [.str kind q1, .int (3 * j13) q2].toArray := by
          obtain ⟨sl, y⟩ := ku14 ad _ hq (fun y => by
            rcases List.mem_cons.mp y with y | y
            · exact frame_noTup F5 (y ▸ hq) (isTup_of _)
            · obtain ⟨p, hp, e⟩ := List.mem_map.mp y
              have z := M0.has p hp
              rw [show p.1 = ad from e, hq] at z
              exact M0.noTup X9 p hp (Option.some.inj z ▸ isTup_of _)) (fun vs y => by cases y)
          exact ⟨_, y, rfl, _, rfl⟩
        have z1 := N5 _ (.tail _ (.tail _ (.tail _ (.tail _ (.tail _ (.tail _ (.tail _ (.tail _ (.head _)))))))))
        have z2 := N5 _ (.tail _ (.tail _ (.tail _ (.tail _ (.tail _ (.tail _ (.tail _ (.tail _ (.tail _ (.head _))))))))))
        obtain ⟨sl1, y1⟩ := ku14 π.tl _ z1.1 (fun y => by
          rcases List.mem_cons.mp y with y | y
          · exact z1.2.1 y
          · rw [ML_adr] at y; exact a1 y) (fun vs y => by cases y)
        obtain ⟨sl2, y2⟩ := ku14 tl _ z2.1 (fun y => by
          rcases List.mem_cons.mp y with y | y
          · exact z2.2.1 y
          · rw [ML_adr] at y; exact a2 y) (fun vs y => by cases y)
        have N12 : News s1.heap s1.heap.objs.size h14 [(π.tl, _), (tl, _)] := List.forall_mem_cons.mpr ⟨⟨y1, z1.2⟩, List.forall_mem_cons.mpr ⟨⟨y2, z2.2⟩, List.forall_mem_nil _⟩⟩
        obtain ⟨im12, N13, hI12, hT12⟩ := fresh_tups (own := [_, _]) (im := []) F14 (by simpa using N12)
        dsimp only [List.nil_append, List.cons_append] at N13
        clear N5 F5 F13 N12 NM
        have hmk : ExcMark := True.intro
        k_steps
        unfold Hold
        refine get_exc (X0.keeps F14.keep) I14 D14 e1 (by k_is) (by k_is) (by k_is) (by k_is) (by k_is) (by k_is) rfl ?_
        k_steps
        unfold Hold
        refine get_exc (X0.keeps F14.keep) I14 D14 e2 (by k_is) (by k_is) (by k_is) (by k_is) (by k_is) (by k_is) rfl ?_
        k_steps
        unfold Hold
        rename News _ _ _ _ => N14
        rename Fr _ _ _ _ => F15
        have hk14 : KeepT h14 _ := hI12 _ _ F15 (fun p hp => (N14 p ((by walk_at "m rest" : ∀ p ∈ im12, p ∈ _) p hp)).1)
        refine cmp_rc (tup_rc (xs := [.str kind k1, .int (3 * j13) k2]) (News.isTup N14 (by k_mem)) (isTup_keep hk14 had14) (by walk_at "m units") rfl (pair_eq rfl (int_eq rfl))) ?_
        clear hk14 hmk
        k_steps
        unfold Hold
        rename News _ _ _ _ => N14
        refine cmp_rc (lists_rc ⟨_, (N14 (π.tl, _) (by k_mem)).1, rfl, _, rfl⟩ ⟨_, (N14 (tl, _) (by k_mem)).1, rfl, _, rfl⟩ (by walk_at "m units")) ?_
        k_steps
      intro r h12 tk12 hK12 F12 ⟨σ, G, hfr, M, hr, hw, hfin, hdot⟩
      obtain ⟨ta, hta, hTm⟩ := M.tm hw
      rw [hta] at hr
      subst hr
      have hkT := M0.keepT X9 (fun p hp => hp) hK12
      have hD12 := (hD8.keep hk9).keep hkT
      rw [hfin] at hD12
      obtain ⟨rfl, hTd⟩ := hD12
      obtain ⟨da, rfl⟩ := hTd.ref
      have hTd12 := hTd.keep M.g1 M.g2 (KeepT.refl h12)
      have hh1 := keep_off hK12 (ML_adr _ _ _ _ _ _ _) a1 (N5 _ (.tail _ (.tail _ (.tail _ (.tail _ (.tail _ (.tail _ (.tail _ (.tail _ (.head _))))))))) ).1
      have hh2 := keep_off hK12 (ML_adr _ _ _ _ _ _ _) a2 (N5 _ (.tail _ (.tail _ (.tail _ (.tail _ (.tail _ (.tail _ (.tail _ (.tail _ (.tail _ (.head _)))))))))) ).1
      have hlt := last_tok wf hdot
      obtain ⟨ql, hql, tql⟩ := X9.tokq (tok_at hdot)
      have hlen9 := M.tk.len
      obtain ⟨init, hinit⟩ : ∃ init, tvs = init ++ [.ref ql] := ⟨tvs.take (tpos sg σ.i), by
        conv => lhs; rw [← List.take_append_drop (tpos sg σ.i) tvs]
        congr 1
        rw [List.drop_eq_getElem_cons (by omega), List.drop_eq_nil_of_le (by omega)]
        have := List.getElem?_eq_getElem (l := tvs) (i := tpos sg σ.i) (by omega)
        rw [hql] at this
        rw [← Option.some.inj this]⟩
      have N12 : News s1.heap s1.heap.objs.size h12 [(π.p, instObj 517 π.pd), (π.pd, PD w.params β π ((tpos sg σ.i : Nat) : Int) G.kp σ.lim G.kl G.tm σ.pr G.kr), (π.tl, listOf (init ++ [Value.ref ql]).toArray 0), (tl, listOf (init ++ [Value.ref ql]).toArray n2)] := by
        rw [← hinit]
        refine List.forall_mem_cons.mpr ⟨⟨M.has _ (.head _), (N5 _ (.head _)).2⟩, List.forall_mem_cons.mpr ⟨⟨M.has _ (.tail _ (.head _)), (N5 _ (.tail _ (.head _))).2⟩, List.forall_mem_cons.mpr ⟨⟨hh1, (N5 _ (.tail _ (.tail _ (.tail _ (.tail _ (.tail _ (.tail _ (.tail _ (.tail _ (.head _))))))))) ).2⟩, List.forall_mem_cons.mpr ⟨⟨hh2, (N5 _ (.tail _ (.tail _ (.tail _ (.tail _ (.tail _ (.tail _ (.tail _ (.tail _ (.tail _ (.head _)))))))))) ).2⟩, List.forall_mem_nil _⟩⟩⟩⟩
      obtain ⟨im12, N13, hI12, hT12⟩ := fresh_tups (own := [_, _, _, _]) (im := []) F12 (by simpa using N12)
      dsimp only [List.nil_append, List.cons_append] at N13
      obtain ⟨tk1, tk2, tk3, hqt⟩ := (tql M).1
      have hx0 : tvs[Int.toNat ((tpos sg σ.i : Nat) : Int)]? = some (.ref ql) := hql
      rw [hinit] at hx0
      have hil : init.length = tpos sg σ.i := by rw [hinit, List.length_append, List.length_singleton] at hlen9; omega
      have hsz9 : tsz σ.tm ≤ 200 := by
        have a := (descent_sz wf (2 * sg.length + 2)).2.2 0 wf.pos
        have b := (descent_ok wf (2 * sg.length + 2)).2.2 0 wf.pos
        rcases hq : wholeS sg (2 * sg.length + 2) 0 with ⟨t, j⟩ | st
        · rw [hq] at hfin a b
          obtain ⟨_, b2⟩ := b
          unfold finR at hfin
          dsimp only at hfin
          split at hfin
          · injection hfin with hfin; injection hfin with h1 h2; subst h1; simp only [szR] at a; omega
          · unfold stopR at hfin; split at hfin <;> cases hfin
        · rw [hq] at hfin; cases hfin
      have hrc := term_rc M.ok.ndt M.ok.ndf σ.tm
      clear N5 F5 N12 hK12
      have hge : (0 : Int) ≤ (σ.i : Int) := by omega
      k_steps
      unfold Hold
      rename News _ _ _ _ => N14
      rename Fr _ _ _ _ => F14
      have hk14 : KeepT h12 _ := hI12 _ _ F14 (fun p hp => (N14 p ((by walk_at "m rest" : ∀ p ∈ im12, p ∈ _) p hp)).1)
      refine cmp_rc (term_cmp hrc (hTm.keep (List.prefix_refl _) (List.prefix_refl _) hk14) (hTd12.keep (List.prefix_refl _) (List.prefix_refl _) hk14) (by walk_at "m units")) ?_
      clear hk14
      k_steps
      unfold Hold
      rename News _ _ _ _ => N14
      rename Fr _ _ _ _ => F14
      have hk14 : KeepT h12 _ := hI12 _ _ F14 (fun p hp => (N14 p ((by walk_at "m rest" : ∀ p ∈ im12, p ∈ _) p hp)).1)
      refine cmp_rc (tup_self (isTup_keep hk14 ⟨_, hqt, rfl, _, rfl⟩) (by walk_at "m units")) ?_
      clear hk14
      k_steps
      unfold Hold
      rename News _ _ _ _ => N14
      refine cmp_rc (lists_rc (News.isList N14 (by k_mem)) (News.isList N14 (by k_mem)) (by walk_at "m units")) ?_

      k_steps
end

end Mine

theorem PySem.Challenge.cw_rh0095_01_holds : PySem.Challenge.rw_rh0095_01.Holds := by
  exact Mine.law_holds
