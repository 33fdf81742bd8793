import PyProof.Rows.All
import Wide.All
import OpenK.AllK
import Wide.FinOn
import PySem.Challenge.RW_ov0076_01
open PySem PySem.W PySem.Spec PySem.Calls PyProof.Rows PyProof.V
set_option Elab.async false
set_option maxRecDepth 100000
namespace Mine
set_option maxHeartbeats 8000000 in
open_top hd for PySem.Challenge.rw_ov0076_01
theorem fresha : True := by
  w_top off
  trivial
/-- what a call promises: the ledger `news'` and the value handed back satisfy `post` -/
def Ct (w : World) (f : Addr) (vs : List Value) (k : Nat) (news : List (Addr × Obj)) (post : List (Addr × Obj) → Value → Prop) : Prop :=
  ∀ (p : Program) (loose : List Str) (mean : ExcName → Option Value) (mg mb : Str → Option Value) (dp un : Nat) (gd : Option (List Code)) (cn : Str) (cs : Scope) (a : Addr) (ccd : Value) (cl : List (Str × Addr)) (outer : List Env) (A₀ : Around) (base h₀ : Heap) (L : Addr) (m : Str → Option Value) (s : Shared)
    (Q E : Value → Shared → Prop),
    Below A₀ base outer h₀ → Fr h₀ L s.heap m → Frag.In (hd.heap_39 w.params) h₀ → News h₀ L s.heap news → Top p loose mean mg mb h₀ → cs.kind = .function → dp + k < recursionLimit → un + 8 * k + 64 < cLine →
    (∀ r news' h' tk', Fr h₀ L h' m → News h₀ L h' news' → post news' r → Q r { s with heap := h', toks := tk' }) →
    wpAny (model PySem.Challenge.pw_ov0076_01 w) (ktrTop dp un gd cn cs L a ccd cl outer) (call (.ref f) vs) Q E s

theorem Ct.use {w : World} {f : Addr} {vs : List Value} {k : Nat} {news : List (Addr × Obj)} {post : List (Addr × Obj) → Value → Prop} (C : Ct w f vs k news post)
    {p : Program} {loose : List Str} {mean : ExcName → Option Value} {mg mb : Str → Option Value} {dp un : Nat} {gd : Option (List Code)} {cn : Str} {cs : Scope} {a : Addr} {ccd : Value} {cl : List (Str × Addr)} {outer : List Env} {A₀ : Around} {base h₀ : Heap} {L : Addr} {m : Str → Option Value} {s : Shared}
    {Q E : Value → Shared → Prop} (B : Below A₀ base outer h₀) (F : Fr h₀ L s.heap m) (X : Frag.In (hd.heap_39 w.params) h₀) (N : News h₀ L s.heap news) (T : Top p loose mean mg mb h₀) (hk : cs.kind = .function)
    (hd : dp + k < recursionLimit) (hu : un + 8 * k + 64 < cLine)
    (ret : ∀ r news' h' tk', Fr h₀ L h' m → News h₀ L h' news' → post news' r → Q r { s with heap := h', toks := tk' }) :
    wpAny (model PySem.Challenge.pw_ov0076_01 w) (ktrTop dp un gd cn cs L a ccd cl outer) (call (.ref f) vs) Q E s :=
  C _ _ _ _ _ _ _ _ _ _ _ _ _ _ _ _ _ _ _ _ _ _ B F X N T hk hd hu ret

theorem Ct.weaken {w : World} {f : Addr} {vs : List Value} {k : Nat} {news : List (Addr × Obj)} {post post' : List (Addr × Obj) → Value → Prop} (C : Ct w f vs k news post) (h : ∀ n r, post n r → post' n r) : Ct w f vs k news post' := by
  unfold Ct at *
  intro p loose mean mg mb dp un gd cn cs a ccd cl outer A₀ base h₀ L m s Q E B F X N T hk hd hu ret
  exact C _ _ _ _ _ _ _ _ _ _ _ _ _ _ _ _ _ _ _ _ _ _ B F X N T hk hd hu fun r news' h' tk' F' N' hp => ret r news' h' tk' F' N' (h _ _ hp)

/-- the jar: the list of cells, the state, the lap -/
abbrev jarObj (l : Addr) (a b : Int) (t u : Tok) (n : Nat) : Obj := listOf #[.ref l, .int a t, .int b u] n


local macro_rules | `(tactic| k_all) => `(tactic| first | assumption | exact fun p hp => Nat.ne_of_lt ((by assumption : ∀ p ∈ _, p.1 < _) p hp) | exact fun p hp => Nat.ne_of_lt (ktn_ltOf (by first | assumption | exact And.right (by assumption)) p hp))
local macro_rules | `(tactic| k_mem) => `(tactic| first | exact List.Mem.head _ | assumption | (refine List.mem_cons_of_mem _ ?_; k_mem))
local macro_rules | `(tactic| is_list) => `(tactic| first | (with_reducible assumption) | assumption | exact News.isList (by assumption) (by news_mem) | (refine' News.isList ?N9 ?m9; (case N9 => k_asm); (case m9 => k_mem)))
local macro_rules | `(tactic| k_room) => `(tactic| ktr_room)
local macro_rules | `(tactic| ke_room) => `(tactic| ((have hcL9 := cLine_is); (simp only [units_in1, units_deeper, Around.mark_units, units_caller] at *); (try dsimp only [ktrTop] at *); omega))

local macro_rules | `(tactic| walk_at "ite") => `(tactic| (k_here; first | (with_reducible refine ite_ff ?_) | (with_reducible refine ite_tt ?_)))

theorem freshb : True := by
  w_top off
  trivial
set_option maxHeartbeats 8000000 in
theorem take_ct (w : World) (l j : Addr) (vs : List Value) (ns : List Int) (ln n : Nat) (a b below : Int) (t u tb : Tok) (rest : List (Addr × Obj))
    (hl : (l, listOf vs.toArray ln) ∈ rest) (hi : IntsAre vs ns) (hne : 0 < ns.length) (hlen : ns.length < 100) (hb0 : 0 ≤ b) (hb1 : b < 1000000) (hbel : 0 < below) (hbel2 : below < 100) (hj : ∀ p ∈ rest, p.1 ≠ j) :
    Ct w 582 [.ref j, .int below tb] 4 ((j, jarObj l a b t u n) :: rest) (fun news' r => ∃ a' b' t' u' x tx, r = .int x tx ∧ 0 ≤ x ∧ x < below ∧ 0 ≤ b' ∧ b' ≤ b + 1 ∧ news' = (j, jarObj l a' b' t' u' n) :: rest) := by
  unfold Ct
  intro p loose mean mg mb dp un gd cn cs ad ccd cl outer A₀ base h₀ L m s Q E B F X N T hk hd hu ret
  refine wpAny_call ?_
  k_dflt cell_enter
  k_steps
  all_goals exact ret _ _ _ _ (by k_asm) (by k_asm) ⟨_, _, _, _, _, _, rfl, fmod_lo _ hbel, fmod_hi _ hbel, by omega, by omega, rfl⟩

theorem freshc : True := by
  w_top off
  trivial
abbrev knd (w : World) := PySem.strKind PySem.Challenge.pw_ov0076_01 w

/-- the eight classes whose objects the law builds -/
def Cs : List Addr := [167, 196, 217, 239, 261, 282, 304, 325]
def Ns : List Str := [Str.ofString "kind", Str.ofString "attrs", Str.ofString "items", Str.ofString "name"]

theorem cs_plain (w : World) : (Cs.all fun C => Ns.all fun x => plainGet (hd.heap_39 w.params) C x && hasDictIn (hd.heap_39 w.params) C && (findIn (hd.heap_39 w.params) (.ref C) x == some none)) = true := by
  kernel_rfl

theorem get8 {w : World} {A : Around} {E : Value → Shared → Prop} {s : Shared} {h₀ : Heap} {L : Addr} {m : Str → Option Value} {news : List (Addr × Obj)} {x C dx : Addr} {es : List DictEntry} {n : Nat} {name : Str} {v : Value} {expr : Bool} {Q : Value → Shared → Prop}
    (F : Fr h₀ L s.heap m) (X₀ : Frag.In (hd.heap_39 w.params) h₀) (N : News h₀ L s.heap news) (hC : C ∈ Cs) (hn : name ∈ Ns) (hx : (x, instObj C dx) ∈ news) (hd' : (dx, dictOf es n) ∈ news)
    (hl : getL name es = some (some v)) (hv : handedIn v = true) (h : Q v { s with toks := s.toks + 1 }) : wpAny (model PySem.Challenge.pw_ov0076_01 w) A (getAttr (.ref x) name expr) Q E s := by
  have e := List.all_eq_true.mp (List.all_eq_true.mp (cs_plain w) C hC) name hn
  simp only [Bool.and_eq_true, beq_iff_eq] at e
  exact get_own F X₀ (InstAt.of_news N hx hd') e.1.1 e.1.2 e.2 rfl hl hv h

local macro_rules | `(tactic| walk_at "getAttr ref") => `(tactic| (k_here; k_dflt (refine' get8 ?k1 ?k2 ?k3 ?k4 ?k5 ?k6 ?k7 ?k8 ?k9 ?_; (case k1 => k_asm); (case k2 => k_asm); (case k3 => k_asm); (case k6 => k_mem); (case k4 => first | assumption | decide); (case k5 => decide); (case k7 => k_mem); (case k8 => first | assumption | k_get); (case k9 => first | assumption | rfl | k_handed); k_whole)))
local macro_rules | `(tactic| walk_at "getMethod ref") => `(tactic| (k_here; (with_reducible show wpAny _ _ (getMethod (Value.ref _) (Str.ofString "get") _) _ _ _); k_dflt (refine kdg_method (knd := knd _) (by k_asm) (by k_mem) (by assumption) ?_)))
local macro_rules | `(tactic| walk_at "call builtin:dict.get") => `(tactic| (k_here; k_dflt (refine kdg_get1 (knd := knd _) (by k_asm) (by k_mem) (by assumption) (by assumption) (strKind_is _ _ _ _) _ rfl ?_)))

/-- what `get_attr` finds -/
inductive GetIn (w : World) (news : List (Addr × Obj)) (name : Str) : Value → Value → Prop
  | none : GetIn w news name .none .none
  | some {d : Addr} {o : Obj} {kvs : List (Str × Value)} {cv : Option Value} : (d, o) ∈ news → o.IsDictOf (knd w) kvs → (d == sysModules) = false → valueAt kvs name = cv → GetIn w news name (.ref d) (cv.getD .none)

set_option maxHeartbeats 8000000 in
theorem get_attr_ct {w : World} {news : List (Addr × Obj)} {x C dx : Addr} {es : List DictEntry} {n : Nat} {av r : Value} {name : Str} {tk : Tok} (hC : C ∈ Cs) (hx : (x, instObj C dx) ∈ news) (hd' : (dx, dictOf es n) ∈ news) (ha : getL (Str.ofString "attrs") es = some (some av)) (hr : GetIn w news name av r) :
    Ct w 406 [.ref x, .str name tk] 4 news (fun news' r' => news' = news ∧ r' = r) := by
  cases hr
  rotate_left
  subst_vars
  all_goals (
    unfold Ct
    intro p loose mean mg mb dp un gd cn cs ad ccd cl outer A₀ base h₀ L m s Q E B F X N T hk hd hu ret
    refine wpAny_call ?_
    k_dflt cell_enter
    k_steps)
  all_goals exact ret _ _ _ _ (by k_asm) (by k_asm) ⟨rfl, rfl⟩

local macro_rules | `(tactic| ktr_units) => `(tactic| ((have hcL9 := cLine_is); (try simp only [units_in1, units_deeper, Around.mark_units, units_caller] at *); (try dsimp only [ktrTop] at *); omega))
local macro_rules | `(tactic| walk_at "call ref") => `(tactic| (k_here; (with_reducible show wpAny _ _ (call (Value.ref 406) _) _ _ _); k_dflt (refine' Ct.use (get_attr_ct ?a1 ?a2 ?a3 ?a4 ?a5) ?k1 ?k2 ?k3 ?k4 ?k5 ?k6 ?k7 ?k8 ?_; (case k1 => k_asm); (case k2 => k_asm); (case k3 => k_asm); (case k4 => k_asm); (case k5 => k_asm); (case k6 => first | exact rfl | assumption); (case k7 => ktr_room); (case k8 => ktr_units); (case a2 => k_mem); (case a1 => first | assumption | decide); (case a3 => k_mem); (case a4 => first | assumption | k_get); (case a5 => first | exact GetIn.none | exact GetIn.some (by k_mem) (by assumption) (by assumption) (by assumption))); intro r9 news9 h9 tk9 F9 N9 ho9; obtain ⟨e9, e9'⟩ := ho9; subst e9; subst e9'; (try dsimp only [Option.getD]); (try k_fold)))
local macro_rules | `(tactic| walk_at "call type:list") => `(tactic| (k_here; (with_reducible show wpAny _ _ (call (Value.type _) [Value.ref _]) _ _ _); k_dflt (refine' list_copyK ?k1 ?k2 ?k3 ?_ ?z; (case k1 => k_asm); (case k2 => k_asm); (case k3 => is_list); (case z => (simp only [List.size_toArray]; rw [sizeLine_eq]; omega))); intro D' c' h' F' N' l1; (try k_sweep)))


theorem len_at {w : World} {A : Around} {E : Value → Shared → Prop} {s : Shared} {h₀ : Heap} {L : Addr} {news : List (Addr × Obj)} {l : Addr} {vs : List Value} {k c : Nat} {Q : Value → Shared → Prop}
    (N : News h₀ L s.heap news) (hm : (l, listOf vs.toArray k) ∈ news) (hc : vs.length = c) (hs : c < 2 ^ 62) (h : Q (.int (c : Nat) (s.toks + 1)) { s with toks := s.toks + 1 + 1 }) : wpAny (model PySem.Challenge.pw_ov0076_01 w) A (call (.builtin "len") [.ref l]) Q E s := by
  have e : vs.toArray.size = c := by simp [hc]
  refine Calls.call_len_list (News.isList N hm) (by omega) ?_
  rw [e]
  exact h
local macro_rules | `(tactic| walk_at "call builtin:len") => `(tactic| (k_here; (with_reducible show wpAny _ _ (call (Value.builtin "len") [Value.ref _]) _ _ _); k_dflt (refine' len_at ?N ?m ?e ?z ?_; (case N => k_asm); (case m => k_mem); (case e => first | assumption | exact rfl); (case z => (have := sizeLine_eq); omega); k_whole)))

/-- a Vector at c whose items are the list vs -/
structure VecAt (news : List (Addr × Obj)) (c : Addr) (vs : List Value) : Prop where
  ex : ∃ dx es n il k, (c, instObj 196 dx) ∈ news ∧ (dx, dictOf es n) ∈ news ∧ getL (Str.ofString "items") es = some (some (.ref il)) ∧ (il, listOf vs.toArray k) ∈ news ∧ vs.length ≤ 8
inductive ClsIn (news : List (Addr × Obj)) : Option Value → List Str → Prop
  | none : ClsIn news none []
  | some {c : Addr} {vs : List Value} {row : List Str} : VecAt news c vs → StrsAre vs row → row ≠ [] → row.length ≤ 3 → ClsIn news (some (.ref c)) row
def words : List Str → List Str
  | _ => []
inductive DimIn (news : List (Addr × Obj)) : Option Value → List Str → Prop
  | none : DimIn news none []
  | two {c : Addr} {vs : List Value} {ds : List Int} : VecAt news c vs → IntsAre vs ds → vs.length = 2 → DimIn news (some (.ref c)) [Str.ofString "matrix", Str.ofString "array"]
  | other {c : Addr} {vs : List Value} {ds : List Int} : VecAt news c vs → IntsAre vs ds → vs.length ≠ 2 → DimIn news (some (.ref c)) [Str.ofString "array"]
inductive AttrIn (w : World) (news : List (Addr × Obj)) : Value → List Str → List Str → Prop
  | none : AttrIn w news .none [] []
  | some {d : Addr} {o : Obj} {kvs : List (Str × Value)} {row shape : List Str} {cv dv : Option Value} : (d, o) ∈ news → o.IsDictOf (knd w) kvs → (d == sysModules) = false → valueAt kvs (Str.ofString "class") = cv → valueAt kvs (Str.ofString "dim") = dv → ClsIn news cv row → DimIn news dv shape → AttrIn w news (.ref d) row shape

/-- a list of its own that holds these texts -/
def FreshStrs (news : List (Addr × Obj)) (ss : List Str) (news' : List (Addr × Obj)) (r : Value) : Prop := ∃ a vs k, r = .ref a ∧ news' = (a, listOf vs.toArray k) :: news ∧ (∀ p ∈ news, p.1 < a) ∧ StrsAre vs ss


theorem Fresh.mk {news : List (Addr × Obj)} {ss : List Str} {a : Addr} {vs : List Value} {k : Nat} (h : ∀ p ∈ news, p.1 < a) (hs : StrsAre vs ss) : FreshStrs news ss ((a, listOf vs.toArray k) :: news) (.ref a) := ⟨a, vs, k, rfl, rfl, h, hs⟩


local macro_rules | `(tactic| ktn_lt) => `(tactic| first | assumption | exact ktn_ltOf (by first | assumption | exact And.right (by assumption) | exact And.right (And.right (by assumption))))
local macro_rules | `(tactic| kcj_all) => `(tactic| first | exact fun p hp => hp | exact fun p hp => List.mem_cons_of_mem _ hp | exact fun p hp => List.mem_cons_of_mem _ (List.mem_cons_of_mem _ hp) | exact fun p hp => List.mem_cons_of_mem _ (List.mem_cons_of_mem _ (List.mem_cons_of_mem _ hp)) | exact fun p hp => List.mem_cons_of_mem _ (List.mem_cons_of_mem _ (List.mem_cons_of_mem _ (List.mem_cons_of_mem _ hp))))
local macro_rules | `(tactic| cb_end $h:ident) => `(tactic| (subst_vars; (refine' $h _ _ _ _ ?F (cb_drop ?N ?S) (Fresh.mk ?l ?s)); (case F => k_asm); (case N => k_asm); (case S => (refine' List.forall_mem_cons.mpr ⟨?S1, ?S2⟩; (case S1 => k_mem); (case S2 => kcj_all))); (case l => ktn_lt); (case s => first | assumption | exact .nil | exact .cons _ _ .nil | exact .cons _ _ (.cons _ _ .nil))))

set_option maxHeartbeats 8000000 in
theorem class_attr_ct {w : World} {news : List (Addr × Obj)} {x C dx : Addr} {es : List DictEntry} {n : Nat} {av : Value} {row shape : List Str} (hC : C ∈ Cs) (hx : (x, instObj C dx) ∈ news) (hd' : (dx, dictOf es n) ∈ news) (ha : getL (Str.ofString "attrs") es = some (some av)) (hr : AttrIn w news av row shape) :
    Ct w 526 [.ref x] 8 news (FreshStrs news row) := by
  cases hr with
  | none =>
    unfold Ct
    intro p loose mean mg mb dp un gd cn cs ad ccd cl outer A₀ base h₀ L m s Q E B F X N T hk hd hu ret
    refine wpAny_call ?_
    k_dflt cell_enter
    k_steps
    all_goals cb_end ret
  | some h1 h2 h3 h4 h5 h6 h7 =>
    cases h6 with
    | none =>
      unfold Ct
      intro p loose mean mg mb dp un gd cn cs ad ccd cl outer A₀ base h₀ L m s Q E B F X N T hk hd hu ret
      refine wpAny_call ?_
      k_dflt cell_enter
      k_steps
      all_goals cb_end ret
    | some v1 v2 v3 v4 =>
      obtain ⟨vdx, ves, vn, il, vk, w1, w2, w3, w4, w5⟩ := v1.ex
      unfold Ct
      intro p loose mean mg mb dp un gd cn cs ad ccd cl outer A₀ base h₀ L m s Q E B F X N T hk hd hu ret
      refine wpAny_call ?_
      k_dflt cell_enter
      k_steps
      all_goals cb_end ret

/-- what dim_of hands back -/
inductive DimOut (news : List (Addr × Obj)) (shape : List Str) : List (Addr × Obj) → Value → Prop
  | none : shape = [] → DimOut news shape news .none
  | two {a : Addr} {vs : List Value} {k : Nat} : shape = [Str.ofString "matrix", Str.ofString "array"] → vs.length = 2 → (∀ p ∈ news, p.1 < a) → DimOut news shape ((a, listOf vs.toArray k) :: news) (.ref a)
  | other {a : Addr} {vs : List Value} {k : Nat} : shape = [Str.ofString "array"] → vs.length ≠ 2 → vs.length ≤ 8 → (∀ p ∈ news, p.1 < a) → DimOut news shape ((a, listOf vs.toArray k) :: news) (.ref a)

set_option maxHeartbeats 8000000 in
theorem dim_of_ct {w : World} {news : List (Addr × Obj)} {x C dx : Addr} {es : List DictEntry} {n : Nat} {av : Value} {row shape : List Str} (hC : C ∈ Cs) (hx : (x, instObj C dx) ∈ news) (hd' : (dx, dictOf es n) ∈ news) (ha : getL (Str.ofString "attrs") es = some (some av)) (hr : AttrIn w news av row shape) :
    Ct w 519 [.ref x] 8 news (DimOut news shape) := by
  cases hr with
  | none =>
    unfold Ct
    intro p loose mean mg mb dp un gd cn cs ad ccd cl outer A₀ base h₀ L m s Q E B F X N T hk hd hu ret
    refine wpAny_call ?_
    k_dflt cell_enter
    k_steps
    all_goals exact ret _ _ _ _ (by k_asm) (by k_asm) (.none rfl)
  | some h1 h2 h3 h4 h5 h6 h7 =>
    cases h7 with
    | none =>
      unfold Ct
      intro p loose mean mg mb dp un gd cn cs ad ccd cl outer A₀ base h₀ L m s Q E B F X N T hk hd hu ret
      refine wpAny_call ?_
      k_dflt cell_enter
      k_steps
      all_goals exact ret _ _ _ _ (by k_asm) (by k_asm) (.none rfl)
    | two v1 v2 v3 =>
      obtain ⟨vdx, ves, vn, il, vk, w1, w2, w3, w4, w5⟩ := v1.ex
      unfold Ct
      intro p loose mean mg mb dp un gd cn cs ad ccd cl outer A₀ base h₀ L m s Q E B F X N T hk hd hu ret
      refine wpAny_call ?_
      k_dflt cell_enter
      k_steps
      all_goals exact ret _ _ _ _ (by k_asm) (by k_asm) (.two rfl v3 (by first | assumption | exact ktn_ltOf (by assumption)))
    | other v1 v2 v3 =>
      obtain ⟨vdx, ves, vn, il, vk, w1, w2, w3, w4, w5⟩ := v1.ex
      unfold Ct
      intro p loose mean mg mb dp un gd cn cs ad ccd cl outer A₀ base h₀ L m s Q E B F X N T hk hd hu ret
      refine wpAny_call ?_
      k_dflt cell_enter
      k_steps
      all_goals exact ret _ _ _ _ (by k_asm) (by k_asm) (.other rfl v3 w5 (by first | assumption | exact ktn_ltOf (by assumption)))

local macro_rules | `(tactic| walk_at "call ref") => `(tactic| (k_here; (with_reducible show wpAny _ _ (call (Value.ref 519) _) _ _ _); k_dflt (refine' Ct.use (dim_of_ct ?a1 ?a2 ?a3 ?a4 ?a5) ?k1 ?k2 ?k3 ?k4 ?k5 ?k6 ?k7 ?k8 ?_; (case k1 => k_asm); (case k2 => k_asm); (case k3 => k_asm); (case k4 => k_asm); (case k5 => k_asm); (case k6 => first | exact rfl | assumption); (case k7 => ktr_room); (case k8 => ktr_units); (case a2 => k_mem); (case a1 => first | assumption | decide); (case a3 => k_mem); (case a4 => first | assumption | k_get); (case a5 => assumption)); intro r9 news9 h9 tk9 F9 N9 ho9; cases ho9 <;> (try k_fold)))

set_option maxHeartbeats 8000000 in
theorem shape_class_ct {w : World} {news : List (Addr × Obj)} {x C dx : Addr} {es : List DictEntry} {n : Nat} {av : Value} {row shape : List Str} (hC : C ∈ Cs) (hx : (x, instObj C dx) ∈ news) (hd' : (dx, dictOf es n) ∈ news) (ha : getL (Str.ofString "attrs") es = some (some av)) (hr : AttrIn w news av row shape) :
    Ct w 540 [.ref x] 12 news (FreshStrs news shape) := by
  unfold Ct
  intro p loose mean mg mb dp un gd cn cs ad ccd cl outer A₀ base h₀ L m s Q E B F X N T hk hd hu ret
  refine wpAny_call ?_
  k_dflt cell_enter
  k_steps
  all_goals first | (exfalso; omega) | cb_end ret

theorem freshd : True := by
  w_top off
  trivial

def seven : List Str := [Str.ofString "if", Str.ofString "for", Str.ofString "while", Str.ofString "(", Str.ofString "{", Str.ofString "<-", Str.ofString "="]

/-- the head of a call: its word -/
inductive HeadIn (news : List (Addr × Obj)) (y : Addr) : Str → Prop
  | sym {C dx : Addr} {es : List DictEntry} {n : Nat} {nm : Str} {t tk : Tok} : C ∈ Cs → (y, instObj C dx) ∈ news → (dx, dictOf es n) ∈ news → getL (Str.ofString "kind") es = some (some (.str (Str.ofString "symbol") tk)) → getL (Str.ofString "name") es = some (some (.str nm t)) →
      HeadIn news y (if seven.any (· == nm) then nm else Str.ofString "call")
  | other {C dx : Addr} {es : List DictEntry} {n : Nat} {kk : Str} {tk : Tok} : C ∈ Cs → (y, instObj C dx) ∈ news → (dx, dictOf es n) ∈ news → getL (Str.ofString "kind") es = some (some (.str kk tk)) → (kk == Str.ofString "symbol") = false → HeadIn news y (Str.ofString "call")

theorem eq_str_no {w : World} {A : Around} {E : Value → Shared → Prop} {s : Shared} {k l : Str} {t u : Tok} {Q : Value → Shared → Prop} (h : (k == l) = false) (q : Q (.bool false) s) : wpAny (model PySem.Challenge.pw_ov0076_01 w) A (compareOp .Eq (.str k t) (.str l u)) Q E s := PyProof.Rows.eq_str (by rw [h]; exact q)
local macro_rules | `(tactic| walk_at "compareOp Eq str str") => `(tactic| (k_here; (with_reducible refine eq_str_no ?h ?_); (case h => with_reducible assumption)))

set_option maxHeartbeats 8000000 in
theorem language_class_ct {w : World} {news : List (Addr × Obj)} {x C dx il y : Addr} {es : List DictEntry} {n k : Nat} {us : List Value} {wd : Str} (hC : C ∈ Cs) (hx : (x, instObj C dx) ∈ news) (hd' : (dx, dictOf es n) ∈ news) (hi : getL (Str.ofString "items") es = some (some (.ref il))) (hl : (il, listOf (.ref y :: us).toArray k) ∈ news) (hh : HeadIn news y wd) :
    Ct w 533 [.ref x] 4 news (fun news' r => news' = news ∧ ∃ t, r = .str wd t) := by
  cases hh with
  | sym c1 c2 c3 c4 c5 =>
    unfold Ct
    intro p loose mean mg mb dp un gd cn cs ad ccd cl outer A₀ base h₀ L m s Q E B F X N T hk hd hu ret
    refine wpAny_call ?_
    k_dflt cell_enter
    k_steps
    · exact ret _ _ _ _ (by k_asm) (cb_drop (by k_asm) (by kcj_all)) ⟨rfl, _, by rw [if_pos (by simp only [seven]; assumption)]⟩
    · exact ret _ _ _ _ (by k_asm) (cb_drop (by k_asm) (by kcj_all)) ⟨rfl, _, by rw [if_neg (by simp only [seven, Bool.not_eq_true]; assumption)]⟩
  | other c1 c2 c3 c4 c5 =>
    unfold Ct
    intro p loose mean mg mb dp un gd cn cs ad ccd cl outer A₀ base h₀ L m s Q E B F X N T hk hd hu ret
    refine wpAny_call ?_
    k_dflt cell_enter
    k_steps
    all_goals exact ret _ _ _ _ (by k_asm) (cb_drop (by k_asm) (by kcj_all)) ⟨rfl, _, rfl⟩

/-- what `plain_class` tells of an object of kind k -/
inductive PlainIn (news : List (Addr × Obj)) (es : List DictEntry) : Str → Str → Prop
  | lang {il y : Addr} {us : List Value} {k : Nat} {wd : Str} : getL (Str.ofString "items") es = some (some (.ref il)) → (il, listOf (.ref y :: us).toArray k) ∈ news → HeadIn news y wd → PlainIn news es (Str.ofString "language") wd
  | sym : PlainIn news es (Str.ofString "symbol") (Str.ofString "name")
  | s4 {nm : Str} {t : Tok} : getL (Str.ofString "name") es = some (some (.str nm t)) → PlainIn news es (Str.ofString "S4") nm
  | clo : PlainIn news es (Str.ofString "closure") (Str.ofString "function")
  | blt : PlainIn news es (Str.ofString "builtin") (Str.ofString "function")
  | spc : PlainIn news es (Str.ofString "special") (Str.ofString "function")
  | own {k : Str} : (k == Str.ofString "language") = false → (k == Str.ofString "symbol") = false → (k == Str.ofString "S4") = false → (k == Str.ofString "closure") = false → (k == Str.ofString "builtin") = false → (k == Str.ofString "special") = false → PlainIn news es k k

local macro_rules | `(tactic| walk_at "call ref") => `(tactic| (k_here; (with_reducible show wpAny _ _ (call (Value.ref 533) _) _ _ _); k_dflt (refine' Ct.use (language_class_ct ?a1 ?a2 ?a3 ?a4 ?a5 ?a6) ?k1 ?k2 ?k3 ?k4 ?k5 ?k6 ?k7 ?k8 ?_; (case k1 => k_asm); (case k2 => k_asm); (case k3 => k_asm); (case k4 => k_asm); (case k5 => k_asm); (case k6 => first | exact rfl | assumption); (case k7 => ktr_room); (case k8 => ktr_units); (case a2 => k_mem); (case a1 => first | assumption | decide); (case a3 => k_mem); (case a4 => first | assumption | k_get); (case a5 => k_mem); (case a6 => assumption)); intro r9 news9 h9 tk9 F9 N9 ho9; obtain ⟨e9, t9, e9'⟩ := ho9; subst e9; subst e9'; (try k_fold)))

set_option maxHeartbeats 8000000 in
theorem plain_class_ct {w : World} {news : List (Addr × Obj)} {x C dx : Addr} {es : List DictEntry} {n : Nat} {k pc : Str} {tk : Tok} (hC : C ∈ Cs) (hx : (x, instObj C dx) ∈ news) (hd' : (dx, dictOf es n) ∈ news) (hkd : getL (Str.ofString "kind") es = some (some (.str k tk))) (hp : PlainIn news es k pc) :
    Ct w 547 [.ref x] 8 news (fun news' r => news' = news ∧ ∃ t, r = .str pc t) := by
  cases hp
  all_goals (
    unfold Ct
    intro p loose mean mg mb dp un gd cn cs ad ccd cl outer A₀ base h₀ L m s Q E B F X N T hk hd hu ret
    refine wpAny_call ?_
    k_dflt cell_enter
    k_steps)
  all_goals exact ret _ _ _ _ (by k_asm) (cb_drop (by k_asm) (by kcj_all)) ⟨rfl, _, rfl⟩

theorem freshe : True := by
  w_top off
  trivial

theorem AttrIn.shape_len {w : World} {news : List (Addr × Obj)} {av : Value} {row shape : List Str} (h : AttrIn w news av row shape) : shape.length ≤ 2 := by
  cases h with
  | none => simp
  | some _ _ _ _ _ _ h7 => cases h7 <;> simp
theorem AttrIn.row_len {w : World} {news : List (Addr × Obj)} {av : Value} {row shape : List Str} (h : AttrIn w news av row shape) : row.length ≤ 3 := by
  cases h with
  | none => simp
  | some _ _ _ _ _ h6 _ => cases h6 <;> first | assumption | simp

section
variable {w : World} {news news' : List (Addr × Obj)}
theorem VecAt.mono {c : Addr} {vs : List Value} (v : VecAt news c vs) (h : ∀ p ∈ news, p ∈ news') : VecAt news' c vs := by
  obtain ⟨dx, es, n, il, k, w1, w2, w3, w4, w5⟩ := v.ex
  exact ⟨dx, es, n, il, k, h _ w1, h _ w2, w3, h _ w4, w5⟩
theorem ClsIn.mono {v : Option Value} {row : List Str} (c : ClsIn news v row) (h : ∀ p ∈ news, p ∈ news') : ClsIn news' v row := by
  cases c with
  | none => exact .none
  | some a b c d => exact .some (a.mono h) b c d
theorem DimIn.mono {v : Option Value} {shape : List Str} (c : DimIn news v shape) (h : ∀ p ∈ news, p ∈ news') : DimIn news' v shape := by
  cases c with
  | none => exact .none
  | two a b c => exact .two (a.mono h) b c
  | other a b c => exact .other (a.mono h) b c
theorem AttrIn.mono {v : Value} {row shape : List Str} (c : AttrIn w news v row shape) (h : ∀ p ∈ news, p ∈ news') : AttrIn w news' v row shape := by
  cases c with
  | none => exact .none
  | some a b c d e f g => exact .some (h _ a) b c d e (f.mono h) (g.mono h)
theorem HeadIn.mono {y : Addr} {wd : Str} (c : HeadIn news y wd) (h : ∀ p ∈ news, p ∈ news') : HeadIn news' y wd := by
  cases c with
  | sym a b c d e => exact .sym a (h _ b) (h _ c) d e
  | other a b c d e => exact .other a (h _ b) (h _ c) d e
theorem PlainIn.mono {es : List DictEntry} {k pc : Str} (c : PlainIn news es k pc) (h : ∀ p ∈ news, p ∈ news') : PlainIn news' es k pc := by
  cases c with
  | lang a b c => exact .lang a (h _ b) (c.mono h)
  | sym => exact .sym
  | s4 a => exact .s4 a
  | clo => exact .clo
  | blt => exact .blt
  | spc => exact .spc
  | own a b c d e f => exact .own a b c d e f
end
local macro_rules | `(tactic| ktr_rel) => `(tactic| first | exact AttrIn.mono (by assumption) (by kcj_all) | exact PlainIn.mono (by assumption) (by kcj_all) | exact HeadIn.mono (by assumption) (by kcj_all))

theorem append_at {w : World} {A : Around} {E : Value → Shared → Prop} {s : Shared} {h₀ : Heap} {L D : Addr} {m : Str → Option Value} {news news' : List (Addr × Obj)} {vs : List Value} {n : Nat} {x : Value} {Q : Value → Shared → Prop} (F : Fr h₀ L s.heap m) (N : News h₀ L s.heap news) (U : Upd D (listOf vs.toArray n) (listOf (vs ++ [x]).toArray (n + 1)) news news')
    (h : ∀ h', Fr h₀ L h' m → News h₀ L h' news' → Q .none { s with heap := h' }) (hsz : vs.length ≤ 1000) : wpAny (model PySem.Challenge.pw_ov0076_01 w) A (call (.builtin "list.append") [.ref D, x]) Q E s := by
  refine append_K F N (its := vs.toArray) (n := n) ?_ h ?_
  · have e : vs.toArray.push x = (vs ++ [x]).toArray := by simp
    rw [e]; exact U
  · rw [List.size_toArray, sizeLine_eq]; omega
local macro_rules | `(tactic| walk_at "call builtin:list.append") => `(tactic| (k_here; (with_reducible show wpAny _ _ (call (Value.builtin _) [Value.ref _, _]) _ _ _); k_dflt (refine' append_at ?k1 ?k2 ?k3 ?_ ?z; (case k1 => k_asm); (case k2 => k_asm); (case k3 => k_upd); (case z => first | exact Nat.le_of_ble_eq_true rfl | (simp only [List.length_append, List.length_cons, List.length_nil]; omega)); k_whole); intro h' F' N'; (try k_sweep)))
local macro_rules | `(tactic| walk_at "binaryOp Add ref ref") => `(tactic| (k_here; (with_reducible show wpAny _ _ (binaryOp _ (Value.ref _) (Value.ref _)) _ _ _); k_dflt (refine' kmk_add_lit (zs := _ ++ _) ?F ?N ?a ?b ?e ?_ ?z; (case F => k_asm); (case N => k_asm); (case a => is_list); (case b => is_list); (case e => exact rfl); (case z => (rw [sizeLine_eq]; (try simp only [List.length_append, List.length_cons, List.length_nil]); omega))); intro D' h' F' N' l1; (try k_sweep)))
local macro_rules | `(tactic| walk_at "call ref") => `(tactic| (k_here; (with_reducible show wpAny _ _ (call (Value.ref 547) _) _ _ _); k_dflt (refine' Ct.use (plain_class_ct ?a1 ?a2 ?a3 ?a4 ?a5) ?k1 ?k2 ?k3 ?k4 ?k5 ?k6 ?k7 ?k8 ?_; (case k1 => k_asm); (case k2 => k_asm); (case k3 => k_asm); (case k4 => k_asm); (case k5 => k_asm); (case k6 => first | exact rfl | assumption); (case k7 => ktr_room); (case k8 => ktr_units); (case a2 => k_mem); (case a1 => first | assumption | decide); (case a3 => k_mem); (case a4 => first | assumption | k_get); (case a5 => (first | assumption | ktr_rel))); intro r9 news9 h9 tk9 F9 N9 ho9; obtain ⟨e9, t9, e9'⟩ := ho9; subst e9; subst e9'; (try k_fold)))
local macro_rules | `(tactic| walk_at "call ref") => `(tactic| (k_here; (with_reducible show wpAny _ _ (call (Value.ref 540) _) _ _ _); k_dflt (refine' Ct.use (shape_class_ct ?a1 ?a2 ?a3 ?a4 ?a5) ?k1 ?k2 ?k3 ?k4 ?k5 ?k6 ?k7 ?k8 ?_; (case k1 => k_asm); (case k2 => k_asm); (case k3 => k_asm); (case k4 => k_asm); (case k5 => k_asm); (case k6 => first | exact rfl | assumption); (case k7 => ktr_room); (case k8 => ktr_units); (case a2 => k_mem); (case a1 => first | assumption | decide); (case a3 => k_mem); (case a4 => first | assumption | k_get); (case a5 => (first | assumption | ktr_rel))); intro r9 news9 h9 tk9 F9 N9 ho9; k_dflt (obtain ⟨a9, vs9, k9, e9, e9', lt9, hs9⟩ := ho9; subst e9; subst e9'; (have hln9 := StrsAre.length hs9)); (try k_fold)))
local macro_rules | `(tactic| walk_at "call ref") => `(tactic| (k_here; (with_reducible show wpAny _ _ (call (Value.ref 526) _) _ _ _); k_dflt (refine' Ct.use (class_attr_ct ?a1 ?a2 ?a3 ?a4 ?a5) ?k1 ?k2 ?k3 ?k4 ?k5 ?k6 ?k7 ?k8 ?_; (case k1 => k_asm); (case k2 => k_asm); (case k3 => k_asm); (case k4 => k_asm); (case k5 => k_asm); (case k6 => first | exact rfl | assumption); (case k7 => ktr_room); (case k8 => ktr_units); (case a2 => k_mem); (case a1 => first | assumption | decide); (case a3 => k_mem); (case a4 => first | assumption | k_get); (case a5 => (first | assumption | ktr_rel))); intro r9 news9 h9 tk9 F9 N9 ho9; k_dflt (obtain ⟨a9, vs9, k9, e9, e9', lt9, hs9⟩ := ho9; subst e9; subst e9'; (have hln9 := StrsAre.length hs9)); (try k_fold)))

local macro_rules | `(tactic| ktn_lt) => `(tactic| first | assumption | exact ktn_ltOf (by first | assumption | exact And.right (by assumption) | exact And.right (And.right (by assumption))) | exact fun p hp => (by assumption : ∀ q ∈ _ :: _, q.1 < _) p (List.mem_cons_of_mem _ hp) | exact fun p hp => (by assumption : ∀ q ∈ _ :: _ :: _, q.1 < _) p (List.mem_cons_of_mem _ (List.mem_cons_of_mem _ hp)) | exact fun p hp => (by assumption : ∀ q ∈ _ :: _ :: _ :: _, q.1 < _) p (List.mem_cons_of_mem _ (List.mem_cons_of_mem _ (List.mem_cons_of_mem _ hp))))
theorem strs_two {vs : List Value} {ss : List Str} {x : Str} {t : Tok} (h : StrsAre vs ss) : StrsAre (vs ++ [.str x t]) (ss ++ [x] ++ []) := by
  rw [List.append_nil]; exact h.append' (.cons _ _ .nil)
theorem strs_three {vs : List Value} {ss : List Str} {x y : Str} {t u : Tok} (h : StrsAre vs ss) : StrsAre (vs ++ [.str x t] ++ [.str y u]) (ss ++ [x] ++ [y]) := (h.append' (.cons _ _ .nil)).append' (.cons _ _ .nil)
local macro_rules | `(tactic| cb_end $h:ident) => `(tactic| (subst_vars; (refine' $h _ _ _ _ ?F (cb_drop ?N ?S) (Fresh.mk ?l ?s)); (case F => k_asm); (case N => k_asm); (case S => (refine' List.forall_mem_cons.mpr ⟨?S1, ?S2⟩; (case S1 => k_mem); (case S2 => kcj_all))); (case l => ktn_lt); (case s => first | exact strs_three (by assumption) | exact strs_two (by assumption))))

/-- the word behind a number's kind -/
inductive NumIn : Str → List Str → Prop
  | int : NumIn (Str.ofString "integer") [Str.ofString "numeric"]
  | dbl : NumIn (Str.ofString "double") [Str.ofString "numeric"]
  | no {k : Str} : (k == Str.ofString "integer") = false → (k == Str.ofString "double") = false → NumIn k []

set_option maxHeartbeats 8000000 in
theorem implicit_class_ct {w : World} {news : List (Addr × Obj)} {x C dx : Addr} {es : List DictEntry} {n : Nat} {av : Value} {row shape : List Str} {k pc : Str} {tk : Tok} {tl : List Str} (hC : C ∈ Cs) (hx : (x, instObj C dx) ∈ news) (hd' : (dx, dictOf es n) ∈ news) (hkd : getL (Str.ofString "kind") es = some (some (.str k tk))) (ha : getL (Str.ofString "attrs") es = some (some av)) (hr : AttrIn w news av row shape) (hp : PlainIn news es k pc) (ht : NumIn k tl) :
    Ct w 554 [.ref x] 16 news (FreshStrs news (shape ++ [pc] ++ tl)) := by
  have hsl := hr.shape_len
  cases ht
  all_goals (
    unfold Ct
    intro p loose mean mg mb dp un gd cn cs ad ccd cl outer A₀ base h₀ L m s Q E B F X N T hk hd hu ret
    refine wpAny_call ?_
    k_dflt cell_enter
    k_steps)
  all_goals cb_end ret

local macro_rules | `(tactic| walk_at "call ref") => `(tactic| (k_here; (with_reducible show wpAny _ _ (call (Value.ref 554) _) _ _ _); k_dflt (refine' Ct.use (implicit_class_ct ?a1 ?a2 ?a3 ?a4 ?a5 ?a6 ?a7 ?a8) ?k1 ?k2 ?k3 ?k4 ?k5 ?k6 ?k7 ?k8 ?_; (case k1 => k_asm); (case k2 => k_asm); (case k3 => k_asm); (case k4 => k_asm); (case k5 => k_asm); (case k6 => first | exact rfl | assumption); (case k7 => ktr_room); (case k8 => ktr_units); (case a2 => k_mem); (case a1 => first | assumption | decide); (case a3 => k_mem); (case a4 => first | assumption | k_get); (case a5 => first | assumption | k_get); (case a6 => (first | assumption | ktr_rel)); (case a7 => (first | assumption | ktr_rel)); (case a8 => (first | assumption | ktr_rel))); intro r9 news9 h9 tk9 F9 N9 ho9; k_dflt (obtain ⟨a9, vs9, k9, e9, e9', lt9, hs9⟩ := ho9; subst e9; subst e9'; (have hln9 := StrsAre.length hs9)); (try k_fold)))

def clsOf (row shape : List Str) (k pc : Str) : List Str := if row = [] then (if shape = [] then (if k == Str.ofString "double" then [Str.ofString "numeric"] else [pc]) else shape) else row

section
variable {vs : List Value} {row shape : List Str} {k pc : Str} {t : Tok}
theorem cls1 (h : 0 < (row.length : Int)) (hs : StrsAre vs row) : StrsAre vs (clsOf row shape k pc) := by
  unfold clsOf; rw [if_neg (by intro e; subst e; simp at h)]; exact hs
theorem cls2 (h0 : ¬ 0 < (row.length : Int)) (h : 0 < (shape.length : Int)) (hs : StrsAre vs shape) : StrsAre vs (clsOf row shape k pc) := by
  unfold clsOf; rw [if_pos (by apply List.eq_nil_of_length_eq_zero; omega), if_neg (by intro e; subst e; simp at h)]; exact hs
theorem cls3 (h0 : ¬ 0 < (row.length : Int)) (h : ¬ 0 < (shape.length : Int)) (hk : (k == Str.ofString "double") = true) : StrsAre [.str (Str.ofString "numeric") t] (clsOf row shape k pc) := by
  unfold clsOf; rw [if_pos (by apply List.eq_nil_of_length_eq_zero; omega), if_pos (by apply List.eq_nil_of_length_eq_zero; omega), if_pos hk]; exact .cons _ _ .nil
theorem cls4 (h0 : ¬ 0 < (row.length : Int)) (h : ¬ 0 < (shape.length : Int)) (hk : (k == Str.ofString "double") = false) : StrsAre [.str pc t] (clsOf row shape k pc) := by
  unfold clsOf; rw [if_pos (by apply List.eq_nil_of_length_eq_zero; omega), if_pos (by apply List.eq_nil_of_length_eq_zero; omega), if_neg (by rw [hk]; decide)]; exact .cons _ _ .nil
end
local macro_rules | `(tactic| cb_end $h:ident) => `(tactic| ((refine' $h _ _ _ _ ?F (cb_drop ?N ?S) (Fresh.mk ?l ?s)); (case F => k_asm); (case N => k_asm); (case S => (refine' List.forall_mem_cons.mpr ⟨?S1, ?S2⟩; (case S1 => k_mem); (case S2 => kcj_all))); (case l => ktn_lt); (case s => first | exact cls1 (by assumption) (by assumption) | exact cls2 (by assumption) (by assumption) (by assumption) | exact cls3 (by assumption) (by assumption) (by assumption) | exact cls4 (by assumption) (by assumption) (by assumption))))

set_option maxHeartbeats 8000000 in
theorem class_of_ct {w : World} {news : List (Addr × Obj)} {x C dx : Addr} {es : List DictEntry} {n : Nat} {av : Value} {row shape : List Str} {k pc : Str} {tk : Tok} (hC : C ∈ Cs) (hx : (x, instObj C dx) ∈ news) (hd' : (dx, dictOf es n) ∈ news) (hkd : getL (Str.ofString "kind") es = some (some (.str k tk))) (ha : getL (Str.ofString "attrs") es = some (some av)) (hr : AttrIn w news av row shape) (hp : PlainIn news es k pc) :
    Ct w 561 [.ref x] 16 news (FreshStrs news (clsOf row shape k pc)) := by
  have hsl := hr.shape_len
  have hrl := hr.row_len
  unfold Ct
  intro p loose mean mg mb dp un gd cn cs ad ccd cl outer A₀ base h₀ L m s Q E B F X N T hk hd hu ret
  refine wpAny_call ?_
  k_dflt cell_enter
  k_steps
  all_goals cb_end ret

local macro_rules | `(tactic| walk_at "compareOp In str ref") => `(tactic| (k_here; k_dflt (first | (refine' kda_in (knd := knd _) ?N ?m ?d ?l (strKind_is _ _ _ _) true ?hb ?_; (case N => k_asm); (case m => k_mem); (case d => assumption); (case l => assumption); (case hb => (rw [show valueAt _ _ = some _ from by assumption]; rfl))) | (refine' kda_in (knd := knd _) ?N ?m ?d ?l (strKind_is _ _ _ _) false ?hb ?_; (case N => k_asm); (case m => k_mem); (case d => assumption); (case l => assumption); (case hb => (rw [show valueAt _ _ = none from by assumption]; rfl))))))
def dspOf (row shape : List Str) (pc : Str) (tl : List Str) : List Str := if row = [] then shape ++ [pc] ++ tl else row
theorem dsp0 {vs : List Value} {shape : List Str} {pc : Str} {tl : List Str} (hs : StrsAre vs (shape ++ [pc] ++ tl)) : StrsAre vs (dspOf [] shape pc tl) := hs
theorem dsp1 {vs : List Value} {row shape : List Str} {pc : Str} {tl : List Str} (h : row ≠ []) (hs : StrsAre vs row) : StrsAre vs (dspOf row shape pc tl) := by
  unfold dspOf; rw [if_neg h]; exact hs
local macro_rules | `(tactic| cb_end $h:ident) => `(tactic| ((refine' $h _ _ _ _ ?F (cb_drop ?N ?S) (Fresh.mk ?l ?s)); (case F => k_asm); (case N => k_asm); (case S => (refine' List.forall_mem_cons.mpr ⟨?S1, ?S2⟩; (case S1 => k_mem); (case S2 => kcj_all))); (case l => ktn_lt); (case s => first | exact dsp0 (by assumption) | exact dsp1 (by assumption) (by assumption))))

set_option maxHeartbeats 8000000 in
theorem dispatch_class_ct {w : World} {news : List (Addr × Obj)} {x C dx : Addr} {es : List DictEntry} {n : Nat} {av : Value} {row shape : List Str} {k pc : Str} {tk : Tok} {tl : List Str} (hC : C ∈ Cs) (hx : (x, instObj C dx) ∈ news) (hd' : (dx, dictOf es n) ∈ news) (hkd : getL (Str.ofString "kind") es = some (some (.str k tk))) (ha : getL (Str.ofString "attrs") es = some (some av)) (hr : AttrIn w news av row shape) (hp : PlainIn news es k pc) (ht : NumIn k tl) :
    Ct w 575 [.ref x] 24 news (FreshStrs news (dspOf row shape pc tl)) := by
  have hr0 := hr
  cases hr with
  | none =>
    unfold Ct
    intro p loose mean mg mb dp un gd cn cs ad ccd cl outer A₀ base h₀ L m s Q E B F X N T hk hd hu ret
    refine wpAny_call ?_
    k_dflt cell_enter
    k_steps
    all_goals cb_end ret
  | some h1 h2 h3 h4 h5 h6 h7 =>
    cases h6 with
    | none =>
      unfold Ct
      intro p loose mean mg mb dp un gd cn cs ad ccd cl outer A₀ base h₀ L m s Q E B F X N T hk hd hu ret
      refine wpAny_call ?_
      k_dflt cell_enter
      k_steps
      all_goals cb_end ret
    | some v1 v2 v3 v4 =>
      unfold Ct
      intro p loose mean mg mb dp un gd cn cs ad ccd cl outer A₀ base h₀ L m s Q E B F X N T hk hd hu ret
      refine wpAny_call ?_
      k_dflt cell_enter
      k_steps
      all_goals cb_end ret

theorem freshf : True := by
  w_top off
  trivial

theorem any_swap (L nss : List Str) : (nss.any fun q => L.any (· == q)) = (L.any fun c => nss.any (· == c)) := by
  rw [Bool.eq_iff_iff]
  simp only [List.any_eq_true, beq_iff_eq]
  constructor
  · rintro ⟨q, hq, c, hc, rfl⟩; exact ⟨c, hc, c, hq, rfl⟩
  · rintro ⟨c, hc, q, hq, rfl⟩; exact ⟨q, hq, q, hc, rfl⟩

/-- what a class's words are, whatever was made since -/
def ClsCt (w : World) (x : Addr) (L : List Str) (news : List (Addr × Obj)) : Prop := ∀ n₁, (∀ p ∈ news, p ∈ n₁) → Ct w 561 [.ref x] 16 n₁ (FreshStrs n₁ L)
theorem ClsCt.use {w : World} {x : Addr} {L : List Str} {news n₁ : List (Addr × Obj)} (h : ClsCt w x L news) (hs : ∀ p ∈ news, p ∈ n₁) : Ct w 561 [.ref x] 16 n₁ (FreshStrs n₁ L) := h n₁ hs
theorem ClsCt.mono {w : World} {x : Addr} {L : List Str} {news n₁ : List (Addr × Obj)} (h : ClsCt w x L news) (hs : ∀ p ∈ news, p ∈ n₁) : ClsCt w x L n₁ := fun n hn => h n fun p hp => hn p (hs p hp)
local macro_rules | `(tactic| walk_at "compareOp In str ref") => `(tactic| (k_here; k_dflt (refine' in_list_strs ?k1 ?k2 ?_; (case k1 => (refine' News.isList ?N9 ?m9; (case N9 => k_asm); (case m9 => k_mem))); (case k2 => assumption))))
local macro_rules | `(tactic| walk_at "call ref") => `(tactic| (k_here; (with_reducible show wpAny _ _ (call (Value.ref 561) _) _ _ _); k_dflt (refine' Ct.use (ClsCt.use ?a0 ?a1) ?k1 ?k2 ?k3 ?k4 ?k5 ?k6 ?k7 ?k8 ?_; (case k1 => k_asm); (case k2 => k_asm); (case k3 => k_asm); (case k4 => k_asm); (case k5 => k_asm); (case k6 => first | exact rfl | assumption); (case k7 => ktr_room); (case k8 => ktr_units); (case a0 => assumption); (case a1 => kcj_all)); intro r9 news9 h9 tk9 F9 N9 ho9; k_dflt (obtain ⟨a9, vs9, k9, e9, e9', lt9, hs9⟩ := ho9; subst e9; subst e9'; (have hln9 := StrsAre.length hs9)); (try k_fold)))


section
variable {prog : Program} {w : World} {A : Around} {E : Value → Shared → Prop} {s : Shared} {env : Env} {h₀ : Heap} {x : Str} {body : List Stmt} {Q : Flow → Shared → Prop}
/-- the end of a turn that keeps all that stood -/
def RdEnd (h₀ : Heap) (L : Addr) (x : Str) (m₀ : Str → Option Value) (led : List (Addr × Obj)) (P : Prop) (s₁ s₂ : Shared) : Prop :=
  ∃ h' tk m', s₂ = { s₁ with heap := h', toks := tk } ∧ Fr h₀ L h' m' ∧ News h₀ L h' led ∧ (∀ z, z ≠ x → m' z = m₀ z) ∧ P
def RdPost (h₀ : Heap) (L : Addr) (x : Str) (m₀ : Str → Option Value) (led : List (Addr × Obj)) (P : Prop) (s₁ : Shared) (Q : Flow → Shared → Prop) (f : Flow) (s₂ : Shared) : Prop :=
  match f with
  | .ret v => Q (.ret v) s₂
  | .brk => Q .next s₂
  | _ => RdEnd h₀ L x m₀ led P s₁ s₂
theorem RdEnd.intro {L : Addr} {m₀ m' : Str → Option Value} {led : List (Addr × Obj)} {P : Prop} {s₁ : Shared} {h' : Heap} {tk : Nat} (F : Fr h₀ L h' m') (N : News h₀ L h' led) (hm : ∀ z, z ≠ x → m' z = m₀ z) (hp : P) : RdEnd h₀ L x m₀ led P s₁ { s₁ with heap := h', toks := tk } := ⟨h', tk, m', rfl, F, N, hm, hp⟩

theorem iter_strs {l : Addr} {vs : List Value} {ss : List Str} {nn : Nat} {m₀ : Str → Option Value} {news : List (Addr × Obj)} (P : Nat → Prop)
    (hh : A.handled = none) (hl : (l, listOf vs.toArray nn) ∈ news) (hi : StrsAre vs ss) (F : Fr h₀ env.locals s.heap m₀) (N : News h₀ env.locals s.heap news) (hj : P 0)
    (turn : ∀ i y t h tk led, ss[i]? = some y → P i → (∀ p ∈ news, p ∈ led) → Fr h₀ env.locals h (fun z => if z = x then some (.str y t) else m₀ z) → News h₀ env.locals h led →
      wpAny (model prog w) A (execs body env) (RdPost h₀ env.locals x m₀ led (P (i + 1)) { s with heap := h, toks := tk } Q) E { s with heap := h, toks := tk })
    (done : ∀ m₁ h tk, P ss.length → (∀ z, z ≠ x → m₁ z = m₀ z) → Fr h₀ env.locals h m₁ → News h₀ env.locals h news → Q .next { s with heap := h, toks := tk }) :
    wpAny (model prog w) A (pyIter (.ref l)) (fun it s₂ => LoopAtV prog w A h₀ env x body Q E it s₂) E s := by
  have hol : s.heap.get? l = some (listOf vs.toArray nn) := (N _ hl).1
  have hls : s.heap.IsList l vs.toArray := ⟨_, hol, rfl, nn, rfl⟩
  have hne : l ≠ s.heap.objs.size := Nat.ne_of_lt (Heap.lt_size hol)
  refine wpAny_pyIter_list hls ?_
  have W := Walks.list (prog := prog) (w := w) hh s.heap.objs.size l hne vs.toArray
  have hlen : vs.toArray.size = ss.length := by simp [hi.length]
  rw [hlen] at W
  refine ⟨_, _, _, ss.length, _, _, m₀, news, (fun i m nx => nx = news ∧ (∀ z, z ≠ x → m z = m₀ z) ∧ P i), rfl, W, ?_, ?_, ?_, ⟨⟨_, Heap.get?_push_size _ rfl, rfl, rfl⟩, hls.at fun o e => Heap.get?_push_of_some _ e⟩, F.push _, (fun p hp => ⟨Heap.get?_push_of_some _ (N p hp).1, (N p hp).2⟩), ⟨rfl, fun _ _ => rfl, hj⟩, ?_, ?_⟩
  · intro hm
    rcases List.mem_cons.mp hm with e | hm
    · exact absurd F.ns.lt (e ▸ Nat.lt_irrefl _)
    · exact (N _ hl).2.1 ((List.mem_singleton.mp hm).symm)
  · intro b hb
    rw [List.mem_singleton.mp hb]
    exact next_is_new F
  · intro p hp hI
    exact absurd (Heap.lt_size (N p hp).1) ((List.mem_singleton.mp hI) ▸ Nat.lt_irrefl _)
  · rintro i v m₁ news₁ s₁ own ⟨hh', tk', rfl⟩ hin hP ⟨rfl, hmz, hJ⟩ hoff hown hget hfp _ F₁ N₁
    have hlt' : i < ss.length := hin
    obtain ⟨t, hx⟩ := hi.get i ss[i] (by simp [hlt'])
    have hv : v = .str ss[i] t := by
      have hP' : vs[i]? = some v := by simpa using hP
      rw [hx] at hP'; exact (Option.some.inj hP').symm
    subst hv
    have em : (fun z => if z = x then some (Value.str ss[i] t) else m₁ z) = fun z => if z = x then some (Value.str ss[i] t) else m₀ z := by
      funext z
      by_cases hz : z = x
      · rw [if_pos hz, if_pos hz]
      · rw [if_neg hz, if_neg hz]; exact hmz z hz
    rw [em] at F₁
    refine wpAny_mono (turn i ss[i] t hh' tk' (own ++ news₁) (by simp [hlt']) hJ (fun p hp => List.mem_append.mpr (.inr hp)) F₁ N₁) (fun f s₂ p => ?_) fun _ _ e => e
    have fin : RdEnd h₀ env.locals x m₀ (own ++ news₁) (P (i + 1)) { s with heap := hh', toks := tk' } s₂ →
        LoopStepU h₀ env.locals [s.heap.objs.size] own (fun m nx => nx = news₁ ∧ (∀ z, z ≠ x → m z = m₀ z) ∧ P (i + 1)) { s with heap := hh', toks := tk' } .next s₂ := by
      rintro ⟨h', tk, m', e, F', N', hm, hp'⟩
      exact ⟨rfl, h', tk, m', news₁, e, F', N', hoff, rfl, hm, hp'⟩
    cases f with
    | ret v => exact .ret p
    | brk => exact .brk p
    | next => exact .next (fin p)
    | cont => exact .cont (fin p)
  · rintro h' tk m' news' F' N' _ ⟨rfl, hmz, hJ⟩
    exact done m' h' tk hJ hmz F' N'
end
local macro_rules | `(tactic| walk_at "RdPost") => `(tactic| (dsimp only [RdPost]))

theorem any_hit {L : List Str} {i : Nat} {y : Str} {f : Str → Bool} (hy : L[i]? = some y) (h : f y = true) : L.any f = true := List.any_eq_true.mpr ⟨y, List.mem_of_getElem? hy, h⟩
theorem any_step {L : List Str} {i : Nat} {y : Str} {f : Str → Bool} (hy : L[i]? = some y) (hp : (L.take i).any f = false) (h : f y = false) : (L.take (i + 1)).any f = false := by
  rw [List.take_add_one, hy]; simp [hp, h]
set_option maxHeartbeats 8000000 in
theorem inherits_ct {w : World} {news : List (Addr × Obj)} {x nl : Addr} {ns : List Value} {nss L : List Str} {kn : Nat} (hc : ClsCt w x L news) (hn : (nl, listOf ns.toArray kn) ∈ news) (hns : StrsAre ns nss) :
    Ct w 568 [.ref x, .ref nl] 24 news (fun news' r => news' = news ∧ r = .bool (nss.any fun q => L.any (· == q))) := by
  rw [any_swap]
  unfold Ct
  intro p loose mean mg mb dp un gd cn cs ad ccd cl outer A₀ base h₀ L' m s Q E B F X N T hk hd hu ret
  refine wpAny_call ?_
  k_dflt cell_enter
  k_steps
  refine' iter_strs (fun i => (L.take i).any (fun c => nss.any (· == c)) = false) ?hh ?hl ?hi ?F ?N ?hj ?turn ?done
  case hh => exact rfl
  case F => k_asm
  case N => k_asm
  case hl => k_mem
  case hi => assumption
  case hj => simp
  case turn =>
    intro i y t h tk led hy hp hsub F' N'
    have hn' := hsub _ (List.mem_cons_of_mem _ hn)
    k_steps
    · exact ret _ _ _ _ (by k_asm) (cb_drop (by k_asm) fun p hp => hsub p (List.mem_cons_of_mem _ hp)) ⟨rfl, by rw [any_hit (f := fun c => nss.any (· == c)) hy (by assumption)]⟩
    · exact RdEnd.intro (by k_asm) (by k_asm) (fun z hz => if_neg hz) (any_step hy hp (by assumption))
  case done =>
    intro m₁ h tk hp hm F' N'
    k_steps
    exact ret _ _ _ _ (by k_asm) (cb_drop (by k_asm) (by kcj_all)) ⟨rfl, by rw [List.take_length] at hp; rw [hp]⟩

theorem freshg : True := by
  w_top off
  trivial

section
variable {w : World} {A : Around} {E : Value → Shared → Prop} {s : Shared} {h₀ : Heap} {L : Addr} {news : List (Addr × Obj)} {a b : Addr} {xs ys : List Value} {k l : Nat} {ss : List Str} {Q : Value → Shared → Prop}
theorem ne_strs_same (N : News h₀ L s.heap news) (ha : (a, listOf xs.toArray k) ∈ news) (hb : (b, listOf ys.toArray l) ∈ news) (hx : StrsAre xs ss) (hy : StrsAre ys ss) (hs : SeqAt.shaped (.list (ss.map PyData.str)) = true) (hu : A.units + 64 < cLine) (h : Q (.bool false) s) :
    wpAny (model PySem.Challenge.pw_ov0076_01 w) A (compareOp .NotEq (.ref a) (.ref b)) Q E s :=
  ne_dataH (reads_newData (N.isList ha) (StrsAre.carried hx)) (reads_newData (N.isList hb) (StrsAre.carried hy)) hs hs hu (by rw [SeqAt.eqv_refl _ (SeqAt.canLay_of_shaped hs)]; exact h)
theorem ne_bool_same {c : Bool} (h : Q (.bool false) s) : wpAny (model PySem.Challenge.pw_ov0076_01 w) A (compareOp .NotEq (.bool c) (.bool c)) Q E s := ne_bool (by rw [bne_self_eq_false]; exact h)
end

theorem inherits1_ct {w : World} {news : List (Addr × Obj)} {x nl : Addr} {q : Str} {tq : Tok} {L : List Str} {kn : Nat} (hc : ClsCt w x L news) (hn : (nl, listOf [Value.str q tq].toArray kn) ∈ news) :
    Ct w 568 [.ref x, .ref nl] 24 news (fun news' r => news' = news ∧ r = .bool (L.any (· == q))) :=
  (inherits_ct hc hn (.cons q tq .nil)).weaken fun _ _ h => ⟨h.1, by rw [h.2]; simp⟩
theorem inherits2_ct {w : World} {news : List (Addr × Obj)} {x nl : Addr} {q q₀ : Str} {tq t₀ : Tok} {L : List Str} {kn : Nat} (hc : ClsCt w x L news) (hno : L.any (· == q₀) = false) (hn : (nl, listOf [Value.str q₀ t₀, Value.str q tq].toArray kn) ∈ news) :
    Ct w 568 [.ref x, .ref nl] 24 news (fun news' r => news' = news ∧ r = .bool (L.any (· == q))) :=
  (inherits_ct hc hn (.cons q₀ t₀ (.cons q tq .nil))).weaken fun _ _ h => ⟨h.1, by rw [h.2]; simp [hno]⟩
theorem inherits0_ct {w : World} {news : List (Addr × Obj)} {x nl : Addr} {L : List Str} {kn : Nat} (hc : ClsCt w x L news) (hn : (nl, listOf ([] : List Value).toArray kn) ∈ news) :
    Ct w 568 [.ref x, .ref nl] 24 news (fun news' r => news' = news ∧ r = .bool false) :=
  (inherits_ct hc hn .nil).weaken fun _ _ h => ⟨h.1, by rw [h.2]; simp⟩

/-- what dispatch_class tells, whatever was made since -/
def DspCt (w : World) (x : Addr) (D : List Str) (news : List (Addr × Obj)) : Prop := ∀ n₁, (∀ p ∈ news, p ∈ n₁) → Ct w 575 [.ref x] 24 n₁ (FreshStrs n₁ D)
theorem DspCt.use {w : World} {x : Addr} {L : List Str} {news n₁ : List (Addr × Obj)} (h : DspCt w x L news) (hs : ∀ p ∈ news, p ∈ n₁) : Ct w 575 [.ref x] 24 n₁ (FreshStrs n₁ L) := h n₁ hs
local macro_rules | `(tactic| walk_at "compareOp NotEq bool bool") => `(tactic| (k_here; k_dflt (with_reducible refine ne_bool_same ?_)))
local macro_rules | `(tactic| walk_at "compareOp NotEq ref ref") => `(tactic| (k_here; (with_reducible show wpAny _ _ (compareOp CmpOp.NotEq (Value.ref _) (Value.ref _)) _ _ _); k_dflt (refine' ne_strs_same ?N ?a ?b ?x ?y ?s ?u ?_; (case N => k_asm); (case a => k_mem); (case b => k_mem); (case x => assumption); (case y => assumption); (case s => assumption); (case u => ke_room))))
local macro_rules | `(tactic| walk_at "call ref") => `(tactic| (k_here; (with_reducible show wpAny _ _ (call (Value.ref 575) _) _ _ _); k_dflt (refine' Ct.use (DspCt.use ?a0 ?a1) ?k1 ?k2 ?k3 ?k4 ?k5 ?k6 ?k7 ?k8 ?_; (case k1 => k_asm); (case k2 => k_asm); (case k3 => k_asm); (case k4 => k_asm); (case k5 => k_asm); (case k6 => first | exact rfl | assumption); (case k7 => ktr_room); (case k8 => ktr_units); (case a0 => assumption); (case a1 => kcj_all)); intro r9 news9 h9 tk9 F9 N9 ho9; k_dflt (obtain ⟨a9, vs9, k9, e9, e9', lt9, hs9⟩ := ho9; subst e9; subst e9'; (have hln9 := StrsAre.length hs9)); (try k_fold)))
local macro_rules | `(tactic| walk_at "call ref") => `(tactic| (k_here; (with_reducible show wpAny _ _ (call (Value.ref 568) _) _ _ _); k_dflt (first | refine' Ct.use (inherits0_ct ?a0 ?a1) ?k1 ?k2 ?k3 ?k4 ?k5 ?k6 ?k7 ?k8 ?_; (case k1 => k_asm); (case k2 => k_asm); (case k3 => k_asm); (case k4 => k_asm); (case k5 => k_asm); (case k6 => first | exact rfl | assumption); (case k7 => ktr_room); (case k8 => ktr_units); (case a0 => first | assumption | exact ClsCt.mono (by assumption) (by kcj_all)); (case a1 => k_mem) | refine' Ct.use (inherits1_ct ?a0 ?a1) ?k1 ?k2 ?k3 ?k4 ?k5 ?k6 ?k7 ?k8 ?_; (case k1 => k_asm); (case k2 => k_asm); (case k3 => k_asm); (case k4 => k_asm); (case k5 => k_asm); (case k6 => first | exact rfl | assumption); (case k7 => ktr_room); (case k8 => ktr_units); (case a0 => first | assumption | exact ClsCt.mono (by assumption) (by kcj_all)); (case a1 => k_mem) | refine' Ct.use (inherits2_ct ?a0 ?a2 ?a1) ?k1 ?k2 ?k3 ?k4 ?k5 ?k6 ?k7 ?k8 ?_; (case k1 => k_asm); (case k2 => k_asm); (case k3 => k_asm); (case k4 => k_asm); (case k5 => k_asm); (case k6 => first | exact rfl | assumption); (case k7 => ktr_room); (case k8 => ktr_units); (case a0 => first | assumption | exact ClsCt.mono (by assumption) (by kcj_all)); (case a1 => k_mem); (case a2 => assumption)); intro r9 news9 h9 tk9 F9 N9 ho9; k_dflt (obtain ⟨e9, e9'⟩ := ho9; subst e9; subst e9'); (try k_fold)))

theorem after_for {m₁ m₀ : Str → Option Value} {x : Str} (hm : ∀ z, z ≠ x → m₁ z = m₀ z) : ∃ o, m₁ = fun z => if z = x then o else m₀ z :=
  ⟨m₁ x, funext fun z => by by_cases h : z = x
                            · rw [if_pos h, h]
                            · rw [if_neg h, hm z h]⟩
abbrev tenWords : List Str := [Str.ofString "matrix", Str.ofString "array", Str.ofString "numeric", Str.ofString "integer", Str.ofString "double", Str.ofString "call", Str.ofString "one", Str.ofString "two", Str.ofString "Point", Str.ofString "NULL"]
local macro_rules | `(tactic| k_steps) => `(tactic| repeat' ((fail_if_success (with_reducible show wpAny _ _ (pyIter (Value.ref _)) _ _ _)); (first | (k_unfold; (try dsimp only)) | (k_end; wrow_close) | walk1 | (dsimp only; walk1) | (leave1; walk_say "STEP leave1"; try dsimp only))))

local macro_rules | `(tactic| walk_at "exec For Name List cons nil") => `(tactic| (k_here; k_dflt (refine' For_invVF ?k0 ?k1 ?k2 ?_; (case k0 => k_asm); (case k1 => exact rfl); (case k2 => exact rfl); k_whole)))
set_option maxHeartbeats 8000000 in
theorem agrees_ct {w : World} {news : List (Addr × Obj)} {x tl bl : Addr} {ts bs : List Value} {L D : List Str} {kt kb : Nat} (hc : ClsCt w x L news) (hdc : DspCt w x D news) (ht : (tl, listOf ts.toArray kt) ∈ news) (hts : StrsAre ts L) (hb : (bl, listOf bs.toArray kb) ∈ news) (hbs : StrsAre bs D)
    (hno : L.any (· == Str.ofString "none") = false) (hsL : SeqAt.shaped (.list (L.map PyData.str)) = true) (hsD : SeqAt.shaped (.list (D.map PyData.str)) = true) (hlL : L.length ≤ 8) (hlD : D.length ≤ 8) :
    Ct w 608 [.ref x, .ref tl, .ref bl] 40 news (fun news' r => news' = news ∧ r = .bool true) := by
  unfold Ct
  intro p loose mean mg mb dp un gd cn cs ad ccd cl outer A₀ base h₀ L' m s Q E B F X N T hk hd hu ret
  refine wpAny_call ?_
  k_dflt cell_enter
  k_steps
  refine' iter_strs (ss := tenWords) (fun _ => True) ?hh ?hl ?hi ?F ?N ?hj ?turn ?done
  case hh => exact rfl
  case F => k_asm
  case N => k_asm
  case hl => k_mem
  case hi => exact .cons _ _ (.cons _ _ (.cons _ _ (.cons _ _ (.cons _ _ (.cons _ _ (.cons _ _ (.cons _ _ (.cons _ _ (.cons _ _ .nil)))))))))
  case hj => trivial
  case turn =>
    intro i y t h tk led hy hp hsub F' N'
    have hc' : ClsCt w x L led := hc.mono fun p hp => hsub p (by repeat (first | assumption | apply List.mem_cons_of_mem))
    have ht' : (tl, listOf ts.toArray kt) ∈ led := hsub _ (by repeat (first | assumption | apply List.mem_cons_of_mem))
    clear hsub
    k_steps
    all_goals exact RdEnd.intro (by k_asm) (cb_drop (by k_asm) (by kcj_all)) (fun z hz => if_neg hz) trivial
  case done =>
    intro m₁ h tk hp hm F' N'
    obtain ⟨o, rfl⟩ := after_for hm
    clear hm
    k_steps
    all_goals exact ret _ _ _ _ (by k_asm) (cb_drop (by k_asm) fun p hp => by repeat (first | assumption | apply List.mem_cons_of_mem)) ⟨rfl, rfl⟩

theorem freshh : True := by
  w_top off
  trivial

theorem getL_put_self {name : Str} {hsh : Int} {key v : Value} {av : Value} : ∀ {es : List DictEntry}, getL name es = some (some av) → getL name (putL name hsh key v es) = some (some v)
  | [], h => by cases h
  | e :: r, h => by
    unfold putL
    by_cases he : e.key.isStr name = true
    · rw [if_pos he]; unfold getL; rw [List.find?_cons_of_pos (by exact he)]
    · rw [if_neg he]
      have h' : getL name r = some (some av) := by
        unfold getL at h ⊢
        rw [List.find?_cons_of_neg (by exact he)] at h
        cases hf : r.find? (fun x => x.key.isStr name) with
        | some y => rw [hf] at h; exact h
        | none => rw [hf] at h; dsimp only at h; split at h <;> cases h
      have ih := getL_put_self (hsh := hsh) (key := key) (v := v) h'
      unfold getL at ih ⊢
      rw [List.find?_cons_of_neg (by exact he)]
      cases hf : (putL name hsh key v r).find? (fun x => x.key.isStr name) with
      | some y => rw [hf] at ih; exact ih
      | none => rw [hf] at ih; dsimp only at ih; split at ih <;> cases ih
theorem isStr_two {k : Value} {a b : Str} (h : k.isStr a = true) (hb : k.isStr b = true) : a = b := by
  cases k <;> simp_all [PySem.Value.isStr]
theorem getL_put_other {name z : Str} {hsh : Int} {key v : Value} {av : Value} (hz : z ≠ name) : ∀ {es : List DictEntry}, getL name es = some (some av) → getL z (putL name hsh key v es) = getL z es
  | [], h => by cases h
  | e :: r, h => by
    unfold putL
    by_cases he : e.key.isStr name = true
    · rw [if_pos he]
      have hn : ¬ e.key.isStr z = true := fun hh => hz (isStr_two hh he)
      unfold getL; rw [List.find?_cons_of_neg (by exact hn), List.find?_cons_of_neg (by exact hn)]
      simp only [List.any_cons]; rfl
    · rw [if_neg he]
      have h' : getL name r = some (some av) := by
        unfold getL at h ⊢
        rw [List.find?_cons_of_neg (by exact he)] at h
        cases hf : r.find? (fun x => x.key.isStr name) with
        | some y => rw [hf] at h; exact h
        | none => rw [hf] at h; dsimp only at h; split at h <;> cases h
      have ih := getL_put_other (hsh := hsh) (key := key) (v := v) hz h'
      by_cases hq : e.key.isStr z = true
      · unfold getL; rw [List.find?_cons_of_pos (by exact hq), List.find?_cons_of_pos (by exact hq)]
      · have key2 : ∀ l : List DictEntry, getL z (e :: l) = if e.refKey = true ∧ (l.find? (fun x => x.key.isStr z)) = none then none else getL z l := by
          intro l
          unfold getL
          rw [List.find?_cons_of_neg (by exact hq)]
          cases hf : l.find? (fun x => x.key.isStr z) with
          | some y => simp
          | none => by_cases hr : e.refKey = true <;> simp [hr]
        have hfi : ((putL name hsh key v r).find? (fun x => x.key.isStr z) = none) ↔ (r.find? (fun x => x.key.isStr z) = none) := by
          unfold getL at ih
          cases h1 : (putL name hsh key v r).find? (fun x => x.key.isStr z) <;> cases h2 : r.find? (fun x => x.key.isStr z) <;> rw [h1, h2] at ih <;> dsimp only at ih <;> simp <;> (split at ih <;> cases ih)
        rw [key2, key2, ih]
        simp only [hfi]
theorem putL_len {name : Str} {hsh : Int} {key v : Value} {av : Value} : ∀ {es : List DictEntry}, getL name es = some (some av) → (putL name hsh key v es).length = es.length
  | [], h => by cases h
  | e :: r, h => by
    unfold putL
    by_cases he : e.key.isStr name = true
    · rw [if_pos he]; rfl
    · rw [if_neg he]
      have h' : getL name r = some (some av) := by
        unfold getL at h ⊢
        rw [List.find?_cons_of_neg (by exact he)] at h
        cases hf : r.find? (fun x => x.key.isStr name) with
        | some y => rw [hf] at h; exact h
        | none => rw [hf] at h; dsimp only at h; split at h <;> cases h
      simp [putL_len h']
theorem upd_of {d : Addr} {o o' : Obj} {post : List (Addr × Obj)} (b : ∀ p ∈ post, p.1 ≠ d) : ∀ {pre : List (Addr × Obj)}, (∀ p ∈ pre, p.1 ≠ d) → Upd d o o' (pre ++ (d, o) :: post) (pre ++ (d, o') :: post)
  | [], _ => .head b
  | q :: _, h => .tail (h q (.head _)) (upd_of b fun p hp => h p (.tail _ hp))

def Ms : List Str := [Str.ofString "attrs", Str.ofString "shared"]
theorem cs_over (w : World) : (Cs.all fun C => plainOver (hd.heap_39 w.params) C && hasDictIn (hd.heap_39 w.params) C && (findIn (hd.heap_39 w.params) (.ref C) "__setattr__" == some (some (.builtin "object.__setattr__"))) && (Ms.all fun x => takerIn (hd.heap_39 w.params) C x == some none)) = true := by
  kernel_rfl

theorem set8 {w : World} {A : Around} {E : Value → Shared → Prop} {s : Shared} {h₀ : Heap} {L : Addr} {m : Str → Option Value} {news : List (Addr × Obj)} {g : Obj → List (Addr × Obj)} {x C dx : Addr} {es : List DictEntry} {n : Nat} {name : Str} {v av : Value} {Q : Unit → Shared → Prop}
    (F : Fr h₀ L s.heap m) (X₀ : Frag.In (hd.heap_39 w.params) h₀) (N : News h₀ L s.heap news) (hC : C ∈ Cs) (hn : name ∈ Ms) (hx : (x, instObj C dx) ∈ news) (hd' : (dx, dictOf es n) ∈ news) (U : UpdF dx (dictOf es n) news g)
    (hl : getL name es = some (some av)) (hz : es.length ≤ 100)
    (h : ∀ h' es' n', Fr h₀ L h' m → News h₀ L h' (g (dictOf es' n')) → getL name es' = some (some v) → (∀ z, z ≠ name → getL z es' = getL z es) → es'.length = es.length → Q () { s with heap := h', toks := s.toks + 2 }) :
    wpAny (model PySem.Challenge.pw_ov0076_01 w) A (setAttr (.ref x) name v) Q E s := by
  have e := List.all_eq_true.mp (cs_over w) C hC
  simp only [Bool.and_eq_true, beq_iff_eq] at e
  have e4 := List.all_eq_true.mp e.2 name hn
  simp only [beq_iff_eq] at e4
  obtain ⟨pre, post, rfl, hg, a, b⟩ := U.split
  refine set_dict F X₀ N (InstAt.of_news N hx hd') rfl e.1.2 e.1.1.1 e4 e.1.1.2 (by rw [hl]; rfl) rfl (upd_of b a) (by rw [putL_len hl]; omega) fun h' F' N' => ?_
  exact h h' _ _ F' (by rw [hg]; exact N') (getL_put_self hl) (fun z hz' => getL_put_other hz' hl) (putL_len hl)

local macro_rules | `(tactic| walk_at "setAttr ref") => `(tactic| (k_here; (with_reducible show wpAny _ _ (setAttr (Value.ref _) _ _) _ _ _); k_dflt (refine' set8 ?k1 ?k2 ?k3 ?k4 ?k5 ?k6 ?k7 ?k8 ?k9 ?k10 ?_; (case k1 => k_asm); (case k2 => k_asm); (case k3 => k_asm); (case k6 => k_mem); (case k4 => first | assumption | decide); (case k5 => decide); (case k7 => k_mem); (case k8 => k_updF); (case k9 => first | assumption | k_get); (case k10 => first | assumption | exact Nat.le_of_ble_eq_true rfl); k_whole); intro h' es9 n9 F' N' g9 go9 z9))
theorem ieq_no {x y : Int} {P R : Prop} (h : x ≠ y) (q : R) : if (x == y) = true then P else R := by rw [if_neg (by simpa using h)]; exact q
theorem ieq_yes {x y : Int} {P R : Prop} (h : x = y) (q : P) : if (x == y) = true then P else R := by rw [if_pos (by simpa using h)]; exact q
theorem ine_no {x y : Int} {P R : Prop} (h : x = y) (q : R) : if (x != y) = true then P else R := by rw [if_neg (by simpa using h)]; exact q
theorem ine_yes {x y : Int} {P R : Prop} (h : x ≠ y) (q : P) : if (x != y) = true then P else R := by rw [if_pos (by simpa using h)]; exact q
local macro_rules | `(tactic| walk_at "ite") => `(tactic| (k_here; first | (with_reducible refine ieq_no (by first | omega | (simp only [List.length_cons, List.length_nil]; omega)) ?_) | (with_reducible refine ieq_yes (by first | omega | (simp only [List.length_cons, List.length_nil]; omega)) ?_) | (with_reducible refine ine_no (by first | omega | (simp only [List.length_cons, List.length_nil]; omega)) ?_) | (with_reducible refine ine_yes (by first | omega | (simp only [List.length_cons, List.length_nil]; omega)) ?_)))
local macro_rules | `(tactic| walk_at "ite") => `(tactic| (k_here; first | (with_reducible refine ite_ff ?_) | (with_reducible refine ite_tt ?_)))
local macro_rules | `(tactic| walk_at "call type:list") => `(tactic| (k_here; (with_reducible show wpAny _ _ (call (Value.type _) [Value.ref _]) _ _ _); k_dflt (refine' list_copyK ?k1 ?k2 ?k3 ?_ ?z; (case k1 => k_asm); (case k2 => k_asm); (case k3 => is_list); (case z => (simp only [List.size_toArray]; rw [sizeLine_eq]; omega))); intro D' c' h' F' N' l1; (try k_lt l1); (try k_sweep)))

def ImpCt (w : World) (x : Addr) (I : List Str) (news : List (Addr × Obj)) : Prop := ∀ n₁, (∀ p ∈ news, p ∈ n₁) → Ct w 554 [.ref x] 16 n₁ (FreshStrs n₁ I)
theorem ImpCt.use {w : World} {x : Addr} {L : List Str} {news n₁ : List (Addr × Obj)} (h : ImpCt w x L news) (hs : ∀ p ∈ news, p ∈ n₁) : Ct w 554 [.ref x] 16 n₁ (FreshStrs n₁ L) := h n₁ hs
/-- what the three questions tell of the object x, whatever was made since -/
structure Live (w : World) (x : Addr) (L D I : List Str) (news : List (Addr × Obj)) : Prop where
  cls : ClsCt w x L news
  dsp : DspCt w x D news
  imp : ImpCt w x I news
theorem Live.mono {w : World} {x : Addr} {L D I : List Str} {news n₁ : List (Addr × Obj)} (h : Live w x L D I news) (hs : ∀ p ∈ news, p ∈ n₁) : Live w x L D I n₁ :=
  ⟨fun n hn => h.cls n fun p hp => hn p (hs p hp), fun n hn => h.dsp n fun p hp => hn p (hs p hp), fun n hn => h.imp n fun p hp => hn p (hs p hp)⟩
theorem PlainIn.congr {news : List (Addr × Obj)} {es es' : List DictEntry} {k pc : Str} (h : ∀ z, z ≠ Str.ofString "attrs" → getL z es' = getL z es) (c : PlainIn news es k pc) : PlainIn news es' k pc := by
  cases c with
  | lang a b c => exact .lang ((h _ (by decide)).trans a) b c
  | sym => exact .sym
  | s4 a => exact .s4 ((h _ (by decide)).trans a)
  | clo => exact .clo
  | blt => exact .blt
  | spc => exact .spc
  | own a b c d e f => exact .own a b c d e f
/-- an object of kind k: all but its attributes -/
structure VObj (rest : List (Addr × Obj)) (x C dx : Addr) (es : List DictEntry) (k pc : Str) (tl : List Str) : Prop where
  hC : C ∈ Cs
  hx : (x, instObj C dx) ∈ rest
  hk : ∃ tk, getL (Str.ofString "kind") es = some (some (.str k tk))
  hz : es.length ≤ 100
  hp : PlainIn rest es k pc
  ht : NumIn k tl
theorem VObj.live {w : World} {rest news : List (Addr × Obj)} {x C dx : Addr} {es : List DictEntry} {n : Nat} {k pc : Str} {tl : List Str} {av : Value} {row shape : List Str} (V : VObj rest x C dx es k pc tl) (hd : (dx, dictOf es n) ∈ news) (hs : ∀ p ∈ rest, p ∈ news)
    (ha : getL (Str.ofString "attrs") es = some (some av)) (hr : AttrIn w news av row shape) : Live w x (clsOf row shape k pc) (dspOf row shape pc tl) (shape ++ [pc] ++ tl) news := by
  obtain ⟨tk, hk⟩ := V.hk
  refine ⟨fun n₁ h₁ => ?_, fun n₁ h₁ => ?_, fun n₁ h₁ => ?_⟩
  · exact class_of_ct V.hC (h₁ _ (hs _ V.hx)) (h₁ _ hd) hk ha (hr.mono h₁) (V.hp.mono fun p hp => h₁ p (hs p hp))
  · exact dispatch_class_ct V.hC (h₁ _ (hs _ V.hx)) (h₁ _ hd) hk ha (hr.mono h₁) (V.hp.mono fun p hp => h₁ p (hs p hp)) V.ht
  · exact implicit_class_ct V.hC (h₁ _ (hs _ V.hx)) (h₁ _ hd) hk ha (hr.mono h₁) (V.hp.mono fun p hp => h₁ p (hs p hp)) V.ht
theorem VObj.congr {rest rest' : List (Addr × Obj)} {x C dx : Addr} {es es' : List DictEntry} {k pc : Str} {tl : List Str} (V : VObj rest x C dx es k pc tl) (h : ∀ z, z ≠ Str.ofString "attrs" → getL z es' = getL z es) (hz : es'.length = es.length) (hs : ∀ p ∈ rest, p ∈ rest') : VObj rest' x C dx es' k pc tl :=
  ⟨V.hC, hs _ V.hx, let ⟨t, e⟩ := V.hk; ⟨t, (h _ (by decide)).trans e⟩, hz ▸ V.hz, (V.hp.congr h).mono hs, V.ht⟩
theorem cls_row {row shape : List Str} {k pc : Str} (h : row ≠ []) : clsOf row shape k pc = row := if_neg h
theorem dsp_row {row shape tl : List Str} {pc : Str} (h : row ≠ []) : dspOf row shape pc tl = row := if_neg h

set_option maxHeartbeats 8000000 in
theorem set_class_none {w : World} {rest : List (Addr × Obj)} {x C dx c cdx il : Addr} {es ces : List DictEntry} {n cn kl : Nat} {k : Str} {tk ck tc : Tok} {vs : List Value} {row : List Str} (hC : C ∈ Cs) (hx : (x, instObj C dx) ∈ rest) (hkd : getL (Str.ofString "kind") es = some (some (.str k tk))) (hk0 : (k == Str.ofString "NULL") = false)
    (ha : getL (Str.ofString "attrs") es = some (some .none)) (hz : es.length ≤ 100) (hc : (c, instObj 196 cdx) ∈ rest) (hcd : (cdx, dictOf ces cn) ∈ rest) (hck : getL (Str.ofString "kind") ces = some (some (.str (Str.ofString "character") ck))) (hci : getL (Str.ofString "items") ces = some (some (.ref il))) (hil : (il, listOf vs.toArray kl) ∈ rest)
    (hs : StrsAre vs row) (hrow : 0 < row.length) (hrow3 : row.length ≤ 3) (hfac : row.any (fun x => x == Str.ofString "factor") = false) (hoff : ∀ p ∈ rest, p.1 ≠ dx) :
    Ct w 453 [.ref x, .str (Str.ofString "class") tc, .ref c] 12 ((dx, dictOf es n) :: rest) (fun news' r => ∃ d o x' d1 D es1 n1 c' es2 n2, r = .none ∧ news' = (d, o) :: (x', instObj 196 d1) :: (d1, dictOf es1 n1) :: (D, listOf vs.toArray c') :: (dx, dictOf es2 n2) :: rest ∧ o.IsDictOf (knd w) [(Str.ofString "class", .ref x')] ∧ (d == sysModules) = false ∧
      getL (Str.ofString "items") es1 = some (some (.ref D)) ∧ getL (Str.ofString "attrs") es2 = some (some (.ref d)) ∧ (∀ z, z ≠ Str.ofString "attrs" → getL z es2 = getL z es) ∧ es2.length = es.length ∧ (AllLt D ((dx, dictOf es n) :: rest)) ∧ (@LT.lt Nat _ D d1 ∧ @LT.lt Nat _ d1 x' ∧ @LT.lt Nat _ x' d)) := by
  have hvl := hs.length
  have hlt : vs.length ≤ 8 := by omega
  unfold Ct
  intro p loose mean mg mb dp un gd cn cs ad ccd cl outer A₀ base h₀ L m s Q E B F X N T hk hd hu ret
  refine wpAny_call ?_
  k_dflt cell_enter
  k_steps
  refine ret _ _ _ _ (by k_asm) (by k_asm) ⟨_, _, _, _, _, _, _, _, _, _, rfl, rfl, ?_⟩
  refine ⟨by assumption, by assumption, ?_, by assumption, by assumption, by assumption, ?_, ?_⟩
  · exact Eq.trans ((by assumption : ∀ z, z ≠ Str.ofString "shared" → getL z _ = getL z _) (Str.ofString "items") (by decide)) rfl
  · assumption
  · omega

theorem freshi : True := by
  w_top off
  trivial

set_option maxHeartbeats 8000000 in
theorem set_class_dict {w : World} {rest : List (Addr × Obj)} {x C dx c cdx il d c0 : Addr} {o : Obj} {es ces : List DictEntry} {n cn kl : Nat} {k : Str} {tk ck tc : Tok} {vs : List Value} {row : List Str} (hC : C ∈ Cs) (hx : (x, instObj C dx) ∈ rest) (hdx : (dx, dictOf es n) ∈ rest) (hkd : getL (Str.ofString "kind") es = some (some (.str k tk))) (hk0 : (k == Str.ofString "NULL") = false)
    (ha : getL (Str.ofString "attrs") es = some (some (.ref d))) (hc : (c, instObj 196 cdx) ∈ rest) (hcd : (cdx, dictOf ces cn) ∈ rest) (hck : getL (Str.ofString "kind") ces = some (some (.str (Str.ofString "character") ck))) (hci : getL (Str.ofString "items") ces = some (some (.ref il))) (hil : (il, listOf vs.toArray kl) ∈ rest)
    (ho : o.IsDictOf (knd w) [(Str.ofString "dim", .ref c0)]) (hlo : (d == sysModules) = false) (hs : StrsAre vs row) (hrow : 0 < row.length) (hrow3 : row.length ≤ 3) (hfac : row.any (fun x => x == Str.ofString "factor") = false) (hoff : ∀ p ∈ rest, p.1 ≠ d) :
    Ct w 453 [.ref x, .str (Str.ofString "class") tc, .ref c] 12 ((d, o) :: rest) (fun news' r => ∃ o' x' d1 D es1 n1 c', r = .none ∧ news' = (x', instObj 196 d1) :: (d1, dictOf es1 n1) :: (D, listOf vs.toArray c') :: (d, o') :: rest ∧ o'.IsDictOf (knd w) [(Str.ofString "dim", .ref c0), (Str.ofString "class", .ref x')] ∧
      getL (Str.ofString "items") es1 = some (some (.ref D)) ∧ (AllLt D ((d, o) :: rest)) ∧ (@LT.lt Nat _ D d1 ∧ @LT.lt Nat _ d1 x')) := by
  have hvl := hs.length
  have hlt : vs.length ≤ 8 := by omega
  unfold Ct
  intro p loose mean mg mb dp un gd cn cs ad ccd cl outer A₀ base h₀ L m s Q E B F X N T hk hd hu ret
  refine wpAny_call ?_
  k_dflt cell_enter
  k_steps
  refine ret _ _ _ _ (by k_asm) (by k_asm) ⟨_, _, _, _, _, _, _, rfl, rfl, ?_⟩
  refine ⟨by assumption, ?_, ?_, ?_⟩
  · exact Eq.trans ((by assumption : ∀ z, z ≠ Str.ofString "shared" → getL z _ = getL z _) (Str.ofString "items") (by decide)) rfl
  · assumption
  · omega

set_option maxHeartbeats 8000000 in
theorem drop_class_none {w : World} {rest : List (Addr × Obj)} {x C dx c cdx d c0 : Addr} {o : Obj} {es ces : List DictEntry} {n cn : Nat} {k : Str} {tk ck tc : Tok} (hC : C ∈ Cs) (hx : (x, instObj C dx) ∈ rest) (hkd : getL (Str.ofString "kind") es = some (some (.str k tk))) (hk0 : (k == Str.ofString "NULL") = false)
    (ha : getL (Str.ofString "attrs") es = some (some (.ref d))) (hz : es.length ≤ 100) (hc : (c, instObj 167 cdx) ∈ rest) (hcd : (cdx, dictOf ces cn) ∈ rest) (hck : getL (Str.ofString "kind") ces = some (some (.str (Str.ofString "NULL") ck)))
    (ho : o.IsDictOf (knd w) [(Str.ofString "class", .ref c0)]) (hlo : (d == sysModules) = false) (hoff : ∀ p ∈ rest, p.1 ≠ d) (hoff2 : ∀ p ∈ rest, p.1 ≠ dx) (hne : @Ne Nat d dx) :
    Ct w 453 [.ref x, .str (Str.ofString "class") tc, .ref c] 12 ((d, o) :: (dx, dictOf es n) :: rest) (fun news' r => ∃ es2 n2, r = .none ∧ news' = (dx, dictOf es2 n2) :: rest ∧ getL (Str.ofString "attrs") es2 = some (some .none) ∧ (∀ z, z ≠ Str.ofString "attrs" → getL z es2 = getL z es) ∧ es2.length = es.length) := by
  unfold Ct
  intro p loose mean mg mb dp un gd cn cs ad ccd cl outer A₀ base h₀ L m s Q E B F X N T hk hd hu ret
  refine wpAny_call ?_
  k_dflt cell_enter
  k_steps
  refine ret _ _ _ _ (by k_asm) (cb_drop (by k_asm) (by kcj_all)) ⟨_, _, rfl, rfl, ?_⟩
  refine ⟨by assumption, by assumption, by assumption⟩

set_option maxHeartbeats 8000000 in
theorem drop_class_dict {w : World} {rest : List (Addr × Obj)} {x C dx c cdx d c0 c1 : Addr} {o : Obj} {es ces : List DictEntry} {n cn : Nat} {k : Str} {tk ck tc : Tok} (hC : C ∈ Cs) (hx : (x, instObj C dx) ∈ rest) (hdx : (dx, dictOf es n) ∈ rest) (hkd : getL (Str.ofString "kind") es = some (some (.str k tk))) (hk0 : (k == Str.ofString "NULL") = false)
    (ha : getL (Str.ofString "attrs") es = some (some (.ref d))) (hc : (c, instObj 167 cdx) ∈ rest) (hcd : (cdx, dictOf ces cn) ∈ rest) (hck : getL (Str.ofString "kind") ces = some (some (.str (Str.ofString "NULL") ck)))
    (ho : o.IsDictOf (knd w) [(Str.ofString "dim", .ref c1), (Str.ofString "class", .ref c0)]) (hlo : (d == sysModules) = false) (hoff : ∀ p ∈ rest, p.1 ≠ d) :
    Ct w 453 [.ref x, .str (Str.ofString "class") tc, .ref c] 12 ((d, o) :: rest) (fun news' r => ∃ o', r = .none ∧ news' = (d, o') :: rest ∧ o'.IsDictOf (knd w) [(Str.ofString "dim", .ref c1)]) := by
  unfold Ct
  intro p loose mean mg mb dp un gd cn cs ad ccd cl outer A₀ base h₀ L m s Q E B F X N T hk hd hu ret
  refine wpAny_call ?_
  k_dflt cell_enter
  k_steps
  refine ret _ _ _ _ (by k_asm) (by k_asm) ⟨_, rfl, rfl, ?_⟩
  assumption

theorem freshj : True := by
  w_top off
  trivial

section
variable {prog : Program} {w : World} {A : Around} {E : Value → Shared → Prop} {s : Shared} {env : Env} {h₀ : Heap} {x : Str} {body : List Stmt} {Q : Flow → Shared → Prop}
/-- the end of a turn that changes the part st of the ledger and keeps the part big -/
def StEnd (h₀ : Heap) (L : Addr) (big : List (Addr × Obj)) (J : (Str → Option Value) → List (Addr × Obj) → Prop) (s₁ s₂ : Shared) : Prop :=
  ∃ h' tk m' st', s₂ = { s₁ with heap := h', toks := tk } ∧ Fr h₀ L h' m' ∧ News h₀ L h' (st' ++ big) ∧ J m' st'
def StPost (h₀ : Heap) (L : Addr) (big : List (Addr × Obj)) (J : (Str → Option Value) → List (Addr × Obj) → Prop) (s₁ : Shared) (Q : Flow → Shared → Prop) (f : Flow) (s₂ : Shared) : Prop :=
  match f with
  | .ret v => Q (.ret v) s₂
  | .brk => Q .next s₂
  | _ => StEnd h₀ L big J s₁ s₂
theorem StEnd.intro {L : Addr} {big : List (Addr × Obj)} {J : (Str → Option Value) → List (Addr × Obj) → Prop} {s₁ : Shared} {h' : Heap} {tk : Nat} {m' : Str → Option Value} (st' : List (Addr × Obj)) (F : Fr h₀ L h' m') (N : News h₀ L h' (st' ++ big)) (hj : J m' st') : StEnd h₀ L big J s₁ { s₁ with heap := h', toks := tk } := ⟨h', tk, m', st', rfl, F, N, hj⟩

theorem st_loop {I : Addr} {fp wr : List Addr} {n : Nat} {P : Nat → Value → Prop} {St : Nat → Heap → Prop} {m₀ : Str → Option Value} {st₀ base : List (Addr × Obj)} (J : Nat → (Str → Option Value) → List (Addr × Obj) → Prop) (addrs : List Addr)
    (W : Walks prog w A I fp wr n P St) (hLf : env.locals ∉ fp) (hwr : ∀ b ∈ wr, h₀.get? b = none) (hbw : ∀ p ∈ base, p.1 ∉ wr) (haw : ∀ a ∈ addrs, a ∉ wr) (haf : ∀ a ∈ addrs, a ∉ fp) (hst : St 0 s.heap) (F : Fr h₀ env.locals s.heap m₀) (N : News h₀ env.locals s.heap (st₀ ++ base)) (h0 : J 0 m₀ st₀)
    (hJ : ∀ i m st, J i m st → ∀ p ∈ st, p.1 ∈ addrs) (hoff : ∀ a ∈ addrs, ∀ q ∈ base, q.1 ≠ a)
    (turn : ∀ i v h tk m st big, i < n → P i v → J i m st → (∀ p ∈ base, p ∈ big) → (∀ a ∈ addrs, ∀ q ∈ big, q.1 ≠ a) → Fr h₀ env.locals h (fun y => if y = x then some v else m y) → News h₀ env.locals h (st ++ big) →
      wpAny (model prog w) A (execs body env) (StPost h₀ env.locals big (J (i + 1)) { s with heap := h, toks := tk } Q) E { s with heap := h, toks := tk })
    (done : ∀ m h tk st, J n m st → Fr h₀ env.locals h m → News h₀ env.locals h (st ++ base) → Q .next { s with heap := h, toks := tk }) :
    LoopAtV prog w A h₀ env x body Q E (.ref I) s := by
  refine ⟨I, fp, wr, n, P, St, m₀, st₀ ++ base, fun i m nx => ∃ st, nx = st ++ base ∧ J i m st, rfl, W, hLf, hwr, ?_, hst, F, N, ⟨st₀, rfl, h0⟩, ?_, ?_⟩
  · intro p hp
    rcases List.mem_append.mp hp with hp | hp
    · exact haw _ (hJ _ _ _ h0 p hp)
    · exact hbw p hp
  · rintro i v m₁ news₁ s₁ own ⟨hh', tk', rfl⟩ hin hP ⟨st, rfl, hj⟩ hoffw hown hget hfp _ F₁ N₁
    have hbig : ∀ p ∈ base, p ∈ own ++ base := fun p hp => List.mem_append_right _ hp
    have hdis : ∀ a ∈ addrs, ∀ q ∈ own ++ base, q.1 ≠ a := by
      intro a ha q hq e
      rcases List.mem_append.mp hq with hq | hq
      · exact haf a ha (e ▸ hown q hq)
      · exact hoff a ha q hq e
    have N₂ : News h₀ env.locals hh' (st ++ (own ++ base)) := fun p hp => N₁ p (by
      rcases List.mem_append.mp hp with hp | hp
      · exact List.mem_append_right _ (List.mem_append_left _ hp)
      · rcases List.mem_append.mp hp with hp | hp
        · exact List.mem_append_left _ hp
        · exact List.mem_append_right _ (List.mem_append_right _ hp))
    refine wpAny_mono (turn i v hh' tk' m₁ st (own ++ base) hin hP hj hbig hdis F₁ N₂) (fun f s₂ p => ?_) fun _ _ e => e
    have fin : StEnd h₀ env.locals (own ++ base) (J (i + 1)) { s with heap := hh', toks := tk' } s₂ →
        LoopStepU h₀ env.locals wr own (fun m nx => ∃ st, nx = st ++ base ∧ J (i + 1) m st) { s with heap := hh', toks := tk' } .next s₂ := by
      rintro ⟨h', tk, m', st', e, F', N', hj'⟩
      refine ⟨rfl, h', tk, m', st' ++ base, e, F', fun p hp => N' p ?_, ?_, st', rfl, hj'⟩
      · rcases List.mem_append.mp hp with hp | hp
        · exact List.mem_append_right _ (List.mem_append_left _ hp)
        · rcases List.mem_append.mp hp with hp | hp
          · exact List.mem_append_left _ hp
          · exact List.mem_append_right _ (List.mem_append_right _ hp)
      · intro p hp
        rcases List.mem_append.mp hp with hp | hp
        · exact haw _ (hJ _ _ _ hj' p hp)
        · exact hbw p hp
    cases f with
    | ret v => exact .ret p
    | brk => exact .brk p
    | next => exact .next (fin p)
    | cont => exact .cont (fin p)
  · rintro h' tk m' news' F' N' _ ⟨st, rfl, hj⟩
    exact done m' h' tk st hj F' N'

theorem iter_st {l : Addr} {vs : List Value} {nn : Nat} {m₀ : Str → Option Value} {st₀ base : List (Addr × Obj)} (J : Nat → (Str → Option Value) → List (Addr × Obj) → Prop) (addrs : List Addr)
    (hh : A.handled = none) (hl : (l, listOf vs.toArray nn) ∈ base) (F : Fr h₀ env.locals s.heap m₀) (N : News h₀ env.locals s.heap (st₀ ++ base)) (h0 : J 0 m₀ st₀)
    (hJ : ∀ i m st, J i m st → ∀ p ∈ st, p.1 ∈ addrs) (hat : ∀ a ∈ addrs, ∃ o, (a, o) ∈ st₀ ++ base) (hoff : ∀ a ∈ addrs, ∀ q ∈ base, q.1 ≠ a)
    (turn : ∀ i v h tk m st big, vs[i]? = some v → J i m st → (∀ p ∈ base, p ∈ big) → (∀ a ∈ addrs, ∀ q ∈ big, q.1 ≠ a) → Fr h₀ env.locals h (fun y => if y = x then some v else m y) → News h₀ env.locals h (st ++ big) →
      wpAny (model prog w) A (execs body env) (StPost h₀ env.locals big (J (i + 1)) { s with heap := h, toks := tk } Q) E { s with heap := h, toks := tk })
    (done : ∀ m h tk st, J vs.length m st → Fr h₀ env.locals h m → News h₀ env.locals h (st ++ base) → Q .next { s with heap := h, toks := tk }) :
    wpAny (model prog w) A (pyIter (.ref l)) (fun it s₂ => LoopAtV prog w A h₀ env x body Q E it s₂) E s := by
  have hlm := N _ (List.mem_append_right _ hl)
  have hls : s.heap.IsList l vs.toArray := ⟨_, hlm.1, rfl, nn, rfl⟩
  have hne : l ≠ s.heap.objs.size := Nat.ne_of_lt (Heap.lt_size hlm.1)
  refine wpAny_pyIter_list hls ?_
  have W := Walks.list (prog := prog) (w := w) hh s.heap.objs.size l hne vs.toArray
  have hlen : vs.toArray.size = vs.length := by simp
  rw [hlen] at W
  have hnew : ∀ a ∈ addrs, a ≠ s.heap.objs.size := fun a ha => by
    obtain ⟨o, ho⟩ := hat a ha
    exact Nat.ne_of_lt (Heap.lt_size (N _ ho).1)
  refine st_loop J addrs W ?_ ?_ ?_ ?_ ?_ ⟨⟨_, Heap.get?_push_size _ rfl, rfl, rfl⟩, hls.at fun o e => Heap.get?_push_of_some _ e⟩ (F.push _) (fun p hp => ⟨Heap.get?_push_of_some _ (N p hp).1, (N p hp).2⟩) h0 hJ hoff (fun i v h tk m st big _ hP hj a b c d => turn i v h tk m st big (by simpa using hP) hj a b c d) done
  · intro hm
    rcases List.mem_cons.mp hm with e | hm
    · exact absurd F.ns.lt (e ▸ Nat.lt_irrefl _)
    · exact hlm.2.1 ((List.mem_singleton.mp hm).symm)
  · intro b hb
    rw [List.mem_singleton.mp hb]
    exact next_is_new F
  · intro p hp hI
    exact absurd (Heap.lt_size (N p (List.mem_append_right _ hp)).1) ((List.mem_singleton.mp hI) ▸ Nat.lt_irrefl _)
  · intro a ha hI
    exact hnew a ha (List.mem_singleton.mp hI)
  · intro a ha hI
    rcases List.mem_cons.mp hI with e | hm
    · exact hnew a ha e
    · exact hoff a ha _ hl ((List.mem_singleton.mp hm).symm)

theorem range_st {r : Addr} {a₀ b₀ : Int} {t₀ u₀ v₀ : Tok} {n : Nat} {m₀ : Str → Option Value} {st₀ base : List (Addr × Obj)} (J : Nat → (Str → Option Value) → List (Addr × Obj) → Prop) (addrs : List Addr)
    (hh : A.handled = none) (hr : IsRange s.heap r a₀ b₀ 1 t₀ u₀ v₀) (hsmall : Builtin.Range.small a₀ b₀ 1 = true) (hn : Builtin.Range.rangeSize a₀ b₀ 1 = (n : Int)) (F : Fr h₀ env.locals s.heap m₀) (N : News h₀ env.locals s.heap (st₀ ++ base)) (h0 : J 0 m₀ st₀)
    (hJ : ∀ i m st, J i m st → ∀ p ∈ st, p.1 ∈ addrs) (hat : ∀ a ∈ addrs, ∃ o, (a, o) ∈ st₀ ++ base) (hoff : ∀ a ∈ addrs, ∀ q ∈ base, q.1 ≠ a)
    (turn : ∀ i t h tk m st big, i < n → J i m st → (∀ p ∈ base, p ∈ big) → (∀ a ∈ addrs, ∀ q ∈ big, q.1 ≠ a) → Fr h₀ env.locals h (fun y => if y = x then some (.int (a₀ + i * 1) t) else m y) → News h₀ env.locals h (st ++ big) →
      wpAny (model prog w) A (execs body env) (StPost h₀ env.locals big (J (i + 1)) { s with heap := h, toks := tk } Q) E { s with heap := h, toks := tk })
    (done : ∀ m h tk st, J n m st → Fr h₀ env.locals h m → News h₀ env.locals h (st ++ base) → Q .next { s with heap := h, toks := tk }) :
    wpAny (model prog w) A (pyIter (.ref r)) (fun it s₂ => LoopAtV prog w A h₀ env x body Q E it s₂) E s := by
  refine wpAny_pyIter_range hr hsmall ?_
  have W := Walks.range (prog := prog) (w := w) hh s.heap.objs.size a₀ 1 n
  have hnew : ∀ a ∈ addrs, a ≠ s.heap.objs.size := fun a ha => by
    obtain ⟨o, ho⟩ := hat a ha
    exact Nat.ne_of_lt (Heap.lt_size (N _ ho).1)
  refine st_loop J addrs W ?_ ?_ ?_ ?_ ?_ (by show IsRangeIter _ _ _ _ _; rw [hn]; simpa using Heap.get?_push_size _ rfl) (F.push _) (fun p hp => ⟨Heap.get?_push_of_some _ (N p hp).1, (N p hp).2⟩) h0 hJ hoff (fun i v h tk m st big hi hP hj a b c d => by obtain ⟨t, rfl⟩ := hP; exact turn i t h tk m st big hi hj a b c d) done
  · intro hm
    exact absurd F.ns.lt ((List.mem_singleton.mp hm) ▸ Nat.lt_irrefl _)
  · intro b hb
    rw [List.mem_singleton.mp hb]
    exact next_is_new F
  · intro p hp hI
    exact absurd (Heap.lt_size (N p (List.mem_append_right _ hp)).1) ((List.mem_singleton.mp hI) ▸ Nat.lt_irrefl _)
  · intro a ha hI
    exact hnew a ha (List.mem_singleton.mp hI)
  · intro a ha hI
    exact hnew a ha (List.mem_singleton.mp hI)

/-- a loop that changes no name but its own -/
theorem iter_st1 {l : Addr} {vs : List Value} {nn : Nat} {m₀ : Str → Option Value} {st₀ base : List (Addr × Obj)} (K : Nat → List (Addr × Obj) → Prop) (addrs : List Addr)
    (hh : A.handled = none) (hl : (l, listOf vs.toArray nn) ∈ base) (F : Fr h₀ env.locals s.heap m₀) (N : News h₀ env.locals s.heap (st₀ ++ base)) (h0 : K 0 st₀)
    (hJ : ∀ i st, K i st → ∀ p ∈ st, p.1 ∈ addrs) (hat : ∀ a ∈ addrs, ∃ o, (a, o) ∈ st₀ ++ base) (hoff : ∀ a ∈ addrs, ∀ q ∈ base, q.1 ≠ a)
    (turn : ∀ i v h tk st big, vs[i]? = some v → K i st → (∀ p ∈ base, p ∈ big) → (∀ a ∈ addrs, ∀ q ∈ big, q.1 ≠ a) → Fr h₀ env.locals h (fun y => if y = x then some v else m₀ y) → News h₀ env.locals h (st ++ big) →
      wpAny (model prog w) A (execs body env) (StPost h₀ env.locals big (fun m' st' => (∀ z, z ≠ x → m' z = m₀ z) ∧ K (i + 1) st') { s with heap := h, toks := tk } Q) E { s with heap := h, toks := tk })
    (done : ∀ o h tk st, K vs.length st → Fr h₀ env.locals h (fun y => if y = x then o else m₀ y) → News h₀ env.locals h (st ++ base) → Q .next { s with heap := h, toks := tk }) :
    wpAny (model prog w) A (pyIter (.ref l)) (fun it s₂ => LoopAtV prog w A h₀ env x body Q E it s₂) E s := by
  refine iter_st (fun i m' st => (∀ z, z ≠ x → m' z = m₀ z) ∧ K i st) addrs hh hl F N ⟨fun _ _ => rfl, h0⟩ (fun i _ st h => hJ i st h.2) hat hoff ?_ ?_
  · intro i v h tk m st big hv hK a b F' N'
    have e : (fun y => if y = x then some v else m y) = fun y => if y = x then some v else m₀ y := by
      funext z; by_cases hz : z = x
      · rw [if_pos hz, if_pos hz]
      · rw [if_neg hz, if_neg hz, hK.1 z hz]
    rw [e] at F'
    exact turn i v h tk st big hv hK.2 a b F' N'
  · intro m h tk st hK F' N'
    obtain ⟨o, rfl⟩ := after_for hK.1
    exact done o h tk st hK.2 F' N'
theorem after_for2 {m₁ m₀ : Str → Option Value} {x y : Str} {a : Value} (hm : ∀ z, z ≠ x → z ≠ y → m₁ z = m₀ z) (hy : m₁ y = some a) : ∃ o, m₁ = fun z => if z = x then o else if z = y then some a else m₀ z :=
  ⟨m₁ x, funext fun z => by
    by_cases h : z = x
    · rw [if_pos h, h]
    · rw [if_neg h]
      by_cases h' : z = y
      · rw [if_pos h', h', hy]
      · rw [if_neg h', hm z h h']⟩
/-- a loop that changes its own name and one more -/
theorem iter_st2 {l : Addr} {vs : List Value} {nn : Nat} {m₀ : Str → Option Value} {st₀ base : List (Addr × Obj)} (y : Str) (hxy : y ≠ x) (K : Nat → Value → List (Addr × Obj) → Prop) (addrs : List Addr) {a₀ : Value}
    (hh : A.handled = none) (hl : (l, listOf vs.toArray nn) ∈ base) (F : Fr h₀ env.locals s.heap m₀) (N : News h₀ env.locals s.heap (st₀ ++ base)) (hy : m₀ y = some a₀) (h0 : K 0 a₀ st₀)
    (hJ : ∀ i a st, K i a st → ∀ p ∈ st, p.1 ∈ addrs) (hat : ∀ a ∈ addrs, ∃ o, (a, o) ∈ st₀ ++ base) (hoff : ∀ a ∈ addrs, ∀ q ∈ base, q.1 ≠ a)
    (turn : ∀ i v a h tk st big, vs[i]? = some v → K i a st → (∀ p ∈ base, p ∈ big) → (∀ a ∈ addrs, ∀ q ∈ big, q.1 ≠ a) → Fr h₀ env.locals h (fun z => if z = x then some v else if z = y then some a else m₀ z) → News h₀ env.locals h (st ++ big) →
      wpAny (model prog w) A (execs body env) (StPost h₀ env.locals big (fun m' st' => (∀ z, z ≠ x → z ≠ y → m' z = m₀ z) ∧ ∃ a', m' y = some a' ∧ K (i + 1) a' st') { s with heap := h, toks := tk } Q) E { s with heap := h, toks := tk })
    (done : ∀ o a h tk st, K vs.length a st → Fr h₀ env.locals h (fun z => if z = x then o else if z = y then some a else m₀ z) → News h₀ env.locals h (st ++ base) → Q .next { s with heap := h, toks := tk }) :
    wpAny (model prog w) A (pyIter (.ref l)) (fun it s₂ => LoopAtV prog w A h₀ env x body Q E it s₂) E s := by
  refine iter_st (fun i m' st => (∀ z, z ≠ x → z ≠ y → m' z = m₀ z) ∧ ∃ a', m' y = some a' ∧ K i a' st) addrs hh hl F N ⟨fun _ _ _ => rfl, a₀, hy, h0⟩ (fun i _ st h => hJ i h.2.choose st h.2.choose_spec.2) hat hoff ?_ ?_
  · rintro i v h tk m st big hv ⟨hm, a, ha, hK⟩ q b F' N'
    obtain ⟨o, rfl⟩ := after_for2 hm ha
    have e : (fun z => if z = x then some v else (fun z => if z = x then o else if z = y then some a else m₀ z) z) = fun z => if z = x then some v else if z = y then some a else m₀ z := by
      funext z; by_cases hz : z = x
      · rw [if_pos hz, if_pos hz]
      · rw [if_neg hz, if_neg hz]; dsimp only; rw [if_neg hz]
    rw [e] at F'
    exact turn i v a h tk st big hv hK q b F' N'
  · rintro m h tk st ⟨hm, a, ha, hK⟩ F' N'
    obtain ⟨o, rfl⟩ := after_for2 hm ha
    exact done o a h tk st hK F' N'
end
local macro_rules | `(tactic| walk_at "StPost") => `(tactic| (dsimp only [StPost]))

theorem freshk : True := by
  w_top off
  trivial

/-- a list of its own that holds these ints -/
def FreshInts (news : List (Addr × Obj)) (ds : List Int) (news' : List (Addr × Obj)) (r : Value) : Prop := ∃ a vs k, r = .ref a ∧ news' = (a, listOf vs.toArray k) :: news ∧ (∀ p ∈ news, p.1 < a) ∧ IntsAre vs ds
theorem take_snoc {α : Type} {ds : List α} {i : Nat} {d : α} (h : ds[i]? = some d) : ds.take (i + 1) = ds.take i ++ [d] := by rw [List.take_add_one, h]; rfl

theorem name_head {h₀ h : Heap} {L a : Addr} {o : Obj} {r : List (Addr × Obj)} (_ : News h₀ L h ((a, o) :: r)) : ∃ a', a' = a := ⟨a, rfl⟩

set_option maxHeartbeats 8000000 in
theorem extents_ct {w : World} {news : List (Addr × Obj)} {c cdx il : Addr} {ces : List DictEntry} {cn kl : Nat} {ck : Tok} {vs : List Value} {ds : List Int} (hc : (c, instObj 196 cdx) ∈ news) (hcd : (cdx, dictOf ces cn) ∈ news) (hck : getL (Str.ofString "kind") ces = some (some (.str (Str.ofString "integer") ck))) (hci : getL (Str.ofString "items") ces = some (some (.ref il))) (hil : (il, listOf vs.toArray kl) ∈ news)
    (hs : IntsAre vs ds) (h0 : 0 < ds.length) (h8 : ds.length ≤ 3) (hpos : ∀ d ∈ ds, 1 ≤ d) :
    Ct w 472 [.ref c] 8 news (FreshInts news ds) := by
  have hvl := hs.length
  have hl8 : vs.length ≤ 8 := by omega
  unfold Ct
  intro p loose mean mg mb dp un gd cn cs ad ccd cl outer A₀ base h₀ L m s Q E B F X N T hk hd hu ret
  refine wpAny_call ?_
  k_dflt cell_enter
  k_steps
  rename News _ _ _ ((_, listOf #[] 0) :: _) => N9
  obtain ⟨dl, hdl⟩ := name_head N9
  subst hdl
  refine' iter_st1 (base := news) (st₀ := [(dl, listOf ([] : List Value).toArray 0)]) (fun i st => ∃ (ar : Array Value) (k : Nat), st = [(dl, listOf ar k)] ∧ IntsAre ar.toList (ds.take i)) [dl] ?hh ?hl ?F (cb_drop ?N ?S) ⟨#[], 0, rfl, .nil⟩ ?hJ ?hat ?hoff ?turn ?done
  case hh => exact rfl
  case F => k_asm
  case N => k_asm
  case hl => k_mem
  case S => (refine' List.forall_mem_cons.mpr ⟨?S1, ?S2⟩; (case S1 => k_mem); (case S2 => kcj_all))
  case hJ => rintro i st ⟨_, _, rfl, _⟩ p hp; rw [List.mem_singleton.mp hp]; exact .head _
  case hat => intro a ha; rw [List.mem_singleton.mp ha]; exact ⟨_, .head _⟩
  case hoff => intro a ha; rw [List.mem_singleton.mp ha]; k_all
  case turn =>
    rintro i v h tk st big hv ⟨ar, k, rfl, hI⟩ hbig hdis F' N'
    have hdl := hdis dl (.head _)
    obtain ⟨d, t, rfl, hd'⟩ := hs.at i v hv
    have hd1 := hpos d (List.mem_of_getElem? hd')
    have hc' := hbig _ hc
    have hcd' := hbig _ hcd
    have hvl' : ar.size ≤ 100 := by rw [← Array.length_toList, hI.length, List.length_take]; omega
    clear hbig hdis hpos
    simp only [List.cons_append, List.nil_append] at N'
    k_steps
    exact StEnd.intro [_] (by k_asm) (by k_asm) ⟨fun z hz => if_neg hz, _, _, rfl, by rw [take_snoc hd', Array.toList_push]; exact hI.append (.cons _ _ .nil)⟩
  case done =>
    rintro o h tk st ⟨ar, k, rfl, hI⟩ F' N'
    simp only [List.cons_append, List.nil_append] at N'
    rw [hvl, List.take_length] at hI
    k_steps
    exact ret _ _ _ _ (by k_asm) (by k_asm) ⟨dl, ar.toList, k, rfl, by rw [Array.toArray_toList], by first | assumption | exact ktn_ltOf (by first | assumption | exact And.right (by assumption)), hI⟩

theorem freshl : True := by
  w_top off
  trivial

theorem drop5 {h₀ h : Heap} {L : Addr} {a b c d e : Addr × Obj} {r : List (Addr × Obj)} (N : News h₀ L h (a :: b :: c :: d :: e :: r)) : News h₀ L h (a :: b :: c :: d :: r) := cb_drop N fun p hp => by
  simp only [List.mem_cons] at hp ⊢
  rcases hp with h | h | h | h | h <;> simp [h]
def prodL (ds : List Int) : Int := ds.foldl (· * ·) 1
theorem prodL_snoc {ds : List Int} {i : Nat} {d : Int} (h : ds[i]? = some d) : prodL (ds.take (i + 1)) = prodL (ds.take i) * d := by
  rw [take_snoc h]; unfold prodL; rw [List.foldl_append]; rfl
local macro_rules | `(tactic| walk_at "call ref") => `(tactic| (k_here; (with_reducible show wpAny _ _ (call (Value.ref 472) _) _ _ _); k_dflt (refine' Ct.use (extents_ct ?a1 ?a2 ?a3 ?a4 ?a5 ?a6 ?a7 ?a8 ?a9) ?k1 ?k2 ?k3 ?k4 ?k5 ?k6 ?k7 ?k8 ?_; (case k1 => k_asm); (case k2 => k_asm); (case k3 => k_asm); (case k4 => k_asm); (case k5 => k_asm); (case k6 => first | exact rfl | assumption); (case k7 => ktr_room); (case k8 => ktr_units); (case a1 => k_mem); (case a2 => k_mem); (case a3 => assumption); (case a4 => assumption); (case a5 => k_mem); (case a6 => assumption); (case a7 => assumption); (case a8 => assumption); (case a9 => assumption)); intro r9 news9 h9 tk9 F9 N9 ho9; k_dflt (obtain ⟨a9, vs9, k9, e9, e9', lt9, hs9⟩ := ho9; subst e9; subst e9'; (have hln9 := IntsAre.length hs9)); (try k_lt lt9); (try k_fold)))
local macro_rules | `(tactic| walk_at "exec For Name Name cons nil") => `(tactic| (k_here; k_dflt (refine' For_invVF ?k0 ?k1 ?k2 ?_; (case k0 => k_asm); (case k1 => exact rfl); (case k2 => exact rfl); k_whole)))
local macro_rules | `(tactic| walk_at "exec For Name List cons nil") => `(tactic| (k_here; k_dflt (refine' For_invVF ?k0 ?k1 ?k2 ?_; (case k0 => k_asm); (case k1 => exact rfl); (case k2 => exact rfl); k_whole)))
local macro_rules | `(tactic| walk_at "exec For Name Call cons nil") => `(tactic| (k_here; k_dflt (refine' For_invVF ?k0 ?k1 ?k2 ?_; (case k0 => k_asm); (case k1 => exact rfl); (case k2 => exact rfl); k_whole)))
local macro_rules | `(tactic| walk_at "exec For Name Attribute cons nil") => `(tactic| (k_here; k_dflt (refine' For_invVF ?k0 ?k1 ?k2 ?_; (case k0 => k_asm); (case k1 => exact rfl); (case k2 => exact rfl); k_whole)))
local macro_rules | `(tactic| k_steps) => `(tactic| repeat' ((fail_if_success (with_reducible show wpAny _ _ (pyIter (Value.ref _)) _ _ _)); (first | (k_unfold; (try dsimp only)) | (k_end; wrow_close) | walk1 | (dsimp only; walk1) | (leave1; walk_say "STEP leave1"; try dsimp only))))

theorem isvec (w : World) : isIn (hd.heap_39 w.params) (.ref 196) 196 = true := by kernel_rfl
theorem isinst_vec {w : World} {A : Around} {E : Value → Shared → Prop} {s : Shared} {h₀ : Heap} {L : Addr} {m : Str → Option Value} {news : List (Addr × Obj)} {x dx : Addr} {es : List DictEntry} {n : Nat} {Q : Value → Shared → Prop}
    (F : Fr h₀ L s.heap m) (X₀ : Frag.In (hd.heap_39 w.params) h₀) (N : News h₀ L s.heap news) (hx : (x, instObj 196 dx) ∈ news) (hd' : (dx, dictOf es n) ∈ news) (h : Q (.bool true) s) : wpAny (model PySem.Challenge.pw_ov0076_01 w) A (call (.builtin "isinstance") [.ref x, .ref 196]) Q E s :=
  isi_call (X₀.keeps F.keep) (fun _ => InstAt.type (InstAt.of_news N hx hd')) (isvec w) (fun e => by cases e) h
local macro_rules | `(tactic| walk_at "call builtin:isinstance") => `(tactic| (k_here; (with_reducible show wpAny _ _ (call _ [Value.ref _, Value.ref 196]) _ _ _); k_dflt (refine' isinst_vec ?k1 ?k2 ?k3 ?k4 ?k5 ?_; (case k1 => k_asm); (case k2 => k_asm); (case k3 => k_asm); (case k4 => k_mem); (case k5 => k_mem))))

set_option maxHeartbeats 8000000 in
theorem set_dim_ct {w : World} {rest : List (Addr × Obj)} {x dx c cdx il iv : Addr} {es ces : List DictEntry} {n cn kl kv : Nat} {k : Str} {tk ck tc : Tok} {its vs : List Value} {ds : List Int} (hx : (x, instObj 196 dx) ∈ rest) (hkd : getL (Str.ofString "kind") es = some (some (.str k tk))) (hk0 : (k == Str.ofString "NULL") = false)
    (ha : getL (Str.ofString "attrs") es = some (some .none)) (hi : getL (Str.ofString "items") es = some (some (.ref iv))) (hz : es.length ≤ 100) (hiv : (iv, listOf its.toArray kv) ∈ rest) (hlen : (its.length : Int) = prodL ds) (hits : its.length ≤ 100) (hc : (c, instObj 196 cdx) ∈ rest) (hcd : (cdx, dictOf ces cn) ∈ rest) (hck : getL (Str.ofString "kind") ces = some (some (.str (Str.ofString "integer") ck))) (hci : getL (Str.ofString "items") ces = some (some (.ref il))) (hil : (il, listOf vs.toArray kl) ∈ rest)
    (hs : IntsAre vs ds) (h0 : 0 < ds.length) (h8 : ds.length ≤ 3) (hpos : ∀ d ∈ ds, 1 ≤ d) (hmax : ∀ d ∈ ds, d ≤ 3) (hoff : ∀ p ∈ rest, p.1 ≠ dx) :
    Ct w 453 [.ref x, .str (Str.ofString "dim") tc, .ref c] 24 ((dx, dictOf es n) :: rest) (fun news' r => ∃ d o x' d1 D es1 n1 vs' c' es2 n2, r = .none ∧ news' = (d, o) :: (x', instObj 196 d1) :: (d1, dictOf es1 n1) :: (D, listOf vs'.toArray c') :: (dx, dictOf es2 n2) :: rest ∧ o.IsDictOf (knd w) [(Str.ofString "dim", .ref x')] ∧ (d == sysModules) = false ∧
      getL (Str.ofString "items") es1 = some (some (.ref D)) ∧ IntsAre vs' ds ∧ getL (Str.ofString "attrs") es2 = some (some (.ref d)) ∧ (∀ z, z ≠ Str.ofString "attrs" → getL z es2 = getL z es) ∧ es2.length = es.length ∧ (AllLt D ((dx, dictOf es n) :: rest)) ∧ (@LT.lt Nat _ D d1 ∧ @LT.lt Nat _ d1 x' ∧ @LT.lt Nat _ x' d)) := by
  have hvl := hs.length
  unfold Ct
  intro p loose mean mg mb dp un gd cn cs ad ccd cl outer A₀ base h₀ L m s Q E B F X N T hk hd hu ret
  refine wpAny_call ?_
  k_dflt cell_enter
  k_steps
  refine' iter_st2 (st₀ := []) (Str.ofString "total") (by decide) (fun i a st => st = [] ∧ ∃ t, a = .int (prodL (ds.take i)) t) [] ?hh ?hl ?F ?N ?hy ⟨rfl, _, rfl⟩ ?hJ ?hat ?hoff ?turn ?done
  case hh => exact rfl
  case F => k_asm
  case N => k_asm
  case hl => k_mem
  case hy => exact rfl
  case hJ => rintro i a st ⟨rfl, _⟩ p hp; exact nomatch hp
  case hat => intro a ha; exact nomatch ha
  case hoff => intro a ha; exact nomatch ha
  case turn =>
    rintro i v a h tk st big hv ⟨rfl, t, rfl⟩ hbig hdis F' N'
    obtain ⟨d, t, rfl, hd'⟩ := IntsAre.at (by assumption) i v hv
    have hd1 := hpos d (List.mem_of_getElem? hd')
    have hd3 := hmax d (List.mem_of_getElem? hd')
    clear hbig hdis hpos hmax
    simp only [List.nil_append] at N'
    k_steps
    exact StEnd.intro [] (by k_asm) (by k_asm) ⟨fun z hx hy => by rw [if_neg hy, if_neg hx, if_neg hy], _, if_pos rfl, rfl, _, by rw [prodL_snoc hd']⟩
  case done =>
    rintro o a h tk st ⟨rfl, t, rfl⟩ F' N'
    simp only [List.nil_append] at N'
    rw [IntsAre.length (by assumption), List.take_length] at F'
    k_steps
    refine ret _ _ _ _ (by k_asm) (drop5 (by k_asm)) ⟨_, _, _, _, _, _, _, _, _, _, _, rfl, rfl, ?_⟩
    · refine ⟨by assumption, by assumption, ?_, by assumption, by assumption, by assumption, by assumption, ?_, ?_⟩
      · exact Eq.trans ((by assumption : ∀ z, z ≠ Str.ofString "shared" → getL z _ = getL z _) (Str.ofString "items") (by decide)) rfl
      · simp only [AllLt]
        refine ⟨by omega, by first | assumption | exact And.right (by assumption) | exact And.right (And.right (by assumption)) | exact And.right (And.right (And.right (by assumption)))⟩
      · omega

theorem freshm : True := by
  w_top off
  trivial

theorem pull1 {h₀ h : Heap} {L : Addr} {a b : Addr × Obj} {r : List (Addr × Obj)} (N : News h₀ L h (a :: b :: r)) : News h₀ L h (b :: a :: r) := cb_drop N fun p hp => by
  simp only [List.mem_cons] at hp ⊢
  rcases hp with h | h | h <;> simp [h]
theorem pull2 {h₀ h : Heap} {L : Addr} {a b c : Addr × Obj} {r : List (Addr × Obj)} (N : News h₀ L h (a :: b :: c :: r)) : News h₀ L h (c :: a :: b :: r) := cb_drop N fun p hp => by
  simp only [List.mem_cons] at hp ⊢
  rcases hp with h | h | h | h <;> simp [h]
theorem pull3 {h₀ h : Heap} {L : Addr} {a b c d : Addr × Obj} {r : List (Addr × Obj)} (N : News h₀ L h (a :: b :: c :: d :: r)) : News h₀ L h (d :: a :: b :: c :: r) := cb_drop N fun p hp => by
  simp only [List.mem_cons] at hp ⊢
  rcases hp with h | h | h | h | h <;> simp [h]
theorem take_ct' {w : World} {l j : Addr} {vs : List Value} {ns : List Int} {ln n : Nat} {a b below : Int} {t u tb : Tok} {rest : List (Addr × Obj)}
    (hl : (l, listOf vs.toArray ln) ∈ rest) (hi : IntsAre vs ns) (hne : 0 < ns.length) (hlen : ns.length < 100) (hb0 : 0 ≤ b) (hb1 : b < 1000000) (hbel : 0 < below) (hbel2 : below < 100) (hj : ∀ p ∈ rest, p.1 ≠ j) :
    Ct w 582 [.ref j, .int below tb] 4 ((j, jarObj l a b t u n) :: rest) (fun news' r => ∃ a' b' t' u' x tx, r = .int x tx ∧ 0 ≤ x ∧ x < below ∧ 0 ≤ b' ∧ b' ≤ b + 1 ∧ news' = (j, jarObj l a' b' t' u' n) :: rest) := take_ct w l j vs ns ln n a b below t u tb rest hl hi hne hlen hb0 hb1 hbel hbel2 hj
local macro_rules | `(tactic| walk_at "call ref") => `(tactic| (k_here; (with_reducible show wpAny _ _ (call (Value.ref 582) _) _ _ _); (rename News _ _ _ _ => N8); k_dflt (first | (have N7 : News _ _ _ ((_, jarObj _ _ _ _ _ _) :: _) := N8; clear N7) | (replace N8 := pull1 N8; (have N7 : News _ _ _ ((_, jarObj _ _ _ _ _ _) :: _) := N8); clear N7) | (replace N8 := pull2 N8; (have N7 : News _ _ _ ((_, jarObj _ _ _ _ _ _) :: _) := N8); clear N7) | (replace N8 := pull3 N8; (have N7 : News _ _ _ ((_, jarObj _ _ _ _ _ _) :: _) := N8); clear N7)); k_dflt (refine' Ct.use (take_ct' ?a1 ?a2 ?a3 ?a4 ?a5 ?a6 ?a7 ?a8 ?a9) ?k1 ?k2 ?k3 ?k4 ?k5 ?k6 ?k7 ?k8 ?_; (case k1 => k_asm); (case k2 => k_asm); (case k3 => k_asm); (case k4 => k_asm); (case k5 => k_asm); (case k6 => first | exact rfl | assumption); (case k7 => ktr_room); (case k8 => ktr_units); (case a1 => k_mem); (case a2 => assumption); (case a3 => assumption); (case a4 => assumption); (case a5 => first | assumption | omega); (case a6 => first | assumption | omega); (case a7 => decide); (case a8 => decide); (case a9 => k_all)); intro r9 news9 h9 tk9 F9 N9 ho9; k_dflt (obtain ⟨a', b', t', u', x', tx', e9, hx0, hx1, hb0', hb1', e9'⟩ := ho9; subst e9; subst e9'); (try k_fold)))

def strsOf : List Value → List Str
  | [] => []
  | .str q _ :: r => q :: strsOf r
  | _ :: r => strsOf r
def allStrs : List Value → Bool
  | [] => true
  | .str _ _ :: r => allStrs r
  | _ :: _ => false
theorem allStrs.at : ∀ {vs : List Value}, allStrs vs = true → ∀ {i : Nat} {v : Value}, vs[i]? = some v → ∃ q t, v = .str q t ∧ q ∈ strsOf vs
  | [], _, _, _, h => by simp at h
  | .str q t :: r, ha, i, v, h => by
    cases i with
    | zero => simp at h; exact ⟨q, t, h.symm, .head _⟩
    | succ i =>
      simp at h
      obtain ⟨q', t', e, hm⟩ := allStrs.at (vs := r) ha h
      exact ⟨q', t', e, .tail _ hm⟩
  | .none :: _, ha, _, _, _ => by cases ha
  | .bool _ :: _, ha, _, _, _ => by cases ha
  | .int _ _ :: _, ha, _, _, _ => by cases ha
  | .float _ _ :: _, ha, _, _, _ => by cases ha
  | .bytes _ _ :: _, ha, _, _, _ => by cases ha
  | .ref _ :: _, ha, _, _, _ => by cases ha
  | .builtin _ :: _, ha, _, _, _ => by cases ha
  | .type _ :: _, ha, _, _, _ => by cases ha
theorem menu_tail {w : World} {A : Around} {E : Value → Shared → Prop} {s : Shared} {h₀ : Heap} {L : Addr} {news : List (Addr × Obj)} {l : Addr} {vs : List Value} {k : Nat} {x : Int} {tx : Tok} {value slice : PySem.Expr} {ops : List Value} {Q : Value → Shared → Prop}
    (N : News h₀ L s.heap news) (hm : (l, listOf vs.toArray k) ∈ news) (ha : allStrs vs = true) (h0 : 0 ≤ x) (hx : x < (vs.length : Int)) (hb : vs.length ≤ 100) (hs : subscripted slice false (.ref l) (.int x tx) = operate ops (getItem (.ref l) (.int x tx)))
    (h : ∀ q t, q ∈ strsOf vs → Q (.str q t) s) : wpAny (model PySem.Challenge.pw_ov0076_01 w) A (subscriptTail value slice (.ref l) (.int x tx)) Q E s := by
  have hl := News.isList N hm
  have hlt : x.toNat < vs.length := by omega
  obtain ⟨q, t, e, hq⟩ := allStrs.at ha (List.getElem?_eq_getElem hlt)
  exact tail_any hl.typeIs slot_list_getitem.lookup (getItem_listL hl h0 (by omega) (List.getElem?_eq_getElem hlt) (by rw [e]; exact h q t hq)) hs
local macro_rules | `(tactic| walk_at "subscriptTail") => `(tactic| (k_here; (with_reducible show wpAny _ _ (subscriptTail _ _ (Value.ref _) (Value.int _ _)) _ _ _); k_dflt (refine' menu_tail ?N ?m ?a ?z ?x ?b ?s ?_; (case N => k_asm); (case m => k_mem); (case a => exact rfl); (case z => first | assumption | omega); (case x => (simp only [List.length_cons, List.length_nil]; omega)); (case b => exact Nat.le_of_ble_eq_true rfl); (case s => (with_unfolding_all rfl)); k_whole); intro q9 tq9 hq9))

theorem name_tail {h₀ h : Heap} {L : Addr} {p : Addr × Obj} {r : List (Addr × Obj)} (_ : News h₀ L h (p :: r)) : ∃ r', r = r' := ⟨r, rfl⟩
theorem comp_swap {h₀ h : Heap} {L : Addr} {a b c d : Addr × Obj} {r : List (Addr × Obj)} (N : News h₀ L h (a :: b :: c :: d :: r)) : News h₀ L h (b :: c :: d :: a :: r) := cb_drop N fun p hp => by
  simp only [List.mem_cons] at hp ⊢
  rcases hp with h | h | h | h | h <;> simp [h]
theorem dict_any {w : World} {A : Around} {E : Value → Shared → Prop} {s : Shared} {h₀ : Heap} {L : Addr} {news : List (Addr × Obj)} {d : Addr} {o : Obj} {kvs : List (Str × Value)} {ss : List Str} {q : Str} {tq : Tok} {Q : Value → Shared → Prop}
    (N : News h₀ L s.heap news) (hm : (d, o) ∈ news) (hd' : o.IsDictOf (knd w) kvs) (hq : q ∈ ss) (ha : (ss.all fun q => (valueAt kvs q).isSome) = true) (h : ∀ v, Q v { s with toks := s.toks + 1 }) :
    wpAny (model PySem.Challenge.pw_ov0076_01 w) A (getItem (.ref d) (.str q tq)) Q E s := by
  have e := List.all_eq_true.mp ha q hq
  obtain ⟨v, hv⟩ := Option.isSome_iff_exists.mp e
  exact wpAny_getItem_of (strKind_is _ _ _ _) (kda_dict N hm hd').mapOf hv (h v)
local macro_rules | `(tactic| walk_at "getItem ref str") => `(tactic| (k_here; k_dflt (refine' dict_any ?N ?m ?d ?q ?a ?_; (case N => k_asm); (case m => k_mem); (case d => assumption); (case q => assumption); (case a => exact rfl); k_whole); intro v9))
theorem prodL_cons (d : Int) (ds : List Int) : prodL (d :: ds) = d * prodL ds := by
  have key : ∀ (ds : List Int) (c : Int), ds.foldl (· * ·) c = c * prodL ds := by
    intro ds
    induction ds with
    | nil => intro c; simp [prodL]
    | cons e r ih => intro c; unfold prodL; simp only [List.foldl_cons]; rw [ih, ih (1 * e), Int.one_mul, Int.mul_assoc]
  unfold prodL; rw [List.foldl_cons, key, Int.one_mul]; rfl
theorem prodL_lo : ∀ {ds : List Int}, (∀ d ∈ ds, 1 ≤ d) → 1 ≤ prodL ds
  | [], _ => by decide
  | d :: r, h => by
    rw [prodL_cons]
    have h1 := h d (.head _)
    have h2 := prodL_lo (ds := r) fun e he => h e (.tail _ he)
    have := Int.mul_le_mul h1 h2 (by decide) (by omega)
    omega
theorem prodL_hi {ds : List Int} (h1 : ∀ d ∈ ds, 1 ≤ d) (h3 : ∀ d ∈ ds, d ≤ 3) (h : ds.length ≤ 3) : prodL ds ≤ 27 := by
  match ds, h with
  | [], _ => decide
  | [a], _ =>
    have := h3 a (.head _)
    simp only [prodL_cons, show prodL [] = 1 from rfl]; omega
  | [a, b], _ =>
    have ha := h3 a (.head _)
    have hb := h3 b (.tail _ (.head _))
    have hb1 := h1 b (.tail _ (.head _))
    have := Int.mul_le_mul ha hb (by omega) (by decide)
    simp only [prodL_cons, show prodL [] = 1 from rfl, Int.mul_one]; omega
  | [a, b, c], _ =>
    have ha := h3 a (.head _)
    have hb := h3 b (.tail _ (.head _))
    have hb1 := h1 b (.tail _ (.head _))
    have hc := h3 c (.tail _ (.tail _ (.head _)))
    have hc1 := h1 c (.tail _ (.tail _ (.head _)))
    have t1 := Int.mul_le_mul hb hc (by omega) (by decide)
    have t0 := Int.mul_nonneg (a := b) (b := c) (by omega) (by omega)
    have t2 := Int.mul_le_mul ha t1 t0 (by decide)
    simp only [prodL_cons, show prodL [] = 1 from rfl, Int.mul_one]; omega
  | _ :: _ :: _ :: _ :: _, h => simp at h
theorem mul_one_list {w : World} {A : Around} {E : Value → Shared → Prop} {s : Shared} {h₀ : Heap} {L : Addr} {m : Str → Option Value} {news : List (Addr × Obj)} {l : Addr} {v : Value} {k : Nat} {x : Int} {u : Tok} {Q : Value → Shared → Prop}
    (F : Fr h₀ L s.heap m) (N : News h₀ L s.heap news) (hm : (l, listOf [v].toArray k) ∈ news) (h0 : 1 ≤ x) (h27 : x ≤ 27)
    (h : ∀ (its : List Value) D h', (its.length : Int) = x → Fr h₀ L h' m → News h₀ L h' ((D, listOf its.toArray 0) :: news) → (∀ p ∈ news, p.1 < D) → Q (.ref D) { s with heap := h' }) :
    wpAny (model PySem.Challenge.pw_ov0076_01 w) A (binaryOp .Mult (.ref l) (.int x u)) Q E s :=
  KMa.mul F N (News.isList N hm) (by omega) (by omega) (by simp only [List.length_cons, List.length_nil]; omega) rfl fun D h' F' N' hl => h _ D h' (by
    rw [List.length_flatten, List.map_replicate, List.sum_replicate_nat]; simp only [List.length_cons, List.length_nil]; omega) F' N' hl
local macro_rules | `(tactic| walk_at "binaryOp Mult ref int") => `(tactic| (k_here; k_dflt (refine' mul_one_list ?F ?N ?m ?lo ?hi ?_; (case F => k_asm); (case N => k_asm); (case m => k_mem); (case lo => assumption); (case hi => assumption); k_whole); intro its9 D' h' hits9 F' N' l1; (try k_lt l1); (try k_sweep)))
theorem shaped_ints : ∀ {ds : List Int}, ds.length ≤ 3 → SeqAt.shaped (.list (ds.map PyData.int)) = true
  | [], _ => rfl
  | [_], _ => rfl
  | [_, _], _ => rfl
  | [_, _, _], _ => rfl
  | _ :: _ :: _ :: _ :: _, h => by simp at h
theorem eqv_ints_nil : ∀ {ds : List Int}, ds.length ≤ 3 → PyData.eqv (.list (ds.map PyData.int)) (.list []) = ds.isEmpty
  | [], _ => rfl
  | [_], _ => rfl
  | [_, _], _ => rfl
  | [_, _, _], _ => rfl
  | _ :: _ :: _ :: _ :: _, h => by simp at h
theorem ne_ints_nil {w : World} {A : Around} {E : Value → Shared → Prop} {s : Shared} {h₀ : Heap} {L : Addr} {news : List (Addr × Obj)} {a b : Addr} {xs : List Value} {k l : Nat} {ds : List Int} {Q : Value → Shared → Prop}
    (N : News h₀ L s.heap news) (ha : (a, listOf xs.toArray k) ∈ news) (hb : (b, listOf ([] : List Value).toArray l) ∈ news) (hx : IntsAre xs ds) (h3 : ds.length ≤ 3) (hu : A.units + 64 < cLine) (h : Q (.bool (!ds.isEmpty)) s) :
    wpAny (model PySem.Challenge.pw_ov0076_01 w) A (compareOp .NotEq (.ref a) (.ref b)) Q E s :=
  ne_dataH (reads_newData (N.isList ha) (IntsAre.carried hx)) (reads_newData (N.isList hb) (IntsAre.carried .nil)) (shaped_ints h3) rfl hu (by rw [show (List.map PyData.int []) = [] from rfl, eqv_ints_nil h3]; exact h)
local macro_rules | `(tactic| walk_at "compareOp NotEq ref ref") => `(tactic| (k_here; (with_reducible show wpAny _ _ (compareOp CmpOp.NotEq (Value.ref _) (Value.ref _)) _ _ _); k_dflt (refine' ne_ints_nil ?N ?a ?b ?x ?l ?u ?_; (case N => k_asm); (case a => k_mem); (case b => k_mem); (case x => assumption); (case l => assumption); (case u => ke_room); (try dsimp only [List.isEmpty, Bool.not_true, Bool.not_false]))))
theorem shaped_strs {ds : List Str} (_ : ds.length ≤ 5) (h : ds.all PyData.strOk = true) : SeqAt.shaped (.list (ds.map PyData.str)) = true := by
  have h1 : ∀ {ds : List Str}, ds.all PyData.strOk = true → PyData.canLayAll0 (ds.map PyData.str) = true := by
    intro ds
    induction ds with
    | nil => intro _; rfl
    | cons a r ih =>
      intro h
      rw [List.all_cons, Bool.and_eq_true] at h
      rw [List.map_cons, PyData.canLayAll0, PyData.canLay0, h.1, ih h.2]; rfl
  have h2 : ∀ (ds : List Str), PyData.depthAll (ds.map PyData.str) = 0 := by
    intro ds
    induction ds with
    | nil => rfl
    | cons a r ih => rw [List.map_cons, PyData.depthAll, PyData.depth, ih]; rfl
  unfold SeqAt.shaped
  rw [PyData.canLay0, PyData.depth, h1 h, h2]; rfl
theorem eqv_strs_nil : ∀ {ds : List Str}, ds.length ≤ 5 → PyData.eqv (.list (ds.map PyData.str)) (.list []) = ds.isEmpty
  | [], _ => rfl
  | [_], _ => rfl
  | [_, _], _ => rfl
  | [_, _, _], _ => rfl
  | [_, _, _, _], _ => rfl
  | [_, _, _, _, _], _ => rfl
  | _ :: _ :: _ :: _ :: _ :: _ :: _, h => by simp at h
theorem ne_strs_nil {w : World} {A : Around} {E : Value → Shared → Prop} {s : Shared} {h₀ : Heap} {L : Addr} {news : List (Addr × Obj)} {a b : Addr} {xs : List Value} {k l : Nat} {ds : List Str} {Q : Value → Shared → Prop}
    (N : News h₀ L s.heap news) (ha : (a, listOf xs.toArray k) ∈ news) (hb : (b, listOf ([] : List Value).toArray l) ∈ news) (hx : StrsAre xs ds) (h3 : ds.length ≤ 5) (hok : ds.all PyData.strOk = true) (hu : A.units + 64 < cLine) (h : Q (.bool (!ds.isEmpty)) s) :
    wpAny (model PySem.Challenge.pw_ov0076_01 w) A (compareOp .NotEq (.ref a) (.ref b)) Q E s :=
  ne_dataH (reads_newData (N.isList ha) (StrsAre.carried hx)) (reads_newData (N.isList hb) (IntsAre.carried .nil)) (shaped_strs h3 hok) rfl hu (by rw [show (List.map PyData.int []) = [] from rfl, eqv_strs_nil h3]; exact h)
local macro_rules | `(tactic| walk_at "compareOp NotEq ref ref") => `(tactic| (k_here; (with_reducible show wpAny _ _ (compareOp CmpOp.NotEq (Value.ref _) (Value.ref _)) _ _ _); k_dflt (refine' ne_strs_nil ?N ?a ?b ?x ?l ?o ?u ?_; (case N => k_asm); (case a => k_mem); (case b => k_mem); (case x => first | exact .cons _ _ .nil | exact .cons _ _ (.cons _ _ .nil) | exact .nil); (case l => exact Nat.le_of_ble_eq_true rfl); (case o => exact rfl); (case u => ke_room); (try dsimp only [List.isEmpty, Bool.not_true, Bool.not_false]))))
local macro_rules | `(tactic| walk_at "binaryOp Add ref ref") => `(tactic| (k_here; (with_reducible show wpAny _ _ (binaryOp _ (Value.ref _) (Value.ref _)) _ _ _); k_dflt (refine' kmk_add_lit (zs := _ ++ _) ?F ?N ?a ?b ?e ?_ ?z; (case F => k_asm); (case N => k_asm); (case a => is_list); (case b => is_list); (case e => exact rfl); (case z => (rw [sizeLine_eq]; (try simp only [List.length_append, List.length_cons, List.length_nil]); omega))); intro D' h' F' N' l1; (try k_lt l1); (try k_sweep)))
theorem pull4 {h₀ h : Heap} {L : Addr} {a b c d e : Addr × Obj} {r : List (Addr × Obj)} (N : News h₀ L h (a :: b :: c :: d :: e :: r)) : News h₀ L h (e :: a :: b :: c :: d :: r) := cb_drop N fun p hp => by
  simp only [List.mem_cons] at hp ⊢
  rcases hp with h | h | h | h | h | h <;> simp [h]
section
open PyProof.Rows.LCg
variable {prog : Program} {w : World} {A : Around} {s : Shared} {h₀ : Heap} {L : Addr} {m : Str → Option Value} {env : Env}
theorem comp_inv {elt : PySem.Expr} {x : Str} {scope : Scope} {cl : List (Str × Addr)} {S : List (Addr × Obj) → Prop} {P : Nat → Value → Prop} {Fin : List Value → List (Addr × Obj) → Prop} (n : Nat) (K : Nat → List Value → List (Addr × Obj) → Prop)
    (fin : ∀ ys news, K n ys news → Fin ys news)
    (turn : ∀ i ys news, i < n → K i ys news → ∀ v I oI C oC D m₂ h tk (E' : Value → Shared → Prop), P i v → NsObj oC m₂ → m₂ x = some v → Fr h₀ L h m → News h₀ L h ((I, oI) :: (C, oC) :: (D, lst ys) :: news) → Off3 I C D news → ((@Ne Nat I C) ∧ (@Ne Nat I D) ∧ (@Ne Nat C D)) →
      wpAny (model prog w) A (eval elt (compEnvC scope cl C env)) (CompEnd h₀ L m { s with heap := h, toks := tk } I oI C oC D (lst ys) S (fun y news' => K (i + 1) (ys ++ [y]) news')) E' { s with heap := h, toks := tk }) :
    ∀ k i ys news, i + k = n → K i ys news → CompRest prog w A h₀ L m env elt x scope cl s S P Fin k i ys news
  | 0, i, ys, news, e, h => by
    have e' : i = n := by omega
    subst e'
    exact CompRest.zero (fin ys news h)
  | k + 1, i, ys, news, e, h => CompRest.succ fun v I oI C oC D m₂ hh tk E' a b c d f g q =>
    wpAny_mono (turn i ys news (by omega) h v I oI C oC D m₂ hh tk E' a b c d f g q) (fun y s₂ z => by
      obtain ⟨h', tk', news', z1, z2, z3, z4, z5, z6⟩ := z
      exact ⟨h', tk', news', z1, z2, z3, z4, z5, comp_inv n K fin turn k (i + 1) _ _ (by omega) z6⟩) fun _ _ z => z
end
local macro_rules | `(tactic| k_steps) => `(tactic| repeat' ((fail_if_success (with_reducible show wpAny _ _ (pyIter (Value.ref _)) _ _ _)); (fail_if_success (with_reducible show LCg.CompSrc _ _ _ _ _ _ _ _ _ _ _ _ _ _)); (first | (k_unfold; (try dsimp only)) | (k_end; wrow_close) | walk1 | (dsimp only; walk1) | (leave1; walk_say "STEP leave1"; try dsimp only))))


abbrev tup3 (x tl bl : Addr) : Obj := { cls := .type "tuple", data := .seq #[.ref x, .ref tl, .ref bl] }
abbrev sAttrs : Str := Str.ofString "attrs"
/-- a row of words that can be laid and compared -/
structure Okay (ss : List Str) : Prop where
  len : ss.length ≤ 5
  ok : ss.all PyData.strOk = true
/-- an object whose class row may still be set: what its attributes are now; hd is the part that a change of them changes -/
inductive Chg (w : World) (x C dx : Addr) (es : List DictEntry) (ne : Nat) (k : Str) (L D : List Str) (more : List (Addr × Obj)) : Addr × Obj → Prop
  | plain {pc : Str} {tw : List Str} : getL sAttrs es = some (some .none) → VObj more x C dx es k pc tw → L = clsOf [] [] k pc → D = [] ++ [pc] ++ tw → Chg w x C dx es ne k L D more (dx, dictOf es ne)
  | dim {d c0 : Addr} {o : Obj} {pc : Str} {tw shape : List Str} : (dx, dictOf es ne) ∈ more → getL sAttrs es = some (some (.ref d)) → o.IsDictOf (knd w) [(Str.ofString "dim", .ref c0)] → (d == sysModules) = false → VObj more x C dx es k pc tw → DimIn more (some (.ref c0)) shape →
      L = clsOf [] shape k pc → D = shape ++ [pc] ++ tw → Chg w x C dx es ne k L D more (d, o)
theorem sub_cons {p : Addr × Obj} {l : List (Addr × Obj)} : ∀ q ∈ l, q ∈ p :: l := fun _ h => .tail _ h
theorem Chg.live {w : World} {x C dx : Addr} {es : List DictEntry} {ne : Nat} {k : Str} {L D : List Str} {hd : Addr × Obj} {more : List (Addr × Obj)} (c : Chg w x C dx es ne k L D more hd) : Live w x L D D (hd :: more) := by
  cases c with
  | plain h2 h3 h4 h5 =>
    subst h4 h5
    exact h3.live (.head _) sub_cons h2 .none
  | dim h2 h3 h4 h5 h6 h7 h8 h9 =>
    subst h8 h9
    exact h6.live (.tail _ h2) sub_cons h3 (.some (.head _) h4 h5 rfl rfl .none (h7.mono sub_cons))
/-- what a builder hands back -/
def Made (w : World) (l j : Addr) (n : Nat) (B : Int) (rest news' : List (Addr × Obj)) (r : Value) : Prop :=
  ∃ tp x tl bl C dx a b t u es ne k tk tls kt bls kb L D hd more, r = .ref tp ∧ news' = (tp, tup3 x tl bl) :: (j, jarObj l a b t u n) :: hd :: more ∧ 0 ≤ b ∧ b ≤ B ∧ (∀ p ∈ rest, p ∈ more) ∧ (∀ p ∈ hd :: more, p.1 ≠ j) ∧ (∀ p ∈ more, p.1 ≠ hd.1) ∧ (tl, listOf tls.toArray kt) ∈ more ∧ StrsAre tls L ∧ (bl, listOf bls.toArray kb) ∈ more ∧ StrsAre bls D ∧
    Chg w x C dx es ne k L D more hd ∧ C ∈ Cs ∧ (x, instObj C dx) ∈ more ∧ (dx, dictOf es ne) ∈ hd :: more ∧ getL (Str.ofString "kind") es = some (some (.str k tk)) ∧ L.any (fun x => x == Str.ofString "none") = false ∧ Okay L ∧ Okay D

def five : List Str := [Str.ofString "logical", Str.ofString "integer", Str.ofString "double", Str.ofString "character", Str.ofString "list"]
theorem five_facts {k : Str} (h : k ∈ five) : ((k == Str.ofString "language") = false ∧ (k == Str.ofString "symbol") = false ∧ (k == Str.ofString "S4") = false ∧ (k == Str.ofString "closure") = false ∧ (k == Str.ofString "builtin") = false ∧ (k == Str.ofString "special") = false) ∧ (k == Str.ofString "none") = false ∧ PyData.strOk k = true ∧ (k == Str.ofString "NULL") = false := by
  simp only [five, List.mem_cons, List.not_mem_nil, or_false] at h
  rcases h with rfl | rfl | rfl | rfl | rfl <;> decide +kernel
theorem five_plain {news : List (Addr × Obj)} {es : List DictEntry} {k : Str} (h : k ∈ five) : PlainIn news es k k := let ⟨⟨a, b, c, d, e, f⟩, _⟩ := five_facts h; .own a b c d e f
theorem NumIn.okay {k : Str} {tw : List Str} (h : NumIn k tw) : tw.length ≤ 1 ∧ tw.all PyData.strOk = true := by
  cases h <;> (constructor <;> first | decide | decide +kernel | simp)
theorem made_plain {w : World} {l j tp x tl bl dx : Addr} {n : Nat} {a b B : Int} {t u tk : Tok} {es : List DictEntry} {ne kt kb : Nat} {k : Str} {tls bls : List Value} {tw : List Str} {rest : List (Addr × Obj)}
    (hk5 : k ∈ five) (hkd : getL (Str.ofString "kind") es = some (some (.str k tk))) (hat : getL sAttrs es = some (some .none)) (hz : es.length ≤ 100) (hb0 : 0 ≤ b) (hbB : b ≤ B) (ht : NumIn k tw) (hts : StrsAre tls (clsOf [] [] k k)) (hbs : StrsAre bls ([] ++ [k] ++ tw))
    (hj : ∀ p ∈ rest, p.1 ≠ j) (hdx : ∀ p ∈ rest, p.1 ≠ dx) (n1 : @Ne Nat x dx ∧ @Ne Nat tl dx ∧ @Ne Nat bl dx ∧ @Ne Nat dx j ∧ @Ne Nat x j ∧ @Ne Nat tl j ∧ @Ne Nat bl j) :
    Made w l j n B rest ((tp, tup3 x tl bl) :: (j, jarObj l a b t u n) :: (dx, dictOf es ne) :: (x, instObj 196 dx) :: (tl, listOf tls.toArray kt) :: (bl, listOf bls.toArray kb) :: rest) (.ref tp) := by
  obtain ⟨_, f2, f3, f4⟩ := five_facts hk5
  have hn := ht.okay
  refine ⟨tp, x, tl, bl, 196, dx, a, b, t, u, es, ne, k, tk, tls, kt, bls, kb, _, _, _, _, rfl, rfl, hb0, hbB, fun p hp => .tail _ (.tail _ (.tail _ hp)), ?_, ?_, .tail _ (.head _), hts, .tail _ (.tail _ (.head _)), hbs, .plain hat ⟨by decide, .head _, ⟨_, hkd⟩, hz, five_plain hk5, ht⟩ rfl rfl, by decide, .head _, .head _, hkd, ?_, ?_, ?_⟩
  · exact List.forall_mem_cons.mpr ⟨n1.2.2.2.1, List.forall_mem_cons.mpr ⟨n1.2.2.2.2.1, List.forall_mem_cons.mpr ⟨n1.2.2.2.2.2.1, List.forall_mem_cons.mpr ⟨n1.2.2.2.2.2.2, hj⟩⟩⟩⟩
  · exact List.forall_mem_cons.mpr ⟨n1.1, List.forall_mem_cons.mpr ⟨n1.2.1, List.forall_mem_cons.mpr ⟨n1.2.2.1, hdx⟩⟩⟩
  · unfold clsOf; rw [if_pos rfl, if_pos rfl]; split
    · decide
    · simp [f2]
  · unfold clsOf; rw [if_pos rfl, if_pos rfl]; split
    · exact ⟨by decide, by decide +kernel⟩
    · exact ⟨by simp, by simp [f3]⟩
  · exact ⟨by simp only [List.length_append, List.length_cons, List.length_nil]; omega, by simp [f3]; simpa using hn.2⟩
theorem DimIn.okay {news : List (Addr × Obj)} {v : Option Value} {shape : List Str} (h : DimIn news v shape) : shape.length ≤ 2 ∧ shape.all PyData.strOk = true ∧ shape.any (fun x => x == Str.ofString "none") = false := by
  cases h <;> decide +kernel
theorem made_dim {w : World} {l j tp x tl bl dx d c0 d1 D : Addr} {n : Nat} {a b B : Int} {t u tk : Tok} {o : Obj} {es es1 : List DictEntry} {ne kt kb n1 c1 : Nat} {k : Str} {tls bls ws : List Value} {ds : List Int} {tw shape : List Str} {rest : List (Addr × Obj)}
    (hk5 : k ∈ five) (hkd : getL (Str.ofString "kind") es = some (some (.str k tk))) (hat : getL sAttrs es = some (some (.ref d))) (hz : es.length ≤ 100) (hb0 : 0 ≤ b) (hbB : b ≤ B) (ht : NumIn k tw) (hts : StrsAre tls shape) (hbs : StrsAre bls (shape ++ [k] ++ tw))
    (ho : o.IsDictOf (knd w) [(Str.ofString "dim", .ref c0)]) (hlo : (d == sysModules) = false) (hi1 : getL (Str.ofString "items") es1 = some (some (.ref D))) (hws : IntsAre ws ds) (hw3 : ds.length ≤ 3) (hsh : (ds.length = 2 ∧ shape = [Str.ofString "matrix", Str.ofString "array"]) ∨ (ds.length ≠ 2 ∧ shape = [Str.ofString "array"]))
    (hj : ∀ p ∈ rest, p.1 ≠ j) (hd : ∀ p ∈ rest, p.1 ≠ d) (n9 : @Ne Nat dx d ∧ @Ne Nat x d ∧ @Ne Nat c0 d ∧ @Ne Nat d1 d ∧ @Ne Nat D d ∧ @Ne Nat tl d ∧ @Ne Nat bl d) (n8 : @Ne Nat d j ∧ @Ne Nat dx j ∧ @Ne Nat x j ∧ @Ne Nat c0 j ∧ @Ne Nat d1 j ∧ @Ne Nat D j ∧ @Ne Nat tl j ∧ @Ne Nat bl j) :
    Made w l j n B rest ((tp, tup3 x tl bl) :: (j, jarObj l a b t u n) :: (d, o) :: (dx, dictOf es ne) :: (x, instObj 196 dx) :: (c0, instObj 196 d1) :: (d1, dictOf es1 n1) :: (D, listOf ws.toArray c1) :: (tl, listOf tls.toArray kt) :: (bl, listOf bls.toArray kb) :: rest) (.ref tp) := by
  obtain ⟨_, f2, f3, f4⟩ := five_facts hk5
  have hn := ht.okay
  have hwl := hws.length
  have hdim : DimIn ((dx, dictOf es ne) :: (x, instObj 196 dx) :: (c0, instObj 196 d1) :: (d1, dictOf es1 n1) :: (D, listOf ws.toArray c1) :: (tl, listOf tls.toArray kt) :: (bl, listOf bls.toArray kb) :: rest) (some (.ref c0)) shape := by
    have hv : VecAt ((dx, dictOf es ne) :: (x, instObj 196 dx) :: (c0, instObj 196 d1) :: (d1, dictOf es1 n1) :: (D, listOf ws.toArray c1) :: (tl, listOf tls.toArray kt) :: (bl, listOf bls.toArray kb) :: rest) c0 ws :=
      ⟨d1, es1, n1, D, c1, .tail _ (.tail _ (.head _)), .tail _ (.tail _ (.tail _ (.head _))), hi1, .tail _ (.tail _ (.tail _ (.tail _ (.head _)))), by omega⟩
    rcases hsh with ⟨h, rfl⟩ | ⟨h, rfl⟩
    · exact .two hv hws (by omega)
    · exact .other hv hws (by omega)
  have hok := hdim.okay
  have hne : shape ≠ [] := by rcases hsh with ⟨_, rfl⟩ | ⟨_, rfl⟩ <;> simp
  refine ⟨tp, x, tl, bl, 196, dx, a, b, t, u, es, ne, k, tk, tls, kt, bls, kb, shape, _, _, _, rfl, rfl, hb0, hbB, fun p hp => .tail _ (.tail _ (.tail _ (.tail _ (.tail _ (.tail _ (.tail _ hp)))))), ?_, ?_, .tail _ (.tail _ (.tail _ (.tail _ (.tail _ (.head _))))), hts, .tail _ (.tail _ (.tail _ (.tail _ (.tail _ (.tail _ (.head _)))))), hbs,
    .dim (.head _) hat ho hlo ⟨by decide, .tail _ (.head _), ⟨_, hkd⟩, hz, five_plain hk5, ht⟩ hdim ?_ rfl, by decide, .tail _ (.head _), .tail _ (.head _), hkd, hok.2.2, ⟨by omega, hok.2.1⟩, ?_⟩
  · obtain ⟨a1, a2, a3, a4, a5, a6, a7, a8⟩ := n8
    exact List.forall_mem_cons.mpr ⟨a1, List.forall_mem_cons.mpr ⟨a2, List.forall_mem_cons.mpr ⟨a3, List.forall_mem_cons.mpr ⟨a4, List.forall_mem_cons.mpr ⟨a5, List.forall_mem_cons.mpr ⟨a6, List.forall_mem_cons.mpr ⟨a7, List.forall_mem_cons.mpr ⟨a8, hj⟩⟩⟩⟩⟩⟩⟩⟩
  · obtain ⟨a1, a2, a3, a4, a5, a6, a7⟩ := n9
    exact List.forall_mem_cons.mpr ⟨a1, List.forall_mem_cons.mpr ⟨a2, List.forall_mem_cons.mpr ⟨a3, List.forall_mem_cons.mpr ⟨a4, List.forall_mem_cons.mpr ⟨a5, List.forall_mem_cons.mpr ⟨a6, List.forall_mem_cons.mpr ⟨a7, hd⟩⟩⟩⟩⟩⟩⟩
  · unfold clsOf; rw [if_pos rfl, if_neg hne]
  · refine ⟨by simp only [List.length_append, List.length_cons, List.length_nil]; omega, ?_⟩
    rw [List.all_append, List.all_append, hok.2.1, hn.2]; simp [f3]

/-- a Vector of its own over a copy of the list -/
def FreshVec (kind : Str) (news : List (Addr × Obj)) (vs : List Value) (news' : List (Addr × Obj)) (r : Value) : Prop :=
  ∃ c cdx il ces cn kl ck, r = .ref c ∧ news' = (c, instObj 196 cdx) :: (cdx, dictOf ces cn) :: (il, listOf vs.toArray kl) :: news ∧ getL (Str.ofString "kind") ces = some (some (.str kind ck)) ∧ getL (Str.ofString "items") ces = some (some (.ref il)) ∧ AllLt il news ∧ (@LT.lt Nat _ il cdx ∧ @LT.lt Nat _ cdx c)
set_option maxHeartbeats 8000000 in
theorem integer_ct {w : World} {news : List (Addr × Obj)} {a : Addr} {vs : List Value} {k : Nat} (ha : (a, listOf vs.toArray k) ∈ news) (hl : vs.length ≤ 8) :
    Ct w 350 [.ref a] 8 news (FreshVec (Str.ofString "integer") news vs) := by
  unfold Ct
  intro p loose mean mg mb dp un gd cn cs ad ccd cl outer A₀ base h₀ L m s Q E B F X N T hk hd hu ret
  refine wpAny_call ?_
  k_dflt cell_enter
  k_steps
  refine ret _ _ _ _ (by k_asm) (by k_asm) ⟨_, _, _, _, _, _, _, rfl, rfl, rfl, rfl, ?_, ?_⟩
  · first | assumption | exact allLt_of (by assumption)
  · omega
local macro_rules | `(tactic| walk_at "call ref") => `(tactic| (k_here; (with_reducible show wpAny _ _ (call (Value.ref 350) _) _ _ _); k_dflt (refine' Ct.use (integer_ct ?a1 ?a2) ?k1 ?k2 ?k3 ?k4 ?k5 ?k6 ?k7 ?k8 ?_; (case k1 => k_asm); (case k2 => k_asm); (case k3 => k_asm); (case k4 => k_asm); (case k5 => k_asm); (case k6 => first | exact rfl | assumption); (case k7 => ktr_room); (case k8 => ktr_units); (case a1 => k_mem); (case a2 => omega)); intro r9 news9 h9 tk9 F9 N9 ho9; k_dflt (obtain ⟨c9, cdx9, il9, ces9, cn9, kl9, ck9, e9, e9', hck9, hci9, lt9, lt9'⟩ := ho9; subst e9; subst e9'); (try simp only [AllLt, and_true] at lt9); (try k_fold)))
set_option maxHeartbeats 8000000 in
theorem character_ct {w : World} {news : List (Addr × Obj)} {a : Addr} {vs : List Value} {k : Nat} (ha : (a, listOf vs.toArray k) ∈ news) (hl : vs.length ≤ 8) :
    Ct w 357 [.ref a] 8 news (FreshVec (Str.ofString "character") news vs) := by
  unfold Ct
  intro p loose mean mg mb dp un gd cn cs ad ccd cl outer A₀ base h₀ L m s Q E B F X N T hk hd hu ret
  refine wpAny_call ?_
  k_dflt cell_enter
  k_steps
  refine ret _ _ _ _ (by k_asm) (by k_asm) ⟨_, _, _, _, _, _, _, rfl, rfl, rfl, rfl, ?_, ?_⟩
  · first | assumption | exact allLt_of (by assumption)
  · omega
local macro_rules | `(tactic| walk_at "call ref") => `(tactic| (k_here; (with_reducible show wpAny _ _ (call (Value.ref 357) _) _ _ _); k_dflt (refine' Ct.use (character_ct ?a1 ?a2) ?k1 ?k2 ?k3 ?k4 ?k5 ?k6 ?k7 ?k8 ?_; (case k1 => k_asm); (case k2 => k_asm); (case k3 => k_asm); (case k4 => k_asm); (case k5 => k_asm); (case k6 => first | exact rfl | assumption); (case k7 => ktr_room); (case k8 => ktr_units); (case a1 => k_mem); (case a2 => omega)); intro r9 news9 h9 tk9 F9 N9 ho9; k_dflt (obtain ⟨c9, cdx9, il9, ces9, cn9, kl9, ck9, e9, e9', hck9, hci9, lt9, lt9'⟩ := ho9; subst e9; subst e9'); (try simp only [AllLt, and_true] at lt9); (try k_fold)))
/-- NULL -/
def FreshNull (news news' : List (Addr × Obj)) (r : Value) : Prop :=
  ∃ c cdx ces cn ck, r = .ref c ∧ news' = (c, instObj 167 cdx) :: (cdx, dictOf ces cn) :: news ∧ getL (Str.ofString "kind") ces = some (some (.str (Str.ofString "NULL") ck)) ∧ getL sAttrs ces = some (some .none) ∧ ces.length ≤ 100 ∧ AllLt cdx news ∧ @LT.lt Nat _ cdx c
set_option maxHeartbeats 8000000 in
theorem null_ct {w : World} {news : List (Addr × Obj)} : Ct w 343 [] 8 news (FreshNull news) := by
  unfold Ct
  intro p loose mean mg mb dp un gd cn cs ad ccd cl outer A₀ base h₀ L m s Q E B F X N T hk hd hu ret
  refine wpAny_call ?_
  k_dflt cell_enter
  k_steps
  refine ret _ _ _ _ (by k_asm) (by k_asm) ⟨_, _, _, _, _, rfl, rfl, rfl, rfl, ?_, ?_, ?_⟩
  · exact Nat.le_of_ble_eq_true rfl
  · first | assumption | exact allLt_of (by assumption)
  · omega
local macro_rules | `(tactic| walk_at "call ref") => `(tactic| (k_here; (with_reducible show wpAny _ _ (call (Value.ref 343) _) _ _ _); k_dflt (refine' Ct.use null_ct ?k1 ?k2 ?k3 ?k4 ?k5 ?k6 ?k7 ?k8 ?_; (case k1 => k_asm); (case k2 => k_asm); (case k3 => k_asm); (case k4 => k_asm); (case k5 => k_asm); (case k6 => first | exact rfl | assumption); (case k7 => ktr_room); (case k8 => ktr_units)); intro r9 news9 h9 tk9 F9 N9 ho9; k_dflt (obtain ⟨c9, cdx9, ces9, cn9, ck9, e9, e9', hck9, hca9, hcz9, lt9, lt9'⟩ := ho9; subst e9; subst e9'); (try simp only [AllLt, and_true] at lt9); (try k_fold)))
theorem cut_dim {h₀ h : Heap} {L : Addr} {c e f g1 x d i g2 g3 g4 g5 g6 y jr g7 g8 : Addr × Obj} {r : List (Addr × Obj)} (N : News h₀ L h (c :: e :: f :: g1 :: x :: d :: i :: g2 :: g3 :: g4 :: g5 :: g6 :: y :: jr :: g7 :: g8 :: r)) : News h₀ L h (d :: c :: e :: f :: x :: i :: y :: jr :: r) := cb_drop N fun p hp => by
  simp only [List.mem_cons] at hp ⊢
  rcases hp with h | h | h | h | h | h | h | h | h <;> simp [h]

theorem freshn : True := by
  w_top off
  trivial

local macro_rules | `(tactic| k_steps) => `(tactic| repeat' ((fail_if_success (with_reducible show wpAny _ _ (call (Value.ref 453) _) _ _ _)); (fail_if_success (with_reducible show wpAny _ _ (pyIter (Value.ref _)) _ _ _)); (fail_if_success (with_reducible show LCg.CompSrc _ _ _ _ _ _ _ _ _ _ _ _ _ _)); (first | (k_unfold; (try dsimp only)) | (k_end; wrow_close) | walk1 | (dsimp only; walk1) | (leave1; walk_say "STEP leave1"; try dsimp only))))
local macro_rules | `(tactic| o_steps) => `(tactic| repeat' ((fail_if_success (with_reducible show wpAny _ _ (compareOp _ (Value.ref _) (Value.ref _)) _ _ _)); (fail_if_success (with_reducible show wpAny _ _ (pyIter (Value.ref _)) _ _ _)); (fail_if_success (with_reducible show LCg.CompSrc _ _ _ _ _ _ _ _ _ _ _ _ _ _)); (first | (k_unfold; (try dsimp only)) | (k_end; wrow_close) | walk1 | (dsimp only; walk1) | (leave1; walk_say "STEP leave1"; try dsimp only))))

theorem name_str {q : Str} {ss : List Str} (_ : q ∈ ss) : ∃ q', q' = q := ⟨q, rfl⟩
local macro_rules | `(tactic| cb_end $h:ident) => `(tactic| ((repeat ((rename _ ∧ _ => hc9); (obtain ⟨_, _⟩ := hc9))); k_dflt (refine' $h _ _ _ _ ?F (cb_drop ?N ?S) (made_plain ?a1 ?a2 ?a3 ?a4 ?a5 ?a6 ?a7 ?a8 ?a9 ?b1 ?b2 ?b3); (case F => k_asm); (case N => k_asm); (case S => (refine' List.forall_mem_cons.mpr ⟨?S1, List.forall_mem_cons.mpr ⟨?S2, List.forall_mem_cons.mpr ⟨?S3, List.forall_mem_cons.mpr ⟨?S4, List.forall_mem_cons.mpr ⟨?S5, List.forall_mem_cons.mpr ⟨?S6, ?S7⟩⟩⟩⟩⟩⟩; (case S1 => k_mem); (case S2 => k_mem); (case S4 => k_mem); (case S3 => k_mem); (case S5 => k_mem); (case S6 => k_mem); (case S7 => exact fun p hp => by repeat (first | assumption | apply List.mem_cons_of_mem)))); (case a1 => assumption); (case a2 => first | assumption | k_get); (case a3 => first | assumption | k_get); (case a4 => exact Nat.le_of_ble_eq_true rfl); (case a5 => omega); (case a6 => omega); (case a7 => assumption); (case a8 => (rw [show clsOf _ _ _ _ = _ from by assumption]; exact .cons _ _ .nil)); (case a9 => first | exact .cons _ _ (.cons _ _ .nil) | exact .cons _ _ .nil); (case b1 => assumption); (case b2 => exact fun p hp => Nat.ne_of_lt (ktn_ltOf (by assumption) p hp)); (case b3 => omega))))

set_option maxHeartbeats 8000000 in
theorem vector_ct (w : World) (l j : Addr) (vs : List Value) (ns : List Int) (ln n : Nat) (a b : Int) (t u : Tok) (rest : List (Addr × Obj))
    (hl : (l, listOf vs.toArray ln) ∈ rest) (hi : IntsAre vs ns) (hne : 0 < ns.length) (hlen : ns.length < 100) (hb0 : 0 ≤ b) (hb1 : b < 900000) (hj : ∀ p ∈ rest, p.1 ≠ j) :
    Ct w 594 [.ref j] 40 ((j, jarObj l a b t u n) :: rest) (Made w l j n (b + 10) rest) := by
  unfold Ct
  intro p loose mean mg mb dp un gd cn cs ad ccd cl outer A₀ base h₀ L m s Q E B F X N T hk hd hu ret
  refine wpAny_call ?_
  k_dflt (refine' code_defC ?k1 ?k2 ?k3 ?k4 ?k5 ?kA ?kF ?kK ?k6 ?k7 ?k8 ?k9 ?kB ?kD ?_ ?c2 ?c3 ?c4; (case kA => exact rfl); (case kF => exact rfl); (case kK => assumption); (case k1 => k_asm); (case k2 => k_asm); (case k3 => k_asm); (case k4 => k_asm); (case k5 => k_asm); (case k6 => k_is); (case k7 => k_is); (case k8 => ktr_room); (case k9 => exact BindsTo.of_eq rfl); (case kB => exact rfl); (case kD => decide +kernel); (case c2 => exact rfl); (case c3 => exact rfl); (case c4 => exact rfl); k_whole; intro g' L' h' tk' cells' FG' F' N' Y' B' X' T' l1; (try k_lt l1); k_cells Y'; (try simp only [List.cons_append, List.nil_append] at N'); (try dsimp only); (try k_lift B'); (try k_fold))
  k_steps
  rename News _ _ _ ((j, _) :: _) => N9
  obtain ⟨base', hbase⟩ := name_tail N9
  have hjb : ∀ p ∈ base', p.1 ≠ j := by subst hbase; exact List.forall_mem_cons.mpr ⟨by k_ne, List.forall_mem_cons.mpr ⟨by k_ne, hj⟩⟩
  have hlb : (l, listOf vs.toArray ln) ∈ base' := by subst hbase; k_mem
  refine LCg.CompSrc.range rfl (by k_asm) (by k_asm) (by assumption) (small_one (by omega) (by omega) (by omega) (by omega)) (rangeSize_nat _ _) (by rw [PySem.sizeLine_eq]; omega) fun g => ?_
  refine comp_inv _ (fun i ys led => ∃ a1 b1 t1 u1 ds, led = (j, jarObj l a1 b1 t1 u1 n) :: base' ∧ 0 ≤ b1 ∧ b1 ≤ b + 3 + i ∧ IntsAre ys ds ∧ ds.length = i ∧ (∀ d ∈ ds, 1 ≤ d) ∧ (∀ d ∈ ds, d ≤ 3)) ?_ ?_ _ 0 [] _ (Nat.zero_add _) ⟨_, _, _, _, [], by rw [hbase], by omega, by omega, .nil, rfl, (fun _ h => nomatch h), (fun _ h => nomatch h)⟩
  · rintro ys led ⟨a1, b1, t1, u1, ds, rfl, hb1', hb2', hI, hln, hlo, hhi⟩
    subst hbase
    have hpr1 := prodL_lo hlo
    have hpr2 := prodL_hi hlo hhi (by omega : ds.length ≤ 3)
    clear hjb hlb
    k_steps
    refine' iter_st2 (st₀ := []) (Str.ofString "total_of") (by decide) (fun i a st => st = [] ∧ ∃ t, a = .int (prodL (ds.take i)) t) [] ?hh ?hl ?F ?N ?hy ⟨rfl, _, rfl⟩ ?hJ ?hat ?hoff ?turn ?done
    case hh => exact rfl
    case F => k_asm
    case N => k_asm
    case hl => k_mem
    case hy => exact rfl
    case hJ => rintro i a st ⟨rfl, _⟩ p hp; exact nomatch hp
    case hat => intro a ha; exact nomatch ha
    case hoff => intro a ha; exact nomatch ha
    case turn =>
      rintro i v a h tk st big hv ⟨rfl, t, rfl⟩ hbig hdis F' N'
      obtain ⟨d, t, rfl, hd'⟩ := IntsAre.at hI i v hv
      have hd1 := hlo d (List.mem_of_getElem? hd')
      have hd3 := hhi d (List.mem_of_getElem? hd')
      clear hbig hdis hlo hhi
      simp only [List.nil_append] at N'
      k_steps
      exact StEnd.intro [] (by k_asm) (by k_asm) ⟨fun z hx hy => by rw [if_neg hy, if_neg hx, if_neg hy], _, if_pos rfl, rfl, _, by rw [prodL_snoc hd']⟩
    case done =>
      rintro o a h tk st ⟨rfl, t, rfl⟩ F' N'
      simp only [List.nil_append] at N'
      rw [hI.length, List.take_length] at F'
      o_steps
      have h3 : ds.length ≤ 3 := by omega
      rename _ ∈ strsOf _ => hq9
      obtain ⟨q9, hq0⟩ := name_str hq9
      subst hq0
      have hq5 : q9 ∈ five := hq9
      have hk0 := (five_facts hq5).2.2.2
      rcases ds with _ | ⟨d0, ds⟩
      · have hyl : ys.length = 0 := hI.length
        by_cases hqd : (q9 == Str.ofString "double") = true
        · have hnum : NumIn q9 [Str.ofString "numeric"] := by rw [eq_of_beq hqd]; exact .dbl
          have hqi : (q9 == Str.ofString "integer") = false := by rw [eq_of_beq hqd]; decide
          have hcls : clsOf [] [] q9 q9 = [Str.ofString "numeric"] := by unfold clsOf; rw [if_pos rfl, if_pos rfl, if_pos hqd]
          walk1
          k_steps
          cb_end ret
        · rw [Bool.not_eq_true] at hqd
          have hcls : clsOf [] [] q9 q9 = [q9] := by unfold clsOf; rw [if_pos rfl, if_pos rfl, if_neg (by rw [hqd]; decide)]
          by_cases hqi : (q9 == Str.ofString "integer") = true
          · have hnum : NumIn q9 [Str.ofString "numeric"] := by rw [eq_of_beq hqi]; exact .int
            walk1
            k_steps
            cb_end ret
          · rw [Bool.not_eq_true] at hqi
            have hnum : NumIn q9 [] := .no hqi hqd
            walk1
            k_steps
            cb_end ret
      · have hyl : ys.length = ds.length + 1 := hI.length
        have h32 : ds.length ≤ 2 := by simpa using h3
        by_cases hqd : (q9 == Str.ofString "double") = true
        · have hnum : NumIn q9 [Str.ofString "numeric"] := by rw [eq_of_beq hqd]; exact .dbl
          have hqi : (q9 == Str.ofString "integer") = false := by rw [eq_of_beq hqd]; decide
          have hcls : clsOf [] [] q9 q9 = [Str.ofString "numeric"] := by unfold clsOf; rw [if_pos rfl, if_pos rfl, if_pos hqd]
          walk1
          k_steps
          (repeat ((rename _ ∧ _ => hc9); (obtain ⟨_, _⟩ := hc9)))
          rename News _ _ _ _ => N8
          have N8 := cut_dim N8
          k_dflt (refine' Ct.use (set_dim_ct (vs := ys) (ds := d0 :: ds) ?a1 ?a2 hk0 ?a4 ?a5 ?a6 ?a7 ?a8 ?a9 ?a10 ?a11 ?a12 ?a13 ?a14 hI ?a16 h3 hlo hhi ?a20) ?k1 ?k2 ?k3 ?k4 ?k5 ?k6 ?k7 ?k8 ?_; (case k1 => k_asm); (case k2 => k_asm); (case k3 => k_asm); (case k4 => exact N8); (case k5 => k_asm); (case k6 => first | exact rfl | assumption); (case k7 => ktr_room); (case k8 => ktr_units); (case a1 => k_mem); (case a2 => k_get); (case a4 => k_get); (case a5 => k_get); (case a6 => exact Nat.le_of_ble_eq_true rfl); (case a7 => k_mem); (case a8 => assumption); (case a9 => omega); (case a10 => k_mem); (case a11 => k_mem); (case a12 => assumption); (case a13 => assumption); (case a14 => k_mem); (case a16 => exact Nat.succ_pos _); (case a20 => exact List.forall_mem_cons.mpr ⟨by k_ne, List.forall_mem_cons.mpr ⟨by k_ne, List.forall_mem_cons.mpr ⟨by k_ne, List.forall_mem_cons.mpr ⟨by k_ne, List.forall_mem_cons.mpr ⟨by k_ne, List.forall_mem_cons.mpr ⟨by k_ne, List.forall_mem_cons.mpr ⟨by k_ne, fun p hp => Nat.ne_of_lt (ktn_ltOf (by assumption) p hp)⟩⟩⟩⟩⟩⟩⟩))
          rintro r9 news9 h9 tk9 F9 N9 ⟨d, o, c0, d1, D, es1, n1, vs1, c1, es2, n2, rfl, rfl, ho, hdlo, hi1, hws, hat2, hoth, hz2, hall, hlt⟩
          simp only [AllLt] at hall
          have hkd2 := (hoth (Str.ofString "kind") (by decide)).trans (by k_get)
          clear N8
          (try k_fold)
          k_steps
          all_goals ((repeat ((rename _ ∧ _ => hc9); (obtain ⟨_, _⟩ := hc9))); first | (k_dflt (refine' ret _ _ _ _ ?F (cb_drop ?N ?S) (made_dim (d := d) (o := o) (c0 := c0) (d1 := d1) (D := D) (es := es2) (es1 := es1) (ws := vs1) (ds := d0 :: ds) (shape := [Str.ofString "matrix", Str.ofString "array"]) hq5 hkd2 hat2 ?hz ?b0 ?bB hnum ?hts ?hbs ho hdlo hi1 hws h3 ?hsh hj ?hd ?n9 ?n8); (case hsh => exact .inl ⟨by simp only [List.length_cons]; omega, rfl⟩); (case F => k_asm); (case N => k_asm); (case S => (refine' List.forall_mem_cons.mpr ⟨?S1, List.forall_mem_cons.mpr ⟨?S2, List.forall_mem_cons.mpr ⟨?S3, List.forall_mem_cons.mpr ⟨?S4, List.forall_mem_cons.mpr ⟨?S5, List.forall_mem_cons.mpr ⟨?S6, List.forall_mem_cons.mpr ⟨?S7, List.forall_mem_cons.mpr ⟨?S8, List.forall_mem_cons.mpr ⟨?S9, List.forall_mem_cons.mpr ⟨?S10, ?S11⟩⟩⟩⟩⟩⟩⟩⟩⟩⟩; (case S1 => k_mem); (case S2 => k_mem); (case S3 => k_mem); (case S5 => k_mem); (case S4 => k_mem); (case S6 => k_mem); (case S7 => k_mem); (case S8 => k_mem); (case S9 => k_mem); (case S10 => k_mem); (case S11 => exact fun p hp => by repeat (first | assumption | apply List.mem_cons_of_mem)))); (case hz => (rw [hz2]; exact Nat.le_of_ble_eq_true rfl)); (case b0 => omega); (case bB => omega); (case hts => exact .cons _ _ (.cons _ _ .nil)); (case hbs => first | exact .cons _ _ (.cons _ _ (.cons _ _ .nil)) | exact .cons _ _ (.cons _ _ (.cons _ _ (.cons _ _ .nil)))); (case hd => exact fun p hp => Nat.ne_of_lt (Nat.lt_trans (ktn_ltOf (by assumption : AllLt D rest) p hp) (by omega))); (case n9 => omega); (case n8 => omega))) | (k_dflt (refine' ret _ _ _ _ ?F (cb_drop ?N ?S) (made_dim (d := d) (o := o) (c0 := c0) (d1 := d1) (D := D) (es := es2) (es1 := es1) (ws := vs1) (ds := d0 :: ds) (shape := [Str.ofString "array"]) hq5 hkd2 hat2 ?hz ?b0 ?bB hnum ?hts ?hbs ho hdlo hi1 hws h3 ?hsh hj ?hd ?n9 ?n8); (case hsh => exact .inr ⟨by simp only [List.length_cons]; omega, rfl⟩); (case F => k_asm); (case N => k_asm); (case S => (refine' List.forall_mem_cons.mpr ⟨?S1, List.forall_mem_cons.mpr ⟨?S2, List.forall_mem_cons.mpr ⟨?S3, List.forall_mem_cons.mpr ⟨?S4, List.forall_mem_cons.mpr ⟨?S5, List.forall_mem_cons.mpr ⟨?S6, List.forall_mem_cons.mpr ⟨?S7, List.forall_mem_cons.mpr ⟨?S8, List.forall_mem_cons.mpr ⟨?S9, List.forall_mem_cons.mpr ⟨?S10, ?S11⟩⟩⟩⟩⟩⟩⟩⟩⟩⟩; (case S1 => k_mem); (case S2 => k_mem); (case S3 => k_mem); (case S5 => k_mem); (case S4 => k_mem); (case S6 => k_mem); (case S7 => k_mem); (case S8 => k_mem); (case S9 => k_mem); (case S10 => k_mem); (case S11 => exact fun p hp => by repeat (first | assumption | apply List.mem_cons_of_mem)))); (case hz => (rw [hz2]; exact Nat.le_of_ble_eq_true rfl)); (case b0 => omega); (case bB => omega); (case hts => exact .cons _ _ .nil); (case hbs => first | exact .cons _ _ (.cons _ _ .nil) | exact .cons _ _ (.cons _ _ (.cons _ _ .nil))); (case hd => exact fun p hp => Nat.ne_of_lt (Nat.lt_trans (ktn_ltOf (by assumption : AllLt D rest) p hp) (by omega))); (case n9 => omega); (case n8 => omega))))
        · rw [Bool.not_eq_true] at hqd
          have hcls : clsOf [] [] q9 q9 = [q9] := by unfold clsOf; rw [if_pos rfl, if_pos rfl, if_neg (by rw [hqd]; decide)]
          by_cases hqi : (q9 == Str.ofString "integer") = true
          · have hnum : NumIn q9 [Str.ofString "numeric"] := by rw [eq_of_beq hqi]; exact .int
            walk1
            k_steps
            (repeat ((rename _ ∧ _ => hc9); (obtain ⟨_, _⟩ := hc9)))
            rename News _ _ _ _ => N8
            have N8 := cut_dim N8
            k_dflt (refine' Ct.use (set_dim_ct (vs := ys) (ds := d0 :: ds) ?a1 ?a2 hk0 ?a4 ?a5 ?a6 ?a7 ?a8 ?a9 ?a10 ?a11 ?a12 ?a13 ?a14 hI ?a16 h3 hlo hhi ?a20) ?k1 ?k2 ?k3 ?k4 ?k5 ?k6 ?k7 ?k8 ?_; (case k1 => k_asm); (case k2 => k_asm); (case k3 => k_asm); (case k4 => exact N8); (case k5 => k_asm); (case k6 => first | exact rfl | assumption); (case k7 => ktr_room); (case k8 => ktr_units); (case a1 => k_mem); (case a2 => k_get); (case a4 => k_get); (case a5 => k_get); (case a6 => exact Nat.le_of_ble_eq_true rfl); (case a7 => k_mem); (case a8 => assumption); (case a9 => omega); (case a10 => k_mem); (case a11 => k_mem); (case a12 => assumption); (case a13 => assumption); (case a14 => k_mem); (case a16 => exact Nat.succ_pos _); (case a20 => exact List.forall_mem_cons.mpr ⟨by k_ne, List.forall_mem_cons.mpr ⟨by k_ne, List.forall_mem_cons.mpr ⟨by k_ne, List.forall_mem_cons.mpr ⟨by k_ne, List.forall_mem_cons.mpr ⟨by k_ne, List.forall_mem_cons.mpr ⟨by k_ne, List.forall_mem_cons.mpr ⟨by k_ne, fun p hp => Nat.ne_of_lt (ktn_ltOf (by assumption) p hp)⟩⟩⟩⟩⟩⟩⟩))
            rintro r9 news9 h9 tk9 F9 N9 ⟨d, o, c0, d1, D, es1, n1, vs1, c1, es2, n2, rfl, rfl, ho, hdlo, hi1, hws, hat2, hoth, hz2, hall, hlt⟩
            simp only [AllLt] at hall
            have hkd2 := (hoth (Str.ofString "kind") (by decide)).trans (by k_get)
            clear N8
            (try k_fold)
            k_steps
            all_goals ((repeat ((rename _ ∧ _ => hc9); (obtain ⟨_, _⟩ := hc9))); first | (k_dflt (refine' ret _ _ _ _ ?F (cb_drop ?N ?S) (made_dim (d := d) (o := o) (c0 := c0) (d1 := d1) (D := D) (es := es2) (es1 := es1) (ws := vs1) (ds := d0 :: ds) (shape := [Str.ofString "matrix", Str.ofString "array"]) hq5 hkd2 hat2 ?hz ?b0 ?bB hnum ?hts ?hbs ho hdlo hi1 hws h3 ?hsh hj ?hd ?n9 ?n8); (case hsh => exact .inl ⟨by simp only [List.length_cons]; omega, rfl⟩); (case F => k_asm); (case N => k_asm); (case S => (refine' List.forall_mem_cons.mpr ⟨?S1, List.forall_mem_cons.mpr ⟨?S2, List.forall_mem_cons.mpr ⟨?S3, List.forall_mem_cons.mpr ⟨?S4, List.forall_mem_cons.mpr ⟨?S5, List.forall_mem_cons.mpr ⟨?S6, List.forall_mem_cons.mpr ⟨?S7, List.forall_mem_cons.mpr ⟨?S8, List.forall_mem_cons.mpr ⟨?S9, List.forall_mem_cons.mpr ⟨?S10, ?S11⟩⟩⟩⟩⟩⟩⟩⟩⟩⟩; (case S1 => k_mem); (case S2 => k_mem); (case S3 => k_mem); (case S5 => k_mem); (case S4 => k_mem); (case S6 => k_mem); (case S7 => k_mem); (case S8 => k_mem); (case S9 => k_mem); (case S10 => k_mem); (case S11 => exact fun p hp => by repeat (first | assumption | apply List.mem_cons_of_mem)))); (case hz => (rw [hz2]; exact Nat.le_of_ble_eq_true rfl)); (case b0 => omega); (case bB => omega); (case hts => exact .cons _ _ (.cons _ _ .nil)); (case hbs => first | exact .cons _ _ (.cons _ _ (.cons _ _ .nil)) | exact .cons _ _ (.cons _ _ (.cons _ _ (.cons _ _ .nil)))); (case hd => exact fun p hp => Nat.ne_of_lt (Nat.lt_trans (ktn_ltOf (by assumption : AllLt D rest) p hp) (by omega))); (case n9 => omega); (case n8 => omega))) | (k_dflt (refine' ret _ _ _ _ ?F (cb_drop ?N ?S) (made_dim (d := d) (o := o) (c0 := c0) (d1 := d1) (D := D) (es := es2) (es1 := es1) (ws := vs1) (ds := d0 :: ds) (shape := [Str.ofString "array"]) hq5 hkd2 hat2 ?hz ?b0 ?bB hnum ?hts ?hbs ho hdlo hi1 hws h3 ?hsh hj ?hd ?n9 ?n8); (case hsh => exact .inr ⟨by simp only [List.length_cons]; omega, rfl⟩); (case F => k_asm); (case N => k_asm); (case S => (refine' List.forall_mem_cons.mpr ⟨?S1, List.forall_mem_cons.mpr ⟨?S2, List.forall_mem_cons.mpr ⟨?S3, List.forall_mem_cons.mpr ⟨?S4, List.forall_mem_cons.mpr ⟨?S5, List.forall_mem_cons.mpr ⟨?S6, List.forall_mem_cons.mpr ⟨?S7, List.forall_mem_cons.mpr ⟨?S8, List.forall_mem_cons.mpr ⟨?S9, List.forall_mem_cons.mpr ⟨?S10, ?S11⟩⟩⟩⟩⟩⟩⟩⟩⟩⟩; (case S1 => k_mem); (case S2 => k_mem); (case S3 => k_mem); (case S5 => k_mem); (case S4 => k_mem); (case S6 => k_mem); (case S7 => k_mem); (case S8 => k_mem); (case S9 => k_mem); (case S10 => k_mem); (case S11 => exact fun p hp => by repeat (first | assumption | apply List.mem_cons_of_mem)))); (case hz => (rw [hz2]; exact Nat.le_of_ble_eq_true rfl)); (case b0 => omega); (case bB => omega); (case hts => exact .cons _ _ .nil); (case hbs => first | exact .cons _ _ (.cons _ _ .nil) | exact .cons _ _ (.cons _ _ (.cons _ _ .nil))); (case hd => exact fun p hp => Nat.ne_of_lt (Nat.lt_trans (ktn_ltOf (by assumption : AllLt D rest) p hp) (by omega))); (case n9 => omega); (case n8 => omega))))
          · rw [Bool.not_eq_true] at hqi
            have hnum : NumIn q9 [] := .no hqi hqd
            walk1
            k_steps
            (repeat ((rename _ ∧ _ => hc9); (obtain ⟨_, _⟩ := hc9)))
            rename News _ _ _ _ => N8
            have N8 := cut_dim N8
            k_dflt (refine' Ct.use (set_dim_ct (vs := ys) (ds := d0 :: ds) ?a1 ?a2 hk0 ?a4 ?a5 ?a6 ?a7 ?a8 ?a9 ?a10 ?a11 ?a12 ?a13 ?a14 hI ?a16 h3 hlo hhi ?a20) ?k1 ?k2 ?k3 ?k4 ?k5 ?k6 ?k7 ?k8 ?_; (case k1 => k_asm); (case k2 => k_asm); (case k3 => k_asm); (case k4 => exact N8); (case k5 => k_asm); (case k6 => first | exact rfl | assumption); (case k7 => ktr_room); (case k8 => ktr_units); (case a1 => k_mem); (case a2 => k_get); (case a4 => k_get); (case a5 => k_get); (case a6 => exact Nat.le_of_ble_eq_true rfl); (case a7 => k_mem); (case a8 => assumption); (case a9 => omega); (case a10 => k_mem); (case a11 => k_mem); (case a12 => assumption); (case a13 => assumption); (case a14 => k_mem); (case a16 => exact Nat.succ_pos _); (case a20 => exact List.forall_mem_cons.mpr ⟨by k_ne, List.forall_mem_cons.mpr ⟨by k_ne, List.forall_mem_cons.mpr ⟨by k_ne, List.forall_mem_cons.mpr ⟨by k_ne, List.forall_mem_cons.mpr ⟨by k_ne, List.forall_mem_cons.mpr ⟨by k_ne, List.forall_mem_cons.mpr ⟨by k_ne, fun p hp => Nat.ne_of_lt (ktn_ltOf (by assumption) p hp)⟩⟩⟩⟩⟩⟩⟩))
            rintro r9 news9 h9 tk9 F9 N9 ⟨d, o, c0, d1, D, es1, n1, vs1, c1, es2, n2, rfl, rfl, ho, hdlo, hi1, hws, hat2, hoth, hz2, hall, hlt⟩
            simp only [AllLt] at hall
            have hkd2 := (hoth (Str.ofString "kind") (by decide)).trans (by k_get)
            clear N8
            (try k_fold)
            k_steps
            all_goals ((repeat ((rename _ ∧ _ => hc9); (obtain ⟨_, _⟩ := hc9))); first | (k_dflt (refine' ret _ _ _ _ ?F (cb_drop ?N ?S) (made_dim (d := d) (o := o) (c0 := c0) (d1 := d1) (D := D) (es := es2) (es1 := es1) (ws := vs1) (ds := d0 :: ds) (shape := [Str.ofString "matrix", Str.ofString "array"]) hq5 hkd2 hat2 ?hz ?b0 ?bB hnum ?hts ?hbs ho hdlo hi1 hws h3 ?hsh hj ?hd ?n9 ?n8); (case hsh => exact .inl ⟨by simp only [List.length_cons]; omega, rfl⟩); (case F => k_asm); (case N => k_asm); (case S => (refine' List.forall_mem_cons.mpr ⟨?S1, List.forall_mem_cons.mpr ⟨?S2, List.forall_mem_cons.mpr ⟨?S3, List.forall_mem_cons.mpr ⟨?S4, List.forall_mem_cons.mpr ⟨?S5, List.forall_mem_cons.mpr ⟨?S6, List.forall_mem_cons.mpr ⟨?S7, List.forall_mem_cons.mpr ⟨?S8, List.forall_mem_cons.mpr ⟨?S9, List.forall_mem_cons.mpr ⟨?S10, ?S11⟩⟩⟩⟩⟩⟩⟩⟩⟩⟩; (case S1 => k_mem); (case S2 => k_mem); (case S3 => k_mem); (case S5 => k_mem); (case S4 => k_mem); (case S6 => k_mem); (case S7 => k_mem); (case S8 => k_mem); (case S9 => k_mem); (case S10 => k_mem); (case S11 => exact fun p hp => by repeat (first | assumption | apply List.mem_cons_of_mem)))); (case hz => (rw [hz2]; exact Nat.le_of_ble_eq_true rfl)); (case b0 => omega); (case bB => omega); (case hts => exact .cons _ _ (.cons _ _ .nil)); (case hbs => first | exact .cons _ _ (.cons _ _ (.cons _ _ .nil)) | exact .cons _ _ (.cons _ _ (.cons _ _ (.cons _ _ .nil)))); (case hd => exact fun p hp => Nat.ne_of_lt (Nat.lt_trans (ktn_ltOf (by assumption : AllLt D rest) p hp) (by omega))); (case n9 => omega); (case n8 => omega))) | (k_dflt (refine' ret _ _ _ _ ?F (cb_drop ?N ?S) (made_dim (d := d) (o := o) (c0 := c0) (d1 := d1) (D := D) (es := es2) (es1 := es1) (ws := vs1) (ds := d0 :: ds) (shape := [Str.ofString "array"]) hq5 hkd2 hat2 ?hz ?b0 ?bB hnum ?hts ?hbs ho hdlo hi1 hws h3 ?hsh hj ?hd ?n9 ?n8); (case hsh => exact .inr ⟨by simp only [List.length_cons]; omega, rfl⟩); (case F => k_asm); (case N => k_asm); (case S => (refine' List.forall_mem_cons.mpr ⟨?S1, List.forall_mem_cons.mpr ⟨?S2, List.forall_mem_cons.mpr ⟨?S3, List.forall_mem_cons.mpr ⟨?S4, List.forall_mem_cons.mpr ⟨?S5, List.forall_mem_cons.mpr ⟨?S6, List.forall_mem_cons.mpr ⟨?S7, List.forall_mem_cons.mpr ⟨?S8, List.forall_mem_cons.mpr ⟨?S9, List.forall_mem_cons.mpr ⟨?S10, ?S11⟩⟩⟩⟩⟩⟩⟩⟩⟩⟩; (case S1 => k_mem); (case S2 => k_mem); (case S3 => k_mem); (case S5 => k_mem); (case S4 => k_mem); (case S6 => k_mem); (case S7 => k_mem); (case S8 => k_mem); (case S9 => k_mem); (case S10 => k_mem); (case S11 => exact fun p hp => by repeat (first | assumption | apply List.mem_cons_of_mem)))); (case hz => (rw [hz2]; exact Nat.le_of_ble_eq_true rfl)); (case b0 => omega); (case bB => omega); (case hts => exact .cons _ _ .nil); (case hbs => first | exact .cons _ _ (.cons _ _ .nil) | exact .cons _ _ (.cons _ _ (.cons _ _ .nil))); (case hd => exact fun p hp => Nat.ne_of_lt (Nat.lt_trans (ktn_ltOf (by assumption : AllLt D rest) p hp) (by omega))); (case n9 => omega); (case n8 => omega))))
  · rintro i ys led hilt ⟨a1, b1, t1, u1, ds, rfl, hb1', hb2', hI, hln, hlo, hhi⟩ v I oI C oC D m₂ h tk E' hP hC hx F' N' off hne
    have off' := off
    simp only [LCg.Off3, and_true] at off'
    subst hbase
    obtain ⟨tv, rfl⟩ := hP
    k_steps
    rename News _ _ _ ((j, _) :: _) => N7
    exact LCg.CompEnd.intro (by k_asm) (comp_swap N7) _ (fun _ h => h) off trivial ⟨_, _, _, _, ds ++ [_], rfl, by omega, by omega, hI.append (.cons _ _ .nil), by rw [List.length_append, hln]; rfl, fun d hd => (List.mem_append.mp hd).elim (hlo d) (fun h => by rw [List.mem_singleton.mp h]; omega), fun d hd => (List.mem_append.mp hd).elim (hhi d) (fun h => by rw [List.mem_singleton.mp h]; omega)⟩

theorem fresho : True := by
  w_top off
  trivial

theorem news5 {h₀ h : Heap} {L : Addr} {led r : List (Addr × Obj)} {a b c d e : Addr × Obj} (N : News h₀ L h led) (s1 : a ∈ led) (s2 : b ∈ led) (s3 : c ∈ led) (s4 : d ∈ led) (s5 : e ∈ led) (s6 : ∀ p ∈ r, p ∈ led) : News h₀ L h (a :: b :: c :: d :: e :: r) :=
  cb_drop N (List.forall_mem_cons.mpr ⟨s1, List.forall_mem_cons.mpr ⟨s2, List.forall_mem_cons.mpr ⟨s3, List.forall_mem_cons.mpr ⟨s4, List.forall_mem_cons.mpr ⟨s5, s6⟩⟩⟩⟩⟩)
/-- a call made by the law: its head's word is wd -/
def LawCall (wd : Str) (news news' : List (Addr × Obj)) (r : Value) : Prop :=
  ∃ x cdx es ne il y us k Cy ydx yes yn, r = .ref x ∧ news' = (x, instObj 239 cdx) :: (cdx, dictOf es ne) :: (il, listOf (Value.ref y :: us).toArray k) :: (y, instObj Cy ydx) :: (ydx, dictOf yes yn) :: news ∧ HeadIn [(y, instObj Cy ydx), (ydx, dictOf yes yn)] y wd ∧
    (∃ t, getL (Str.ofString "kind") es = some (some (.str (Str.ofString "language") t))) ∧ getL sAttrs es = some (some .none) ∧ getL (Str.ofString "items") es = some (some (.ref il)) ∧ es.length ≤ 100 ∧ (AllLt cdx news ∧ AllLt il news ∧ AllLt ydx news) ∧ (@LT.lt Nat _ cdx x ∧ @LT.lt Nat _ ydx y ∧ @LT.lt Nat _ il cdx ∧ @LT.lt Nat _ y il)

local macro_rules | `(tactic| walk_at "call builtin:len") => `(tactic| (k_here; (with_reducible show wpAny _ _ (call (Value.builtin "len") [Value.ref _]) _ _ _); k_dflt (refine' len_at ?N ?m ?e ?z ?_; (case N => k_asm); (case m => k_mem); (case e => first | exact (rfl : _ = 1) | exact (rfl : _ = 2) | exact (rfl : _ = 3)); (case z => decide); k_whole)))
local macro_rules | `(tactic| walk_at "binaryOp Mult ref int") => `(tactic| (k_here; k_dflt (refine' mul_one_list ?F ?N ?m ?lo ?hi ?_; (case F => k_asm); (case N => k_asm); (case m => k_mem); (case lo => decide); (case hi => decide); k_whole); intro its9 D' h' hits9 F' N' l1; (try k_lt l1); (try k_sweep)))
local macro_rules | `(tactic| walk_at "call ref") => `(tactic| (k_here; (with_reducible show wpAny _ _ (call (Value.ref 378) _) _ _ _); k_dflt (refine wpAny_call ?_; k_enter)))
local macro_rules | `(tactic| walk_at "call ref") => `(tactic| (k_here; (with_reducible show wpAny _ _ (call (Value.ref 371) _) _ _ _); k_dflt (refine wpAny_call ?_; k_enter)))
local macro_rules | `(tactic| k_steps) => `(tactic| repeat' ((first | (k_unfold; (try dsimp only)) | (k_end; wrow_close) | walk1 | (dsimp only; walk1) | (leave1; walk_say "STEP leave1"; try dsimp only))))
set_option maxHeartbeats 2000000 in
theorem lawcall_ct {w : World} {news : List (Addr × Obj)} {hw : Str} {t : Tok} : Ct w 589 [.str hw t] 16 news (LawCall (if seven.any (· == hw) then hw else Str.ofString "call") news) := by
  by_cases h0 : (hw == Str.ofString "") = true
  · have e := eq_of_beq h0
    subst e
    unfold Ct
    intro p loose mean mg mb dp un gd cn cs ad ccd cl outer A₀ base h₀ L m s Q E B F X N T hk hd hu ret
    refine wpAny_call ?_
    k_dflt cell_enter
    k_steps
    (repeat ((rename _ ∧ _ => hc9); (obtain ⟨_, _⟩ := hc9)))
    k_dflt (refine' ret _ _ _ _ ?F (news5 ?N ?S1 ?S2 ?S3 ?S4 ?S5 ?S6) ⟨_, _, _, _, _, _, _, _, _, _, _, _, rfl, rfl, ?h1, ⟨_, ?hk⟩, ?ha, ?hi, ?hz, ?hlt, ?hne⟩; (case F => k_asm); (case N => k_asm); (case S1 => k_mem); (case S2 => k_mem))
    case hi => exact rfl
    case S3 => k_dflt k_mem
    case S4 => k_dflt k_mem
    case S5 => k_dflt k_mem
    case S6 => exact fun p hp => by repeat (first | assumption | apply List.mem_cons_of_mem)
    case hk => exact rfl
    case ha => exact rfl
    case hz => exact Nat.le_of_ble_eq_true rfl
    case hlt => exact ⟨by first | assumption | exact allLt_of (by assumption), by first | assumption | exact allLt_of (by assumption), by first | assumption | exact allLt_of (by assumption)⟩
    case hne => omega
    case h1 => (rw [if_neg (by decide)]; exact .other (by decide) (.head _) (.tail _ (.head _)) rfl (by decide))
  · rw [Bool.not_eq_true] at h0
    unfold Ct
    intro p loose mean mg mb dp un gd cn cs ad ccd cl outer A₀ base h₀ L m s Q E B F X N T hk hd hu ret
    refine wpAny_call ?_
    k_dflt cell_enter
    k_steps
    (repeat ((rename _ ∧ _ => hc9); (obtain ⟨_, _⟩ := hc9)))
    k_dflt (refine' ret _ _ _ _ ?F (news5 ?N ?S1 ?S2 ?S3 ?S4 ?S5 ?S6) ⟨_, _, _, _, _, _, _, _, _, _, _, _, rfl, rfl, ?h1, ⟨_, ?hk⟩, ?ha, ?hi, ?hz, ?hlt, ?hne⟩; (case F => k_asm); (case N => k_asm); (case S1 => k_mem); (case S2 => k_mem))
    case hi => exact rfl
    case S3 => k_dflt k_mem
    case S4 => k_dflt k_mem
    case S5 => k_dflt k_mem
    case S6 => exact fun p hp => by repeat (first | assumption | apply List.mem_cons_of_mem)
    case hk => exact rfl
    case ha => exact rfl
    case hz => exact Nat.le_of_ble_eq_true rfl
    case hlt => exact ⟨by first | assumption | exact allLt_of (by assumption), by first | assumption | exact allLt_of (by assumption), by first | assumption | exact allLt_of (by assumption)⟩
    case hne => omega
    case h1 => exact .sym (by decide) (.head _) (.tail _ (.head _)) rfl rfl

theorem freshp : True := by
  w_top off
  trivial

theorem made_other {w : World} {l j tp x tl bl C dx : Addr} {n : Nat} {a b B : Int} {t u tk : Tok} {es : List DictEntry} {ne kt kb : Nat} {k pc : Str} {tls bls : List Value} {rest sup : List (Addr × Obj)}
    (hC : C ∈ Cs) (hkd : getL (Str.ofString "kind") es = some (some (.str k tk))) (hat : getL sAttrs es = some (some .none)) (hz : es.length ≤ 100) (hb0 : 0 ≤ b) (hbB : b ≤ B) (hk : (k == Str.ofString "double") = false) (ht : NumIn k []) (hp : PlainIn sup es k pc) (hts : StrsAre tls [pc]) (hbs : StrsAre bls [pc]) (hno : (pc == Str.ofString "none") = false) (hok : PyData.strOk pc = true)
    (hsup : ∀ p ∈ rest, p ∈ sup) (hj : ∀ p ∈ sup, p.1 ≠ j) (hdx : ∀ p ∈ sup, p.1 ≠ dx) (n1 : @Ne Nat x dx ∧ @Ne Nat tl dx ∧ @Ne Nat bl dx ∧ @Ne Nat dx j ∧ @Ne Nat x j ∧ @Ne Nat tl j ∧ @Ne Nat bl j) :
    Made w l j n B rest ((tp, tup3 x tl bl) :: (j, jarObj l a b t u n) :: (dx, dictOf es ne) :: (x, instObj C dx) :: (tl, listOf tls.toArray kt) :: (bl, listOf bls.toArray kb) :: sup) (.ref tp) := by
  have hcls : clsOf [] [] k pc = [pc] := by unfold clsOf; rw [if_pos rfl, if_pos rfl, if_neg (by rw [hk]; decide)]
  refine ⟨tp, x, tl, bl, C, dx, a, b, t, u, es, ne, k, tk, tls, kt, bls, kb, [pc], [pc], _, _, rfl, rfl, hb0, hbB, fun p hp => .tail _ (.tail _ (.tail _ (hsup p hp))), ?_, ?_, .tail _ (.head _), hts, .tail _ (.tail _ (.head _)), hbs, .plain hat ⟨hC, .head _, ⟨_, hkd⟩, hz, hp.mono (fun p hp => .tail _ (.tail _ (.tail _ hp))), ht⟩ hcls.symm rfl, hC, .head _, .head _, hkd, ?_, ⟨by simp, by simp [hok]⟩, ⟨by simp, by simp [hok]⟩⟩
  · exact List.forall_mem_cons.mpr ⟨n1.2.2.2.1, List.forall_mem_cons.mpr ⟨n1.2.2.2.2.1, List.forall_mem_cons.mpr ⟨n1.2.2.2.2.2.1, List.forall_mem_cons.mpr ⟨n1.2.2.2.2.2.2, hj⟩⟩⟩⟩
  · exact List.forall_mem_cons.mpr ⟨n1.1, List.forall_mem_cons.mpr ⟨n1.2.1, List.forall_mem_cons.mpr ⟨n1.2.2.1, hdx⟩⟩⟩
  · simp [hno]

def ten : List Str := [Str.ofString "if", Str.ofString "for", Str.ofString "while", Str.ofString "(", Str.ofString "{", Str.ofString "<-", Str.ofString "=", Str.ofString "<<-", Str.ofString "f", Str.ofString ""]
theorem ten_facts {k : Str} (h : k ∈ ten) : ((if seven.any (· == k) then k else Str.ofString "call") == Str.ofString "none") = false ∧ PyData.strOk (if seven.any (· == k) then k else Str.ofString "call") = true := by
  simp only [ten, List.mem_cons, List.not_mem_nil, or_false] at h
  rcases h with rfl | rfl | rfl | rfl | rfl | rfl | rfl | rfl | rfl | rfl <;> decide +kernel

local macro_rules | `(tactic| k_steps) => `(tactic| repeat' ((fail_if_success (with_reducible show wpAny _ _ (call (Value.ref 589) _) _ _ _)); (first | (k_unfold; (try dsimp only)) | (k_end; wrow_close) | walk1 | (dsimp only; walk1) | (leave1; walk_say "STEP leave1"; try dsimp only))))
theorem news6 {h₀ h : Heap} {L : Addr} {led r : List (Addr × Obj)} {a b c d e f : Addr × Obj} (N : News h₀ L h led) (s1 : a ∈ led) (s2 : b ∈ led) (s3 : c ∈ led) (s4 : d ∈ led) (s5 : e ∈ led) (s6 : f ∈ led) (s7 : ∀ p ∈ r, p ∈ led) : News h₀ L h (a :: b :: c :: d :: e :: f :: r) :=
  cb_drop N (List.forall_mem_cons.mpr ⟨s1, List.forall_mem_cons.mpr ⟨s2, List.forall_mem_cons.mpr ⟨s3, List.forall_mem_cons.mpr ⟨s4, List.forall_mem_cons.mpr ⟨s5, List.forall_mem_cons.mpr ⟨s6, s7⟩⟩⟩⟩⟩⟩)
local macro_rules | `(tactic| walk_at "compareOp In str ref") => `(tactic| (k_here; k_dflt (refine' in_list_strs ?k1 ?k2 ?_; (case k1 => (refine' News.isList ?N9 ?m9; (case N9 => k_asm); (case m9 => k_mem))); (case k2 => exact .cons _ _ (.cons _ _ (.cons _ _ (.cons _ _ (.cons _ _ (.cons _ _ (.cons _ _ .nil))))))))))

theorem wd_pos {q : Str} (h : seven.any (· == q) = true) : (if seven.any (· == q) then q else Str.ofString "call") = q := if_pos h
theorem wd_neg {q : Str} (h : seven.any (· == q) = false) : (if seven.any (· == q) then q else Str.ofString "call") = Str.ofString "call" := if_neg (by rw [h]; decide)
theorem sub_two {a b c : Addr × Obj} {r : List (Addr × Obj)} : ∀ p ∈ [a, b], p ∈ c :: a :: b :: r := by
  intro p hp
  simp only [List.mem_cons, List.not_mem_nil, or_false] at hp ⊢
  rcases hp with rfl | rfl <;> simp
set_option maxHeartbeats 3000000 in
theorem other_ct {w : World} {l j : Addr} {vs : List Value} {ns : List Int} {ln n : Nat} {a b : Int} {t u : Tok} {rest : List (Addr × Obj)}
    (hl : (l, listOf vs.toArray ln) ∈ rest) (hi : IntsAre vs ns) (hne : 0 < ns.length) (hlen : ns.length < 100) (hb0 : 0 ≤ b) (hb1 : b < 900000) (hj : ∀ p ∈ rest, p.1 ≠ j) :
    Ct w 601 [.ref j] 40 ((j, jarObj l a b t u n) :: rest) (Made w l j n (b + 10) rest) := by
  unfold Ct
  intro p loose mean mg mb dp un gd cn cs ad ccd cl outer A₀ base h₀ L m s Q E B F X N T hk hd hu ret
  refine wpAny_call ?_
  k_dflt cell_enter
  k_steps
  · (repeat ((rename _ ∧ _ => hc9); (obtain ⟨_, _⟩ := hc9)))
    k_dflt (refine' ret _ _ _ _ ?F (news6 ?N ?S1 ?S2 ?S3 ?S4 ?S5 ?S6 ?S7) (made_other (C := 167) (k := Str.ofString "NULL") (pc := Str.ofString "NULL") (sup := rest) ?hC ?hkd ?hat ?hz ?b0 ?bB ?hk ?ht ?hp ?hts ?hbs ?hno ?hok (fun _ h => h) hj ?hdx ?n1); (case F => k_asm); (case N => k_asm); (case S1 => k_mem); (case S2 => k_mem); (case S4 => k_mem); (case S3 => k_mem); (case S5 => k_mem); (case S6 => k_mem); (case S7 => exact fun p hp => by repeat (first | assumption | apply List.mem_cons_of_mem)); (case hC => decide); (case hkd => first | assumption | exact rfl); (case hat => first | assumption | exact rfl); (case hz => first | assumption | exact Nat.le_of_ble_eq_true rfl); (case b0 => omega); (case bB => omega); (case hk => decide); (case ht => exact .no (by decide) (by decide)); (case hp => exact .own (by decide) (by decide) (by decide) (by decide) (by decide) (by decide)); (case hts => exact .cons _ _ .nil); (case hbs => exact .cons _ _ .nil); (case hno => decide); (case hok => decide +kernel); (case hdx => exact fun p hp => Nat.ne_of_lt (ktn_ltOf (by assumption) p hp)); (case n1 => omega))
  · (repeat ((rename _ ∧ _ => hc9); (obtain ⟨_, _⟩ := hc9)))
    k_dflt (refine' ret _ _ _ _ ?F (news6 ?N ?S1 ?S2 ?S3 ?S4 ?S5 ?S6 ?S7) (made_other (C := 217) (k := Str.ofString "symbol") (pc := Str.ofString "name") (sup := rest) ?hC ?hkd ?hat ?hz ?b0 ?bB ?hk ?ht ?hp ?hts ?hbs ?hno ?hok (fun _ h => h) hj ?hdx ?n1); (case F => k_asm); (case N => k_asm); (case S1 => k_mem); (case S2 => k_mem); (case S4 => k_mem); (case S3 => k_mem); (case S5 => k_mem); (case S6 => k_mem); (case S7 => exact fun p hp => by repeat (first | assumption | apply List.mem_cons_of_mem)); (case hC => decide); (case hkd => first | assumption | exact rfl); (case hat => first | assumption | exact rfl); (case hz => first | assumption | exact Nat.le_of_ble_eq_true rfl); (case b0 => omega); (case bB => omega); (case hk => decide); (case ht => exact .no (by decide) (by decide)); (case hp => exact .sym); (case hts => exact .cons _ _ .nil); (case hbs => exact .cons _ _ .nil); (case hno => decide); (case hok => decide +kernel); (case hdx => exact fun p hp => Nat.ne_of_lt (ktn_ltOf (by assumption) p hp)); (case n1 => omega))
  · k_dflt (refine' Ct.use lawcall_ct ?k1 ?k2 ?k3 ?k4 ?k5 ?k6 ?k7 ?k8 ?_; (case k1 => k_asm); (case k2 => k_asm); (case k3 => k_asm); (case k4 => k_asm); (case k5 => k_asm); (case k6 => first | exact rfl | assumption); (case k7 => ktr_room); (case k8 => ktr_units))
    rintro r9 news9 h9 tk9 F9 N9 ⟨x9, cdx9, es9, ne9, il9, y9, us9, k9, Cy9, ydx9, yes9, yn9, rfl, rfl, hh9, ⟨t9, hk9⟩, ha9, hi9, hz9, hlt9, hne9⟩
    simp only [AllLt, and_true] at hlt9
    (try k_fold)
    rename _ ∈ strsOf _ => hq9
    have hten := ten_facts (show _ ∈ ten from hq9)
    rename (List.any _ _) = _ => hany
    have hif := wd_pos hany
    rw [hif] at hten hh9
    k_steps
    (repeat ((rename _ ∧ _ => hc9); (obtain ⟨_, _⟩ := hc9)))
    k_dflt (refine' ret _ _ _ _ ?F (news6 ?N ?S1 ?S2 ?S3 ?S4 ?S5 ?S6 ?S7) (made_other (C := 239) (dx := cdx9) (es := es9) (k := Str.ofString "language") (sup := (il9, listOf (Value.ref y9 :: us9).toArray k9) :: (y9, instObj Cy9 ydx9) :: (ydx9, dictOf yes9 yn9) :: rest) ?hC hk9 ha9 hz9 ?b0 ?bB ?hk ?ht (.lang hi9 (.head _) (hh9.mono sub_two)) ?hts ?hbs ?hno ?hok (fun _ h => .tail _ (.tail _ (.tail _ h))) ?hj' ?hdx ?n1); (case F => k_asm); (case N => k_asm); (case S1 => k_mem); (case S2 => k_mem); (case S4 => k_mem); (case S3 => k_mem); (case S5 => k_mem); (case S6 => k_mem); (case S7 => exact List.forall_mem_cons.mpr ⟨by k_mem, List.forall_mem_cons.mpr ⟨by k_mem, List.forall_mem_cons.mpr ⟨by k_mem, fun p hp => by repeat (first | assumption | apply List.mem_cons_of_mem)⟩⟩⟩); (case hC => decide); (case b0 => omega); (case bB => omega); (case hk => decide); (case ht => exact .no (by decide) (by decide)); (case hts => exact .cons _ _ .nil); (case hbs => exact .cons _ _ .nil); (case hno => assumption); (case hok => assumption); (case hj' => exact List.forall_mem_cons.mpr ⟨by k_ne, List.forall_mem_cons.mpr ⟨by k_ne, List.forall_mem_cons.mpr ⟨by k_ne, hj⟩⟩⟩); (case hdx => exact List.forall_mem_cons.mpr ⟨by k_ne, List.forall_mem_cons.mpr ⟨by k_ne, List.forall_mem_cons.mpr ⟨by k_ne, fun p hp => Nat.ne_of_lt (ktn_ltOf (by assumption) p hp)⟩⟩⟩); (case n1 => omega))
  · k_dflt (refine' Ct.use lawcall_ct ?k1 ?k2 ?k3 ?k4 ?k5 ?k6 ?k7 ?k8 ?_; (case k1 => k_asm); (case k2 => k_asm); (case k3 => k_asm); (case k4 => k_asm); (case k5 => k_asm); (case k6 => first | exact rfl | assumption); (case k7 => ktr_room); (case k8 => ktr_units))
    rintro r9 news9 h9 tk9 F9 N9 ⟨x9, cdx9, es9, ne9, il9, y9, us9, k9, Cy9, ydx9, yes9, yn9, rfl, rfl, hh9, ⟨t9, hk9⟩, ha9, hi9, hz9, hlt9, hne9⟩
    simp only [AllLt, and_true] at hlt9
    (try k_fold)
    rename _ ∈ strsOf _ => hq9
    have hten := ten_facts (show _ ∈ ten from hq9)
    rename (List.any _ _) = _ => hany
    have hif := wd_neg hany
    rw [hif] at hten hh9
    k_steps
    (repeat ((rename _ ∧ _ => hc9); (obtain ⟨_, _⟩ := hc9)))
    k_dflt (refine' ret _ _ _ _ ?F (news6 ?N ?S1 ?S2 ?S3 ?S4 ?S5 ?S6 ?S7) (made_other (C := 239) (dx := cdx9) (es := es9) (k := Str.ofString "language") (sup := (il9, listOf (Value.ref y9 :: us9).toArray k9) :: (y9, instObj Cy9 ydx9) :: (ydx9, dictOf yes9 yn9) :: rest) ?hC hk9 ha9 hz9 ?b0 ?bB ?hk ?ht (.lang hi9 (.head _) (hh9.mono sub_two)) ?hts ?hbs ?hno ?hok (fun _ h => .tail _ (.tail _ (.tail _ h))) ?hj' ?hdx ?n1); (case F => k_asm); (case N => k_asm); (case S1 => k_mem); (case S2 => k_mem); (case S4 => k_mem); (case S3 => k_mem); (case S5 => k_mem); (case S6 => k_mem); (case S7 => exact List.forall_mem_cons.mpr ⟨by k_mem, List.forall_mem_cons.mpr ⟨by k_mem, List.forall_mem_cons.mpr ⟨by k_mem, fun p hp => by repeat (first | assumption | apply List.mem_cons_of_mem)⟩⟩⟩); (case hC => decide); (case b0 => omega); (case bB => omega); (case hk => decide); (case ht => exact .no (by decide) (by decide)); (case hts => exact .cons _ _ .nil); (case hbs => exact .cons _ _ .nil); (case hno => assumption); (case hok => assumption); (case hj' => exact List.forall_mem_cons.mpr ⟨by k_ne, List.forall_mem_cons.mpr ⟨by k_ne, List.forall_mem_cons.mpr ⟨by k_ne, hj⟩⟩⟩); (case hdx => exact List.forall_mem_cons.mpr ⟨by k_ne, List.forall_mem_cons.mpr ⟨by k_ne, List.forall_mem_cons.mpr ⟨by k_ne, fun p hp => Nat.ne_of_lt (ktn_ltOf (by assumption) p hp)⟩⟩⟩); (case n1 => omega))
  · (repeat ((rename _ ∧ _ => hc9); (obtain ⟨_, _⟩ := hc9)))
    k_dflt (refine' ret _ _ _ _ ?F (news6 ?N ?S1 ?S2 ?S3 ?S4 ?S5 ?S6 ?S7) (made_other (C := 261) (k := Str.ofString "closure") (pc := Str.ofString "function") (sup := rest) ?hC ?hkd ?hat ?hz ?b0 ?bB ?hk ?ht ?hp ?hts ?hbs ?hno ?hok (fun _ h => h) hj ?hdx ?n1); (case F => k_asm); (case N => k_asm); (case S1 => k_mem); (case S2 => k_mem); (case S4 => k_mem); (case S3 => k_mem); (case S5 => k_mem); (case S6 => k_mem); (case S7 => exact fun p hp => by repeat (first | assumption | apply List.mem_cons_of_mem)); (case hC => decide); (case hkd => first | assumption | exact rfl); (case hat => first | assumption | exact rfl); (case hz => first | assumption | exact Nat.le_of_ble_eq_true rfl); (case b0 => omega); (case bB => omega); (case hk => decide); (case ht => exact .no (by decide) (by decide)); (case hp => exact .clo); (case hts => exact .cons _ _ .nil); (case hbs => exact .cons _ _ .nil); (case hno => decide); (case hok => decide +kernel); (case hdx => exact fun p hp => Nat.ne_of_lt (ktn_ltOf (by assumption) p hp)); (case n1 => omega))
  · (repeat ((rename _ ∧ _ => hc9); (obtain ⟨_, _⟩ := hc9)))
    k_dflt (refine' ret _ _ _ _ ?F (news6 ?N ?S1 ?S2 ?S3 ?S4 ?S5 ?S6 ?S7) (made_other (C := 282) (k := Str.ofString "special") (pc := Str.ofString "function") (sup := rest) ?hC ?hkd ?hat ?hz ?b0 ?bB ?hk ?ht ?hp ?hts ?hbs ?hno ?hok (fun _ h => h) hj ?hdx ?n1); (case F => k_asm); (case N => k_asm); (case S1 => k_mem); (case S2 => k_mem); (case S4 => k_mem); (case S3 => k_mem); (case S5 => k_mem); (case S6 => k_mem); (case S7 => exact fun p hp => by repeat (first | assumption | apply List.mem_cons_of_mem)); (case hC => decide); (case hkd => first | assumption | exact rfl); (case hat => first | assumption | exact rfl); (case hz => first | assumption | exact Nat.le_of_ble_eq_true rfl); (case b0 => omega); (case bB => omega); (case hk => decide); (case ht => exact .no (by decide) (by decide)); (case hp => exact .spc); (case hts => exact .cons _ _ .nil); (case hbs => exact .cons _ _ .nil); (case hno => decide); (case hok => decide +kernel); (case hdx => exact fun p hp => Nat.ne_of_lt (ktn_ltOf (by assumption) p hp)); (case n1 => omega))
  · (repeat ((rename _ ∧ _ => hc9); (obtain ⟨_, _⟩ := hc9)))
    k_dflt (refine' ret _ _ _ _ ?F (news6 ?N ?S1 ?S2 ?S3 ?S4 ?S5 ?S6 ?S7) (made_other (C := 282) (k := Str.ofString "builtin") (pc := Str.ofString "function") (sup := rest) ?hC ?hkd ?hat ?hz ?b0 ?bB ?hk ?ht ?hp ?hts ?hbs ?hno ?hok (fun _ h => h) hj ?hdx ?n1); (case F => k_asm); (case N => k_asm); (case S1 => k_mem); (case S2 => k_mem); (case S4 => k_mem); (case S3 => k_mem); (case S5 => k_mem); (case S6 => k_mem); (case S7 => exact fun p hp => by repeat (first | assumption | apply List.mem_cons_of_mem)); (case hC => decide); (case hkd => first | assumption | exact rfl); (case hat => first | assumption | exact rfl); (case hz => first | assumption | exact Nat.le_of_ble_eq_true rfl); (case b0 => omega); (case bB => omega); (case hk => decide); (case ht => exact .no (by decide) (by decide)); (case hp => exact .blt); (case hts => exact .cons _ _ .nil); (case hbs => exact .cons _ _ .nil); (case hno => decide); (case hok => decide +kernel); (case hdx => exact fun p hp => Nat.ne_of_lt (ktn_ltOf (by assumption) p hp)); (case n1 => omega))
  · (repeat ((rename _ ∧ _ => hc9); (obtain ⟨_, _⟩ := hc9)))
    k_dflt (refine' ret _ _ _ _ ?F (news6 ?N ?S1 ?S2 ?S3 ?S4 ?S5 ?S6 ?S7) (made_other (C := 304) (k := Str.ofString "environment") (pc := Str.ofString "environment") (sup := rest) ?hC ?hkd ?hat ?hz ?b0 ?bB ?hk ?ht ?hp ?hts ?hbs ?hno ?hok (fun _ h => h) hj ?hdx ?n1); (case F => k_asm); (case N => k_asm); (case S1 => k_mem); (case S2 => k_mem); (case S4 => k_mem); (case S3 => k_mem); (case S5 => k_mem); (case S6 => k_mem); (case S7 => exact fun p hp => by repeat (first | assumption | apply List.mem_cons_of_mem)); (case hC => decide); (case hkd => first | assumption | exact rfl); (case hat => first | assumption | exact rfl); (case hz => first | assumption | exact Nat.le_of_ble_eq_true rfl); (case b0 => omega); (case bB => omega); (case hk => decide); (case ht => exact .no (by decide) (by decide)); (case hp => exact .own (by decide) (by decide) (by decide) (by decide) (by decide) (by decide)); (case hts => exact .cons _ _ .nil); (case hbs => exact .cons _ _ .nil); (case hno => decide); (case hok => decide +kernel); (case hdx => exact fun p hp => Nat.ne_of_lt (ktn_ltOf (by assumption) p hp)); (case n1 => omega))
  · (repeat ((rename _ ∧ _ => hc9); (obtain ⟨_, _⟩ := hc9)))
    k_dflt (refine' ret _ _ _ _ ?F (news6 ?N ?S1 ?S2 ?S3 ?S4 ?S5 ?S6 ?S7) (made_other (C := 325) (k := Str.ofString "S4") (pc := Str.ofString "Point") (sup := rest) ?hC ?hkd ?hat ?hz ?b0 ?bB ?hk ?ht ?hp ?hts ?hbs ?hno ?hok (fun _ h => h) hj ?hdx ?n1); (case F => k_asm); (case N => k_asm); (case S1 => k_mem); (case S2 => k_mem); (case S4 => k_mem); (case S3 => k_mem); (case S5 => k_mem); (case S6 => k_mem); (case S7 => exact fun p hp => by repeat (first | assumption | apply List.mem_cons_of_mem)); (case hC => decide); (case hkd => first | assumption | exact rfl); (case hat => first | assumption | exact rfl); (case hz => first | assumption | exact Nat.le_of_ble_eq_true rfl); (case b0 => omega); (case bB => omega); (case hk => decide); (case ht => exact .no (by decide) (by decide)); (case hp => exact .s4 rfl); (case hts => exact .cons _ _ .nil); (case hbs => exact .cons _ _ .nil); (case hno => decide); (case hok => decide +kernel); (case hdx => exact fun p hp => Nat.ne_of_lt (ktn_ltOf (by assumption) p hp)); (case n1 => omega))

theorem freshq : True := by
  w_top off
  trivial

theorem Ct.sub {w : World} {f : Addr} {vs : List Value} {k : Nat} {n1 n2 : List (Addr × Obj)} {post : List (Addr × Obj) → Value → Prop} (C : Ct w f vs k n2 post) (h : ∀ p ∈ n2, p ∈ n1) : Ct w f vs k n1 post := by
  unfold Ct at *
  intro p loose mean mg mb dp un gd cn cs a ccd cl outer A₀ base h₀ L m s Q E B F X N T hk hd hu ret
  exact C _ _ _ _ _ _ _ _ _ _ _ _ _ _ _ _ _ _ _ _ _ _ B F X (cb_drop N h) T hk hd hu ret
/-- the class row is set: the part of the ledger that this changed -/
inductive Worn (w : World) (x C dx : Addr) (k : Str) (L D row : List Str) (more : List (Addr × Obj)) : List (Addr × Obj) → Prop
  | plain {d x' d1 D' : Addr} {o : Obj} {es1 es2 : List DictEntry} {n1 c' n2 : Nat} {pc : Str} {tw : List Str} {vs : List Value} : o.IsDictOf (knd w) [(Str.ofString "class", .ref x')] → (d == sysModules) = false → getL (Str.ofString "items") es1 = some (some (.ref D')) → getL sAttrs es2 = some (some (.ref d)) → @Ne Nat d dx →
      StrsAre vs row → VObj more x C dx es2 k pc tw → L = clsOf [] [] k pc → D = [] ++ [pc] ++ tw → Worn w x C dx k L D row more [(d, o), (x', instObj 196 d1), (d1, dictOf es1 n1), (D', listOf vs.toArray c'), (dx, dictOf es2 n2)]
  | dim {d c0 x' d1 D' : Addr} {o : Obj} {es es1 : List DictEntry} {ne n1 c' : Nat} {pc : Str} {tw shape : List Str} {vs : List Value} : o.IsDictOf (knd w) [(Str.ofString "dim", .ref c0), (Str.ofString "class", .ref x')] → (d == sysModules) = false → getL (Str.ofString "items") es1 = some (some (.ref D')) → (dx, dictOf es ne) ∈ more → getL sAttrs es = some (some (.ref d)) →
      StrsAre vs row → VObj more x C dx es k pc tw → DimIn more (some (.ref c0)) shape → L = clsOf [] shape k pc → D = shape ++ [pc] ++ tw → Worn w x C dx k L D row more [(x', instObj 196 d1), (d1, dictOf es1 n1), (D', listOf vs.toArray c'), (d, o)]
theorem far4 {base : List (Addr × Obj)} {p1 p2 p3 p4 : Addr × Obj} (h1 : ∀ q ∈ base, @Ne Nat p1.1 q.1) (h2 : ∀ q ∈ base, @Ne Nat p2.1 q.1) (h3 : ∀ q ∈ base, @Ne Nat p3.1 q.1) (h4 : ∀ q ∈ base, @Ne Nat p4.1 q.1) : ∀ p ∈ [p1, p2, p3, p4], ∀ q ∈ base, p.1 ≠ q.1 :=
  List.forall_mem_cons.mpr ⟨h1, List.forall_mem_cons.mpr ⟨h2, List.forall_mem_cons.mpr ⟨h3, List.forall_mem_cons.mpr ⟨h4, List.forall_mem_nil _⟩⟩⟩⟩
theorem far5 {base : List (Addr × Obj)} {p1 p2 p3 p4 p5 : Addr × Obj} (h1 : ∀ q ∈ base, @Ne Nat p1.1 q.1) (h2 : ∀ q ∈ base, @Ne Nat p2.1 q.1) (h3 : ∀ q ∈ base, @Ne Nat p3.1 q.1) (h4 : ∀ q ∈ base, @Ne Nat p4.1 q.1) (h5 : ∀ q ∈ base, @Ne Nat p5.1 q.1) : ∀ p ∈ [p1, p2, p3, p4, p5], ∀ q ∈ base, p.1 ≠ q.1 :=
  List.forall_mem_cons.mpr ⟨h1, far4 h2 h3 h4 h5⟩
theorem set_chg {w : World} {x C dx c cdx il : Addr} {es ces : List DictEntry} {ne cn kl : Nat} {k : Str} {ck tc : Tok} {L D row : List Str} {hd : Addr × Obj} {more base : List (Addr × Obj)} {vs : List Value} (cg : Chg w x C dx es ne k L D more hd) (hk0 : (k == Str.ofString "NULL") = false) (hsub : ∀ p ∈ more, p ∈ base) (hne : ∀ p ∈ base, p.1 ≠ hd.1)
    (hc : (c, instObj 196 cdx) ∈ base) (hcd : (cdx, dictOf ces cn) ∈ base) (hck : getL (Str.ofString "kind") ces = some (some (.str (Str.ofString "character") ck))) (hci : getL (Str.ofString "items") ces = some (some (.ref il))) (hil : (il, listOf vs.toArray kl) ∈ base)
    (hs : StrsAre vs row) (hrow : 0 < row.length) (hrow3 : row.length ≤ 3) (hfac : row.any (fun x => x == Str.ofString "factor") = false) :
    Ct w 453 [.ref x, .str (Str.ofString "class") tc, .ref c] 12 (hd :: base) (fun news' r => r = .none ∧ ∃ S, news' = S ++ base ∧ Worn w x C dx k L D row more S ∧ ∀ p ∈ S, ∀ q ∈ base, p.1 ≠ q.1) := by
  cases cg with
  | plain h2 V h4 h5 =>
    obtain ⟨tk, hk⟩ := V.hk
    refine (set_class_none V.hC (hsub _ V.hx) hk hk0 h2 V.hz hc hcd hck hci hil hs hrow hrow3 hfac hne).weaken ?_
    rintro news' r ⟨d, o, x', d1, D', es1, n1, c', es2, n2, rfl, rfl, ho, hlo, hi, ha2, hcong, hlen, hall, l1, l2, l3⟩
    have hlt : ∀ q ∈ (dx, dictOf es ne) :: base, @LT.lt Nat _ q.1 D' := ktn_ltOf hall
    have hdx : @LT.lt Nat _ dx D' := hlt _ (.head _)
    have hb : ∀ q ∈ base, @LT.lt Nat _ q.1 D' := fun q hq => hlt q (.tail _ hq)
    refine ⟨rfl, [_, _, _, _, _], rfl, .plain ho hlo hi ha2 ?_ hs (V.congr hcong hlen fun _ h => h) h4 h5, far5 ?_ ?_ ?_ ?_ ?_⟩
    · exact Nat.ne_of_gt (Nat.lt_trans hdx (Nat.lt_trans l1 (Nat.lt_trans l2 l3)))
    · exact fun q hq => Nat.ne_of_gt (Nat.lt_trans (hb q hq) (Nat.lt_trans l1 (Nat.lt_trans l2 l3)))
    · exact fun q hq => Nat.ne_of_gt (Nat.lt_trans (hb q hq) (Nat.lt_trans l1 l2))
    · exact fun q hq => Nat.ne_of_gt (Nat.lt_trans (hb q hq) l1)
    · exact fun q hq => Nat.ne_of_gt (hb q hq)
    · exact fun q hq => (hne q hq).symm
  | dim h2 h3 h4 h5 V h7 h8 h9 =>
    obtain ⟨tk, hk⟩ := V.hk
    refine (set_class_dict V.hC (hsub _ V.hx) (hsub _ h2) hk hk0 h3 hc hcd hck hci hil h4 h5 hs hrow hrow3 hfac hne).weaken ?_
    rintro news' r ⟨o', x', d1, D', es1, n1, c', rfl, rfl, ho, hi, hall, l1, l2⟩
    have hlt := ktn_ltOf hall
    have hb : ∀ q ∈ base, @LT.lt Nat _ q.1 D' := fun q hq => hlt q (.tail _ hq)
    refine ⟨rfl, [_, _, _, _], rfl, .dim ho h5 hi h2 h3 hs V h7 h8 h9, far4 ?_ ?_ ?_ ?_⟩
    · exact fun q hq => Nat.ne_of_gt (Nat.lt_trans (hb q hq) (Nat.lt_trans l1 l2))
    · exact fun q hq => Nat.ne_of_gt (Nat.lt_trans (hb q hq) l1)
    · exact fun q hq => Nat.ne_of_gt (hb q hq)
    · exact fun q hq => (hne q hq).symm
theorem Worn.live {w : World} {x C dx : Addr} {k : Str} {L D row : List Str} {more base S : List (Addr × Obj)} (cg : Worn w x C dx k L D row more S) (hsub : ∀ p ∈ more, p ∈ base) (hrow : 0 < row.length) (hrow3 : row.length ≤ 3) : Live w x row row D (S ++ base) := by
  have hr : row ≠ [] := fun e => by rw [e] at hrow; exact absurd hrow (by decide)
  cases cg with
  | @plain d x' d1 D' o es1 es2 n1 c' n2 pc tw vs ho hlo hi ha2 hdd hs V h4 h5 =>
    have hvl := hs.length
    have g := V.live (n := n2) (row := row) (shape := []) (news := (d, o) :: (x', instObj 196 d1) :: (d1, dictOf es1 n1) :: (D', listOf vs.toArray c') :: (dx, dictOf es2 n2) :: base) (av := .ref d) (.tail _ (.tail _ (.tail _ (.tail _ (.head _))))) (fun p hp => .tail _ (.tail _ (.tail _ (.tail _ (.tail _ (hsub p hp)))))) ha2
      (.some (.head _) ho hlo rfl rfl (.some ⟨_, _, _, _, _, .tail _ (.head _), .tail _ (.tail _ (.head _)), hi, .tail _ (.tail _ (.tail _ (.head _))), by omega⟩ hs hr hrow3) .none)
    rw [cls_row hr, dsp_row hr] at g
    rw [h5]
    exact g
  | @dim d c0 x' d1 D' o es es1 ne n1 c' pc tw shape vs ho hlo hi hdx ha hs V h7 h8 h9 =>
    have hvl := hs.length
    have g := V.live (n := ne) (row := row) (shape := shape) (news := (x', instObj 196 d1) :: (d1, dictOf es1 n1) :: (D', listOf vs.toArray c') :: (d, o) :: base) (av := .ref d) (.tail _ (.tail _ (.tail _ (.tail _ (hsub _ hdx))))) (fun p hp => .tail _ (.tail _ (.tail _ (.tail _ (hsub p hp))))) ha
      (.some (.tail _ (.tail _ (.tail _ (.head _)))) ho hlo rfl rfl (.some ⟨_, _, _, _, _, .head _, .tail _ (.head _), hi, .tail _ (.tail _ (.head _)), by omega⟩ hs hr hrow3) (h7.mono fun p hp => .tail _ (.tail _ (.tail _ (.tail _ (hsub p hp))))))
    rw [cls_row hr, dsp_row hr] at g
    rw [h9]
    exact g
theorem drop_worn {w : World} {x C dx c cdx : Addr} {ces : List DictEntry} {cn : Nat} {k : Str} {ck tc : Tok} {L D row : List Str} {more base S : List (Addr × Obj)} (cg : Worn w x C dx k L D row more S) (hk0 : (k == Str.ofString "NULL") = false) (hsub : ∀ p ∈ more, p ∈ base) (hne : ∀ p ∈ S, ∀ q ∈ base, p.1 ≠ q.1)
    (hc : (c, instObj 167 cdx) ∈ base) (hcd : (cdx, dictOf ces cn) ∈ base) (hck : getL (Str.ofString "kind") ces = some (some (.str (Str.ofString "NULL") ck))) :
    Ct w 453 [.ref x, .str (Str.ofString "class") tc, .ref c] 12 (S ++ base) (fun news' r => r = .none ∧ (∀ p ∈ base, p ∈ news') ∧ Live w x L D D news') := by
  cases cg with
  | @plain d x' d1 D' o es1 es2 n1 c' n2 pc tw vs ho hlo hi ha2 hdd hs V h4 h5 =>
    obtain ⟨tk, hk⟩ := V.hk
    refine ((drop_class_none (n := n2) (rest := base) V.hC (hsub _ V.hx) hk hk0 ha2 V.hz hc hcd hck ho hlo (fun q hq => (hne _ (.head _) q hq).symm) (fun q hq => (hne _ (.tail _ (.tail _ (.tail _ (.tail _ (.head _))))) q hq).symm) hdd).sub ?_).weaken ?_
    · exact List.forall_mem_cons.mpr ⟨.head _, List.forall_mem_cons.mpr ⟨.tail _ (.tail _ (.tail _ (.tail _ (.head _)))), fun p hp => .tail _ (.tail _ (.tail _ (.tail _ (.tail _ hp))))⟩⟩
    rintro news' r ⟨es3, n3, rfl, rfl, ha3, hcong, hlen⟩
    refine ⟨rfl, sub_cons, ?_⟩
    subst h4 h5
    exact (V.congr hcong hlen hsub).live (.head _) sub_cons ha3 .none
  | @dim d c0 x' d1 D' o es es1 ne n1 c' pc tw shape vs ho hlo hi hdx ha hs V h7 h8 h9 =>
    obtain ⟨tk, hk⟩ := V.hk
    refine ((drop_class_dict (rest := base) V.hC (hsub _ V.hx) (hsub _ hdx) hk hk0 ha hc hcd hck ho hlo (fun q hq => (hne _ (.tail _ (.tail _ (.tail _ (.head _)))) q hq).symm)).sub ?_).weaken ?_
    · exact List.forall_mem_cons.mpr ⟨.tail _ (.tail _ (.tail _ (.head _))), fun p hp => .tail _ (.tail _ (.tail _ (.tail _ hp)))⟩
    rintro news' r ⟨o', rfl, rfl, ho'⟩
    refine ⟨rfl, sub_cons, ?_⟩
    subst h8 h9
    exact V.live (.tail _ (hsub _ hdx)) (fun p hp => .tail _ (hsub p hp)) ha (.some (.head _) ho' hlo rfl rfl .none (h7.mono fun p hp => .tail _ (hsub p hp)))

theorem freshr : True := by
  w_top off
  trivial

theorem agrees_live {w : World} {news : List (Addr × Obj)} {x tl bl : Addr} {ts bs : List Value} {L D I : List Str} {kt kb : Nat} (V : Live w x L D I news) (ht : (tl, listOf ts.toArray kt) ∈ news) (hts : StrsAre ts L) (hb : (bl, listOf bs.toArray kb) ∈ news) (hbs : StrsAre bs D)
    (hno : L.any (· == Str.ofString "none") = false) (oL : Okay L) (oD : Okay D) : Ct w 608 [.ref x, .ref tl, .ref bl] 40 news (fun news' r => news' = news ∧ r = .bool true) :=
  agrees_ct V.cls V.dsp ht hts hb hbs hno (shaped_strs oL.len oL.ok) (shaped_strs oD.len oD.ok) (Nat.le_trans oL.len (by decide)) (Nat.le_trans oD.len (by decide))
local macro_rules | `(tactic| walk_at "call ref") => `(tactic| (k_here; (with_reducible show wpAny _ _ (call (Value.ref 608) _) _ _ _); k_dflt (refine' Ct.use (agrees_live ?a1 ?a2 ?a3 ?a4 ?a5 ?a6 ?a7 ?a8) ?k1 ?k2 ?k3 ?k4 ?k5 ?k6 ?k7 ?k8 ?_; (case k1 => k_asm); (case k2 => k_asm); (case k3 => k_asm); (case k4 => k_asm); (case k5 => k_asm); (case k6 => first | exact rfl | assumption); (case k7 => ktr_room); (case k8 => ktr_units); (case a1 => first | assumption | exact Live.mono (by assumption) (fun p hp => by repeat (first | assumption | apply List.mem_cons_of_mem))); (case a2 => k_mem); (case a4 => k_mem); (case a3 => assumption); (case a5 => assumption); (case a6 => assumption); (case a7 => assumption); (case a8 => assumption)); intro r9 news9 h9 tk9 F9 N9 ho9; k_dflt (obtain ⟨e9, e9'⟩ := ho9; subst e9; subst e9'); (try k_fold)))
local macro_rules | `(tactic| walk_at "call ref") => `(tactic| (k_here; (with_reducible show wpAny _ _ (call (Value.ref 554) _) _ _ _); k_dflt (refine' Ct.use (ImpCt.use ?a0 ?a1) ?k1 ?k2 ?k3 ?k4 ?k5 ?k6 ?k7 ?k8 ?_; (case k1 => k_asm); (case k2 => k_asm); (case k3 => k_asm); (case k4 => k_asm); (case k5 => k_asm); (case k6 => first | exact rfl | assumption); (case k7 => ktr_room); (case k8 => ktr_units); (case a0 => exact Live.imp (by assumption)); (case a1 => exact fun p hp => by repeat (first | assumption | apply List.mem_cons_of_mem))); intro r9 news9 h9 tk9 F9 N9 ho9; k_dflt (obtain ⟨a9, vs9, k9, e9, e9', lt9, hs9⟩ := ho9; subst e9; subst e9'; (have hln9 := StrsAre.length hs9)); (try k_lt lt9); (try k_fold)))
local macro_rules | `(tactic| walk_at "compareOp NotEq ref ref") => `(tactic| (k_here; (with_reducible show wpAny _ _ (compareOp CmpOp.NotEq (Value.ref _) (Value.ref _)) _ _ _); k_dflt (refine' ne_strs_same ?N ?a ?b ?x ?y ?s ?u ?_; (case N => k_asm); (case a => k_mem); (case b => k_mem); (case x => assumption); (case y => assumption); (case s => exact shaped_strs (Okay.len (by assumption)) (Okay.ok (by assumption))); (case u => ke_room))))
theorem slice_tmp {w : World} {A : Around} {E : Value → Shared → Prop} {s : Shared} {h₀ : Heap} {L l : Addr} {m : Str → Option Value} {news : List (Addr × Obj)} {value slice : PySem.Expr} {vs : List Value} {ns : List Int} {tu : Tok} {Q : Value → Shared → Prop}
    (F : Fr h₀ L s.heap m) (N : News h₀ L s.heap news) (hl : s.heap.IsList l vs.toArray) (hi : IntsAre vs ns) (h0 : 0 < ns.length) (hz : ns.length ≤ 1000)
    (h : ∀ D ws ms h', Fr h₀ L h' m → News h₀ L h' ((D, listOf (List.toArray ws) 0) :: news) → (∀ p ∈ news, p.1 < D) → IntsAre ws ms → 0 < ms.length → ms.length < 100 → Q (.ref D) { s with heap := h' })
    (hs : subscripted slice false (.ref l) (.ref s.heap.objs.size) = operate [.ref s.heap.objs.size, .ref l] (getItem (.ref l) (.ref s.heap.objs.size))) :
    wpAny (model PySem.Challenge.pw_ov0076_01 w) A (subscriptTail value slice (.ref l) (.ref s.heap.objs.size)) Q E { s with heap := s.heap.push { cls := .type "slice", data := .fields #[.none, .int 40 tu, .none] } } := by
  refine tail_any (Heap.IsList.typeIs (s := { s with heap := s.heap.push { cls := .type "slice", data := .fields #[.none, .int 40 tu, .none] } }) (hl.push _)) list_getitem_lookup
    (wpAny_getItem_list_slice (hl.push _) (Heap.IsSliceOf.new ..) .none (.int 40 tu) .none (by simp) ?_ (by rw [List.size_toArray, hi.length, sizeLine_eq]; omega)) hs
  have N1 := News.push (F.push { cls := .type "slice", data := .fields #[.none, .int 40 tu, .none] }) (N.grown fun _ _ e => Heap.get?_push_of_some _ e) { cls := .type "list", data := .seq (slicePick vs.toArray none (some 40) none) }
  rw [Heap.size_push] at N1
  show Q (.ref (s.heap.push _).objs.size) _
  rw [Heap.size_push]
  refine h _ (slicePick vs.toArray none (some 40) none).toList (ns.take 40) _ ((F.push _).push _) ?_ (fun p hp => Nat.lt_succ_of_lt (Heap.lt_size (N p hp).1)) (slice_ints_uptoW hi (by decide)) (by rw [List.length_take]; omega) (by rw [List.length_take]; omega)
  rw [Array.toArray_toList]
  exact N1
local macro_rules | `(tactic| walk_at "subscriptTail BinOp") => `(tactic| (k_here; k_dflt (refine' slice_tmp ?F ?N ?l ?i ?o ?z ?_ ?s; (case F => k_asm); (case N => k_asm); (case l => (refine' News.isList ?N9 ?m9; (case N9 => k_asm); (case m9 => exact List.Mem.head _))); (case i => assumption); (case o => (simp only [List.length_append, List.length_cons, List.length_nil]; omega)); (case z => (simp only [List.length_append, List.length_cons, List.length_nil]; (have hb1' := len_ints_list (by lay_of)); omega)); (case s => with_unfolding_all rfl); k_whole); intro D' ws' ms' h' F' N' l1 hI' hC' hL'; (try k_lt l1); (try k_sweep)))
local macro_rules | `(tactic| walk_at "call type:range") => `(tactic| ((rename Fr _ _ _ _ => F'); (rename News _ _ _ _ => N'); (with_unfolding_all refine range1_rows F' N' ?_); intro _ _ _ _ _ _ _ _ _))
theorem jar_fun {m : Str → Option Value} {x : Str} {v : Value} (h : m x = some v) : ∃ m' : Str → Option Value, m = fun y => if y = x then some v else m' y :=
  ⟨m, funext fun y => by by_cases e : y = x
                         · rw [if_pos e, e, h]
                         · rw [if_neg e]⟩
local macro_rules | `(tactic| walk_at "ite") => `(tactic| (k_here; (with_reducible show if (!_) = true then _ else _); k_dflt (first | refine ite_ff ?_ | refine ite_tt ?_)))
local macro_rules | `(tactic| k_steps) => `(tactic| repeat' ((fail_if_success (with_reducible show wpAny _ _ (call (Value.ref 608) _) _ _ _)); (fail_if_success (with_reducible show wpAny _ _ (call (Value.ref 594) _) _ _ _)); (fail_if_success (with_reducible show wpAny _ _ (call (Value.ref 601) _) _ _ _)); (fail_if_success (with_reducible show wpAny _ _ (call (Value.ref 453) _) _ _ _)); (fail_if_success (with_reducible show wpAny _ _ (pyIter (Value.ref _)) _ _ _)); (first | (k_unfold; (try dsimp only)) | (k_end; wrow_close) | walk1 | (dsimp only; walk1) | (leave1; walk_say "STEP leave1"; try dsimp only))))
local macro_rules | `(tactic| o_steps) => `(tactic| repeat' ((fail_if_success (with_reducible show wpAny _ _ (call (Value.ref 582) _) _ _ _)); (fail_if_success (with_reducible show wpAny _ _ (call (Value.ref 594) _) _ _ _)); (fail_if_success (with_reducible show wpAny _ _ (call (Value.ref 601) _) _ _ _)); (fail_if_success (with_reducible show wpAny _ _ (call (Value.ref 453) _) _ _ _)); (fail_if_success (with_reducible show wpAny _ _ (pyIter (Value.ref _)) _ _ _)); (first | (k_unfold; (try dsimp only)) | (k_end; wrow_close) | walk1 | (dsimp only; walk1) | (leave1; walk_say "STEP leave1"; try dsimp only))))

theorem cut_law {h₀ h : Heap} {L : Addr} {a b c d e f jr ls y z : Addr × Obj} (N : News h₀ L h [a, b, c, d, e, f, jr, ls, y, z]) : News h₀ L h [jr, ls] := cb_drop N fun p hp => by
  simp only [List.mem_cons, List.not_mem_nil, or_false] at hp ⊢
  rcases hp with h | h <;> simp [h]
theorem name_jar {h₀ h : Heap} {L j l : Addr} {o : Obj} {ws : List Value} {k : Nat} (_ : News h₀ L h [(j, o), (l, listOf ws.toArray k)]) : ∃ j' l' ws', j' = j ∧ l' = l ∧ ws' = ws := ⟨j, l, ws, rfl, rfl, rfl⟩

section
variable {prog : Program} {w : World} {A : Around} {E : Value → Shared → Prop} {s : Shared} {env : Env} {h₀ : Heap} {x : Str} {body : List Stmt} {Q : Flow → Shared → Prop}
theorem range_st1 {r : Addr} {a₀ b₀ : Int} {t₀ u₀ v₀ : Tok} {n : Nat} {m₀ : Str → Option Value} {st₀ base : List (Addr × Obj)} (K : Nat → List (Addr × Obj) → Prop) (addrs : List Addr)
    (hh : A.handled = none) (hr : IsRange s.heap r a₀ b₀ 1 t₀ u₀ v₀) (hsmall : Builtin.Range.small a₀ b₀ 1 = true) (hn : Builtin.Range.rangeSize a₀ b₀ 1 = (n : Int)) (F : Fr h₀ env.locals s.heap m₀) (N : News h₀ env.locals s.heap (st₀ ++ base)) (h0 : K 0 st₀)
    (hJ : ∀ i st, K i st → ∀ p ∈ st, p.1 ∈ addrs) (hat : ∀ a ∈ addrs, ∃ o, (a, o) ∈ st₀ ++ base) (hoff : ∀ a ∈ addrs, ∀ q ∈ base, q.1 ≠ a)
    (turn : ∀ i t h tk st big, i < n → K i st → (∀ p ∈ base, p ∈ big) → (∀ a ∈ addrs, ∀ q ∈ big, q.1 ≠ a) → Fr h₀ env.locals h (fun y => if y = x then some (.int (a₀ + i * 1) t) else m₀ y) → News h₀ env.locals h (st ++ big) →
      wpAny (model prog w) A (execs body env) (StPost h₀ env.locals big (fun m' st' => (∀ z, z ≠ x → m' z = m₀ z) ∧ K (i + 1) st') { s with heap := h, toks := tk } Q) E { s with heap := h, toks := tk })
    (done : ∀ o h tk st, K n st → Fr h₀ env.locals h (fun y => if y = x then o else m₀ y) → News h₀ env.locals h (st ++ base) → Q .next { s with heap := h, toks := tk }) :
    wpAny (model prog w) A (pyIter (.ref r)) (fun it s₂ => LoopAtV prog w A h₀ env x body Q E it s₂) E s := by
  refine range_st (fun i m' st => (∀ z, z ≠ x → m' z = m₀ z) ∧ K i st) addrs hh hr hsmall hn F N ⟨fun _ _ => rfl, h0⟩ (fun i _ st h => hJ i st h.2) hat hoff ?_ ?_
  · intro i t h tk m st big hv hK a b F' N'
    have e : (fun y => if y = x then some (Value.int (a₀ + i * 1) t) else m y) = fun y => if y = x then some (Value.int (a₀ + i * 1) t) else m₀ y := by
      funext z; by_cases hz : z = x
      · rw [if_pos hz, if_pos hz]
      · rw [if_neg hz, if_neg hz, hK.1 z hz]
    rw [e] at F'
    exact turn i t h tk st big hv hK.2 a b F' N'
  · intro m h tk st hK F' N'
    obtain ⟨o, rfl⟩ := after_for hK.1
    exact done o h tk st hK.2 F' N'
end
def four : List Str := [Str.ofString "one", Str.ofString "two", Str.ofString "three", Str.ofString "matrix"]
theorem name_two {h₀ h : Heap} {L j r : Addr} {o o' : Obj} {rest : List (Addr × Obj)} (_ : News h₀ L h ((j, o) :: (r, o') :: rest)) : ∃ r', r' = r := ⟨r, rfl⟩
theorem tup_ne {h₀ h : Heap} {L tp j x tl bl l : Addr} {a b : Int} {t u : Tok} {n : Nat} {r : List (Addr × Obj)} (N : News h₀ L h ((tp, tup3 x tl bl) :: (j, jarObj l a b t u n) :: r)) : @Ne Nat tp j := fun e => by
  have h1 := (N _ (.head _)).1
  have h2 := (N _ (.tail _ (.head _))).1
  dsimp only at h1 h2
  rw [show tp = j from e] at h1
  have h3 := congrArg Obj.cls (Option.some.inj (h1.symm.trans h2))
  have h4 : Value.type "tuple" = Value.type "list" := h3
  exact absurd (Value.type.inj h4) (by decide)
theorem live_vec {w : World} {news : List (Addr × Obj)} {x dx : Addr} {es : List DictEntry} {n : Nat} {k : Str} {tk : Tok} {tw : List Str} (hk5 : k ∈ five) (hx : (x, instObj 196 dx) ∈ news) (hd' : (dx, dictOf es n) ∈ news) (hkd : getL (Str.ofString "kind") es = some (some (.str k tk))) (hat : getL sAttrs es = some (some .none)) (hz : es.length ≤ 100) (ht : NumIn k tw) :
    Live w x (clsOf [] [] k k) (dspOf [] [] k tw) ([] ++ [k] ++ tw) news := VObj.live ⟨by decide, hx, ⟨_, hkd⟩, hz, five_plain hk5, ht⟩ hd' (fun _ h => h) hat .none
theorem eq_strs_nil {w : World} {A : Around} {E : Value → Shared → Prop} {s : Shared} {h₀ : Heap} {L : Addr} {news : List (Addr × Obj)} {a b : Addr} {xs : List Value} {k l : Nat} {ds : List Str} {Q : Value → Shared → Prop}
    (N : News h₀ L s.heap news) (ha : (a, listOf xs.toArray k) ∈ news) (hb : (b, listOf ([] : List Value).toArray l) ∈ news) (hx : StrsAre xs ds) (h3 : ds.length ≤ 5) (hok : ds.all PyData.strOk = true) (hu : A.units + 64 < cLine) (h : Q (.bool ds.isEmpty) s) :
    wpAny (model PySem.Challenge.pw_ov0076_01 w) A (compareOp .Eq (.ref a) (.ref b)) Q E s :=
  eq_dataH (reads_newData (N.isList ha) (StrsAre.carried hx)) (reads_newData (N.isList hb) (IntsAre.carried .nil)) (shaped_strs h3 hok) rfl hu (by rw [show (List.map PyData.int []) = [] from rfl, eqv_strs_nil h3]; exact h)
structure Boxed (P : Prop) : Prop where
  un : P
theorem by_key {P G : Prop} (both : Boxed P → G) (turn : P) : G := both ⟨turn⟩
/-- what a builder hands back, the tuple aside -/
def Ready (w : World) (l j : Addr) (n : Nat) (B : Int) (rest : List (Addr × Obj)) (x tl bl : Addr) (news' : List (Addr × Obj)) : Prop :=
  ∃ C dx a b t u es ne k tk tls kt bls kb L D hd more, news' = (j, jarObj l a b t u n) :: hd :: more ∧ 0 ≤ b ∧ b ≤ B ∧ (∀ p ∈ rest, p ∈ more) ∧ (∀ p ∈ hd :: more, p.1 ≠ j) ∧ (∀ p ∈ more, p.1 ≠ hd.1) ∧ (tl, listOf tls.toArray kt) ∈ more ∧ StrsAre tls L ∧ (bl, listOf bls.toArray kb) ∈ more ∧ StrsAre bls D ∧
    Chg w x C dx es ne k L D more hd ∧ C ∈ Cs ∧ (x, instObj C dx) ∈ more ∧ (dx, dictOf es ne) ∈ hd :: more ∧ getL (Str.ofString "kind") es = some (some (.str k tk)) ∧ L.any (fun x => x == Str.ofString "none") = false ∧ Okay L ∧ Okay D
theorem opened {w : World} {l j : Addr} {n : Nat} {B : Int} {rest news' : List (Addr × Obj)} {r : Value} (h : Made w l j n B rest news' r) : ∃ tp x tl bl r', r = .ref tp ∧ news' = (tp, tup3 x tl bl) :: r' ∧ Ready w l j n B rest x tl bl r' := by
  obtain ⟨tp, x, tl, bl, C, dx, a, b, t, u, es, ne, k, tk, tls, kt, bls, kb, L, D, hd, more, h1, h2, h3⟩ := h
  exact ⟨tp, x, tl, bl, _, h1, h2, C, dx, a, b, t, u, es, ne, k, tk, tls, kt, bls, kb, L, D, hd, more, rfl, h3⟩
theorem untup {h₀ h : Heap} {L : Addr} {p : Addr × Obj} {r : List (Addr × Obj)} (N : News h₀ L h (p :: r)) : News h₀ L h r := cb_drop N sub_cons
theorem name_heap {h₀ h : Heap} {L : Addr} {r : List (Addr × Obj)} (_ : News h₀ L h r) : ∃ h', h' = h := ⟨h, rfl⟩
local macro_rules | `(tactic| walk_at "execs cons Assign cons") => `(tactic| (k_here; (with_reducible refine wpAny_execs_cons ?_); (try dsimp only)))
theorem row_first {h₀ h : Heap} {L : Addr} {jr rw' a9 : Addr × Obj} {r : List (Addr × Obj)} (N : News h₀ L h (jr :: rw' :: a9 :: r)) : News h₀ L h ([rw', jr] ++ r) := cb_drop N fun p hp => by
  simp only [List.cons_append, List.nil_append, List.mem_cons] at hp ⊢
  rcases hp with h | h | h <;> simp [h]
theorem name_first {h₀ h : Heap} {L r : Addr} {o : Obj} {q : Addr × Obj} {rest : List (Addr × Obj)} (_ : News h₀ L h ([(r, o), q] ++ rest)) : ∃ r', r' = r := ⟨r, rfl⟩
/-- the class row so far -/
def RowSt (l j rl : Addr) (B : Int) (i : Nat) (st : List (Addr × Obj)) : Prop :=
  ∃ vs row c a b t u, st = [(rl, listOf (List.toArray vs) c), (j, jarObj l a b t u 0)] ∧ StrsAre vs row ∧ row.length = i ∧ (∀ q ∈ row, q ∈ four) ∧ 0 ≤ b ∧ b ≤ B + (i : Int)
theorem two_hat {a b : Addr} {o o' : Obj} {base : List (Addr × Obj)} : ∀ c ∈ [a, b], ∃ q, (c, q) ∈ [(a, o), (b, o')] ++ base := List.forall_mem_cons.mpr ⟨⟨_, .head _⟩, List.forall_mem_cons.mpr ⟨⟨_, .tail _ (.head _)⟩, List.forall_mem_nil _⟩⟩
theorem two_off {a b : Addr} {base : List (Addr × Obj)} (h1 : ∀ p ∈ base, @LT.lt Nat _ p.1 a) (h2 : ∀ p ∈ base, p.1 ≠ b) : ∀ c ∈ [a, b], ∀ q ∈ base, q.1 ≠ c := List.forall_mem_cons.mpr ⟨fun q hq => Nat.ne_of_lt (h1 q hq), List.forall_mem_cons.mpr ⟨h2, List.forall_mem_nil _⟩⟩
theorem RowSt.addrs {l j rl : Addr} {B : Int} {i : Nat} {st : List (Addr × Obj)} (h : RowSt l j rl B i st) : ∀ p ∈ st, p.1 ∈ [rl, j] := by
  obtain ⟨vs, row, c, a, b, t, u, rfl, _⟩ := h
  exact List.forall_mem_cons.mpr ⟨.head _, List.forall_mem_cons.mpr ⟨.tail _ (.head _), List.forall_mem_nil _⟩⟩
theorem row_end {h₀ h : Heap} {L j rl : Addr} {o : Obj} {f : Addr × Obj} {vs : List Value} {v : Value} {c : Nat} {r : List (Addr × Obj)} (N : News h₀ L h ((j, o) :: f :: (rl, listOf (vs.toArray.push v) c) :: r)) : News h₀ L h ([(rl, listOf (vs ++ [v]).toArray c), (j, o)] ++ r) := by
  have e : vs.toArray.push v = (vs ++ [v]).toArray := by simp
  rw [e] at N
  refine cb_drop N fun p hp => ?_
  simp only [List.cons_append, List.nil_append, List.mem_cons] at hp ⊢
  rcases hp with h | h | h <;> simp [h]
theorem grown_four {row : List Str} {q : Str} (h : ∀ q ∈ row, q ∈ four) (hq : q ∈ four) : ∀ x ∈ row ++ [q], x ∈ four := fun x hx => by
  rcases List.mem_append.mp hx with hx | hx
  · exact h x hx
  · rw [List.mem_singleton.mp hx]; exact hq
theorem okay_four {row : List Str} (hl : row.length ≤ 3) (h : ∀ q ∈ row, q ∈ four) : Okay row := ⟨by omega, List.all_eq_true.mpr fun q hq => by
  have hall : four.all PyData.strOk = true := by decide +kernel
  exact List.all_eq_true.mp hall q (h q hq)⟩
theorem four_no {row : List Str} {c : Str} (hc : four.any (fun x => x == c) = false) (h : ∀ q ∈ row, q ∈ four) : row.any (fun x => x == c) = false := by
  rw [List.any_eq_false] at hc ⊢
  exact fun q hq => hc q (h q hq)
theorem end_news {h₀ h : Heap} {L j : Addr} {o : Obj} {led big : List (Addr × Obj)} (N : News h₀ L h led) (hj : (j, o) ∈ led) (hs : ∀ p ∈ big, p ∈ led) : News h₀ L h ([(j, o)] ++ big) := cb_drop N (List.forall_mem_cons.mpr ⟨hj, hs⟩)
local macro_rules | `(tactic| walk_at "compareOp Eq ref ref") => `(tactic| (k_here; (with_reducible show wpAny _ _ (compareOp CmpOp.Eq (Value.ref _) (Value.ref _)) _ _ _); k_dflt (refine' eq_strs_nil ?N ?a ?b ?x ?l ?o ?u ?_; (case N => k_asm); (case a => k_mem); (case b => k_mem); (case x => assumption); (case l => exact Okay.len (by assumption)); (case o => exact Okay.ok (by assumption)); (case u => ke_room); (try dsimp only [List.isEmpty]))))
theorem vec_base {h₀ h : Heap} {L : Addr} {c cx il e rw' jr hdp : Addr × Obj} {more : List (Addr × Obj)} (N : News h₀ L h (c :: cx :: il :: e :: rw' :: jr :: hdp :: more)) : News h₀ L h (hdp :: c :: cx :: il :: rw' :: jr :: more) := cb_drop N fun p hp => by
  simp only [List.mem_cons] at hp ⊢
  rcases hp with h | h | h | h | h | h | h <;> simp [h]
theorem vec_base' {h₀ h : Heap} {L : Addr} {c cx il rw' jr hdp : Addr × Obj} {more : List (Addr × Obj)} (N : News h₀ L h (c :: cx :: il :: rw' :: jr :: hdp :: more)) : News h₀ L h (hdp :: c :: cx :: il :: rw' :: jr :: more) := cb_drop N fun p hp => by
  simp only [List.mem_cons] at hp ⊢
  rcases hp with h | h | h | h | h | h | h <;> simp [h]
theorem vec_off {c cdx il rl j : Addr} {o1 o2 o3 o4 o5 : Obj} {hdp : Addr × Obj} {more : List (Addr × Obj)} (h1 : @LT.lt Nat _ hdp.1 il) (h2 : @LT.lt Nat _ il cdx) (h3 : @LT.lt Nat _ cdx c) (h4 : @LT.lt Nat _ hdp.1 rl) (h5 : hdp.1 ≠ j) (h6 : ∀ p ∈ more, p.1 ≠ hdp.1) : ∀ p ∈ (c, o1) :: (cdx, o2) :: (il, o3) :: (rl, o4) :: (j, o5) :: more, p.1 ≠ hdp.1 :=
  List.forall_mem_cons.mpr ⟨Nat.ne_of_gt (Nat.lt_trans h1 (Nat.lt_trans h2 h3)), List.forall_mem_cons.mpr ⟨Nat.ne_of_gt (Nat.lt_trans h1 h2), List.forall_mem_cons.mpr ⟨Nat.ne_of_gt h1, List.forall_mem_cons.mpr ⟨Nat.ne_of_gt h4, List.forall_mem_cons.mpr ⟨h5.symm, h6⟩⟩⟩⟩⟩
theorem sub5 {a b c d e : Addr × Obj} {l : List (Addr × Obj)} : ∀ p ∈ l, p ∈ a :: b :: c :: d :: e :: l := fun _ h => .tail _ (.tail _ (.tail _ (.tail _ (.tail _ h))))
theorem sub3 {a b c : Addr × Obj} {l : List (Addr × Obj)} : ∀ p ∈ l, p ∈ a :: b :: c :: l := fun _ h => .tail _ (.tail _ (.tail _ h))
theorem in_app {S b : List (Addr × Obj)} : ∀ p ∈ b, p ∈ S ++ b := fun _ h => List.mem_append.mpr (.inr h)
theorem jar_head {S more led : List (Addr × Obj)} {a b c d jr : Addr × Obj} {h₀ h : Heap} {L : Addr} (N : News h₀ L h led) (hs : ∀ p ∈ S ++ (a :: b :: c :: d :: jr :: more), p ∈ led) : News h₀ L h (jr :: (S ++ more)) := cb_drop N fun p hp => by
  apply hs
  simp only [List.mem_cons, List.mem_append] at hp ⊢
  rcases hp with h | h | h <;> simp [h]
theorem jar_far {S more : List (Addr × Obj)} {a b c d : Addr × Obj} {j : Addr} {o : Obj} {hdp : Addr × Obj} (hfar : ∀ p ∈ S, ∀ q ∈ a :: b :: c :: d :: (j, o) :: more, p.1 ≠ q.1) (hoj : ∀ p ∈ hdp :: more, p.1 ≠ j) : ∀ p ∈ S ++ more, p.1 ≠ j := fun p hp => by
  rcases List.mem_append.mp hp with h | h
  · exact hfar p h (j, o) (.tail _ (.tail _ (.tail _ (.tail _ (.head _)))))
  · exact hoj p (.tail _ h)
theorem null_base {h₀ h : Heap} {L : Addr} {c cx jr : Addr × Obj} {S more : List (Addr × Obj)} (N : News h₀ L h (c :: cx :: jr :: (S ++ more))) : News h₀ L h (S ++ (c :: cx :: jr :: more)) := cb_drop N fun p hp => by
  simp only [List.mem_cons, List.mem_append] at hp ⊢
  rcases hp with h | h | h | h | h <;> simp [h]
theorem null_far {S more : List (Addr × Obj)} {c cx j : Addr} {o1 o2 o3 : Obj} (hs : ∀ p ∈ S ++ more, p.1 ≠ j) (hall : AllLt cx (S ++ more)) (hc : @LT.lt Nat _ cx c) (hfar : ∀ p ∈ S, ∀ q ∈ more, p.1 ≠ q.1) : ∀ p ∈ S, ∀ q ∈ (c, o1) :: (cx, o2) :: (j, o3) :: more, p.1 ≠ q.1 := fun p hp => by
  have h1 : @LT.lt Nat _ p.1 cx := ktn_ltOf hall p (List.mem_append.mpr (.inl hp))
  exact List.forall_mem_cons.mpr ⟨Nat.ne_of_lt (Nat.lt_trans h1 hc), List.forall_mem_cons.mpr ⟨Nat.ne_of_lt h1, List.forall_mem_cons.mpr ⟨hs p (List.mem_append.mpr (.inl hp)), hfar p hp⟩⟩⟩
theorem keep_worn {w : World} {x C dx : Addr} {k : Str} {LL DD row : List Str} {h₀ h : Heap} {L : Addr} {S more : List (Addr × Obj)} {a b c d e q : Addr × Obj} (N : News h₀ L h (S ++ (a :: b :: c :: d :: e :: more))) (W : Worn w x C dx k LL DD row more S) (hrow : 0 < row.length) (hrow3 : row.length ≤ 3) (hq : q ∈ more) : ∃ led, led = S ++ (a :: b :: c :: d :: e :: more) ∧ News h₀ L h led ∧ d ∈ led ∧ q ∈ led ∧ Live w x row row DD led :=
  ⟨_, rfl, N, in_app _ (.tail _ (.tail _ (.tail _ (.head _)))), in_app _ (sub5 _ hq), W.live sub5 hrow hrow3⟩
theorem jar_led {h₀ h : Heap} {L : Addr} {S more led2 : List (Addr × Obj)} {a b c d hdp : Addr × Obj} {j l : Addr} {o ol : Obj} (N : News h₀ L h led2) (hfar : ∀ p ∈ S, ∀ q ∈ a :: b :: c :: d :: (j, o) :: more, p.1 ≠ q.1) (hs : ∀ p ∈ S ++ (a :: b :: c :: d :: (j, o) :: more), p ∈ led2) (hoj : ∀ p ∈ hdp :: more, p.1 ≠ j) (hl : (l, ol) ∈ more) : ∃ led, led = S ++ more ∧ News h₀ L h ((j, o) :: led) ∧ (∀ p ∈ led, p.1 ≠ j) ∧ (l, ol) ∈ led :=
  ⟨_, rfl, jar_head N hs, jar_far hfar hoj, in_app _ hl⟩
theorem end_sub {h₀ h : Heap} {L j : Addr} {o : Obj} {led news9 big : List (Addr × Obj)} (N : News h₀ L h led) (hled : ∀ p ∈ news9, p ∈ led) (mj : (j, o) ∈ news9) (hb : ∀ p ∈ big, p ∈ news9) : News h₀ L h ([(j, o)] ++ big) := end_news N (hled _ mj) fun p hp => hled p (hb p hp)
local macro_rules | `(tactic| k_in) => `(tactic| exact Frag.In.keeps (by k_asm) (Fr.keep (by k_asm)))

theorem freshs : True := by
  w_top off
  trivial
set_option maxHeartbeats 2000000 in
theorem main : PySem.Challenge.rw_ov0076_01.Holds := hd (by
  k_go0
  (all_goals try k_fold)
  (all_goals show wpAny (model PySem.Challenge.pw_ov0076_01 _) _ _ _ _ _)
  k_steps
  k_dflt (refine' Ct.use (agrees_live (L := [Str.ofString "numeric"]) (D := [Str.ofString "double", Str.ofString "numeric"]) (I := [] ++ [Str.ofString "double"] ++ [Str.ofString "numeric"]) (live_vec (k := Str.ofString "double") (by decide) ?b1 ?b2 ?b3 ?b4 ?b5 .dbl) ?a2 ?a3 ?a4 ?a5 ?a6 ?a7 ?a8) ?k1 ?k2 ?k3 ?k4 ?k5 ?k6 ?k7 ?k8 ?_; (case k1 => k_asm); (case k2 => k_asm); (case k3 => k_asm); (case k4 => k_asm); (case k5 => k_asm); (case k6 => first | exact rfl | assumption); (case k7 => ktr_room); (case k8 => ktr_units); (case b1 => k_mem); (case b2 => k_mem); (case b3 => exact rfl); (case b4 => exact rfl); (case b5 => exact Nat.le_of_ble_eq_true rfl); (case a2 => k_mem); (case a4 => k_mem); (case a3 => exact .cons _ _ .nil); (case a5 => exact .cons _ _ (.cons _ _ .nil)); (case a6 => decide); (case a7 => exact ⟨by decide, by decide +kernel⟩); (case a8 => exact ⟨by decide, by decide +kernel⟩))
  rintro r9 news9 h9 tk9 F9 N9 ⟨rfl, rfl⟩
  (try k_fold)
  have N8 := cut_law N9
  obtain ⟨j, l, ws, hj9, hl9, hw9⟩ := name_jar N8
  subst hj9 hl9 hw9
  clear N9
  rename IntsAre ws _ => hI
  k_steps
  refine' range_st (st₀ := [(j, _)]) (base := [(l, listOf ws.toArray 0)]) (fun i m st => ∃ a b t u, st = [(j, jarObj l a b t u 0)] ∧ 0 ≤ b ∧ b ≤ 10 + 40 * (i : Int) ∧ m (Str.ofString "jar") = some (.ref j)) [j] ?hh ?hr ?hsm ?hn ?F ?N ?h0 ?hJ ?hat ?hoff ?turn ?done
  case hh => exact rfl
  case hr => assumption
  case hsm => exact small_one (by omega) (by omega) (by omega) (by omega)
  case hn => exact rangeSize_nat _ _
  case F => k_asm
  case N => k_asm
  case h0 => exact ⟨_, _, _, _, rfl, by omega, by omega, rfl⟩
  case hJ => rintro i m st ⟨_, _, _, _, rfl, _⟩ p hp; rw [List.mem_singleton.mp hp]; exact .head _
  case hat => intro a ha; rw [List.mem_singleton.mp ha]; exact ⟨_, .head _⟩
  case hoff => intro a ha; rw [List.mem_singleton.mp ha]; exact List.forall_mem_cons.mpr ⟨by k_ne, List.forall_mem_nil _⟩
  case turn =>
    rintro i t h tk m st big hi' ⟨a, b, t1, u1, rfl, hb0, hb1, hm⟩ hbig hdis F' N'
    obtain ⟨m', rfl⟩ := jar_fun hm
    have hl' := hbig _ (.head _)
    have hj : ∀ q ∈ big, q.1 ≠ j := hdis j (.head _)
    have hbb : b < 800000 := by omega
    clear hbig hdis hm
    simp only [List.cons_append, List.nil_append] at N'
    repeat' ((fail_if_success (with_reducible show ite _ _ _)); (first | (k_unfold; (try dsimp only)) | (k_end; wrow_close) | walk1 | (dsimp only; walk1) | (leave1; walk_say "STEP leave1"; try dsimp only)))
    rename _ ≤ b + 1 => hbz
    rename News _ _ _ ((j, _) :: big) => Nz
    refine' by_key ?both ?turn
    case both =>
      intro key
      k_steps
      · k_dflt (refine' Ct.use (vector_ct _ l j ws _ _ _ _ _ _ _ big hl' hI ?c1 ?c2 ?c3 ?c4 hj) ?k1 ?k2 ?k3 ?k4 ?k5 ?k6 ?k7 ?k8 ?_; (case k1 => k_asm); (case k2 => k_asm); (case k3 => k_asm); (case k4 => k_asm); (case k5 => k_asm); (case k6 => first | exact rfl | assumption); (case k7 => ktr_room); (case k8 => ktr_units); (case c1 => assumption); (case c2 => assumption); (case c3 => assumption); (case c4 => omega))
        rintro r9 news9 h9 tk9 F9 N9 hm9
        obtain ⟨tp, x, tl, bl, r', rfl, rfl, hr9⟩ := opened hm9
        clear hm9
        repeat' ((fail_if_success (with_reducible show wpAny _ _ (execs (Stmt.If _ _ _ _ :: _) _) _ _ _)); (first | (k_unfold; (try dsimp only)) | (k_end; wrow_close) | walk1 | (dsimp only; walk1) | (leave1; walk_say "STEP leave1"; try dsimp only)))
        dsimp only
        rename Fr _ _ _ _ => F8
        rename News _ _ _ _ => N8
        replace N8 := untup N8
        obtain ⟨hz, ez⟩ := name_heap N8
        subst ez
        revert x tl bl r' hz tk
        exact key.un
      · k_dflt (refine' Ct.use (other_ct hl' hI ?c1 ?c2 ?c3 ?c4 hj) ?k1 ?k2 ?k3 ?k4 ?k5 ?k6 ?k7 ?k8 ?_; (case k1 => k_asm); (case k2 => k_asm); (case k3 => k_asm); (case k4 => k_asm); (case k5 => k_asm); (case k6 => first | exact rfl | assumption); (case k7 => ktr_room); (case k8 => ktr_units); (case c1 => assumption); (case c2 => assumption); (case c3 => assumption); (case c4 => omega))
        rintro r9 news9 h9 tk9 F9 N9 hm9
        obtain ⟨tp, x, tl, bl, r', rfl, rfl, hr9⟩ := opened hm9
        clear hm9
        repeat' ((fail_if_success (with_reducible show wpAny _ _ (execs (Stmt.If _ _ _ _ :: _) _) _ _ _)); (first | (k_unfold; (try dsimp only)) | (k_end; wrow_close) | walk1 | (dsimp only; walk1) | (leave1; walk_say "STEP leave1"; try dsimp only)))
        dsimp only
        rename Fr _ _ _ _ => F8
        rename News _ _ _ _ => N8
        replace N8 := untup N8
        obtain ⟨hz, ez⟩ := name_heap N8
        subst ez
        revert x tl bl r' hz tk
        exact key.un
    case turn =>
      intros
      rename Ready _ _ _ _ _ _ _ _ _ _ => hr9
      rename Fr _ _ _ _ => F9
      rename News _ _ _ _ => N9
      clear Nz
      obtain ⟨C, dx, a2, b2, t2, u2, es, ne, k, tkk, tls, kt, bls, kb, LL, DD, hdp, more, rfl, hb20, hb21, hsub, hoj, hoh, htl, htls, hbl, hbls, hchg, hC, hxx, hdx, hkk, hno, okL, okD⟩ := hr9
      have hlive := hchg.live
      have hl2 := hsub _ hl'
      have hb2 : b2 ≤ 10 + 40 * (i : Int) + 11 := by omega
      clear hb21 hbz hl'
      repeat (rename _ < _ ∧ _ => hx9; clear hx9)
      k_steps
      k_dflt (refine' Ct.use (agrees_live (hlive.mono ?a1) ?a2 htls ?a4 hbls hno okL okD) ?k1 ?k2 ?k3 ?k4 ?k5 ?k6 ?k7 ?k8 ?_; (case k1 => k_asm); (case k2 => k_asm); (case k3 => k_asm); (case k4 => k_asm); (case k5 => k_asm); (case k6 => first | exact rfl | assumption); (case k7 => ktr_room); (case k8 => ktr_units); (case a1 => exact fun p hp => by repeat (first | assumption | apply List.mem_cons_of_mem)); (case a2 => k_mem); (case a4 => k_mem))
      rintro r9 news9 h9 tk9 F9 N9 ⟨rfl, rfl⟩
      (try k_fold)
      k_steps
      rename News _ _ _ _ => N8
      rename _ ∧ _ ∧ _ < _ ∧ AllLt _ more => hlr
      have N7 := row_first N8
      obtain ⟨rl, er⟩ := name_first N7
      subst er
      have hrl := ktn_ltOf (l := hdp :: more) hlr.2.2
      have hjr := hlr.2.1
      clear N8
      refine' range_st1 (st₀ := [(rl, _), (j, _)]) (base := hdp :: more) (RowSt l j rl (22 + 40 * (i : Int))) [rl, j] ?ihh ?ihr ?ihsm ?ihn ?iF ?iN ?ih0 ?ihJ ?ihat ?ihoff ?iturn ?idone
      case ihh => exact rfl
      case ihr => assumption
      case ihsm => exact small_one (by omega) (by omega) (by omega) (by omega)
      case ihn => exact rangeSize_nat _ _
      case iF => k_asm
      case iN => exact N7
      case ih0 => exact ⟨[], [], _, _, _, _, _, rfl, .nil, rfl, fun _ h => absurd h List.not_mem_nil, by assumption, by omega⟩
      case ihJ => exact fun i st h => h.addrs
      case ihat => exact two_hat
      case ihoff => exact two_off hrl hoj
      case iturn =>
        rintro i9 t9 h9 tk9 st9 big9 hi9 ⟨vs, row, c, a3, b3, t3, u3, rfl, hvs, hlen, hfour, hb30, hb31⟩ hbig hdis F' N'
        have hl3 := hbig _ (.tail _ hl2)
        have hrb : ∀ q ∈ big9, q.1 ≠ rl := hdis rl (.head _)
        have hjb : ∀ q ∈ big9, q.1 ≠ j := hdis j (.tail _ (.head _))
        have hvl := hvs.length
        have hi4 : i9 ≤ 2 := by omega
        have hb33 : b3 < 900000 := by omega
        clear hbig hdis N7
        simp only [List.cons_append, List.nil_append] at N'
        k_steps
        rename News _ _ _ ((j, _) :: _) => N8
        have N6 := row_end N8
        exact StEnd.intro [_, _] (by k_asm) N6 ⟨fun z hz => if_neg hz, _, row ++ [_], _, _, _, _, _, rfl, hvs.append' (.cons _ _ .nil), (by rw [List.length_append, hlen]; exact rfl), grown_four hfour (by assumption), by assumption, by omega⟩
      case idone =>
        rintro o h9 tk9 st9 ⟨vs, row, c, a3, b3, t3, u3, rfl, hvs, hlen, hfour, hb30, hb31⟩ F' N'
        have hr3 : row.length ≤ 3 := by omega
        have okR := okay_four hr3 hfour
        have hvl := hvs.length
        have hb32 : b3 ≤ 10 + 40 * (i : Int) + 15 := by omega
        clear N7 hb31 hlr
        simp only [List.cons_append, List.nil_append] at N'
        cases row with
        | nil =>
          k_steps
          rename News _ _ _ _ => N8
          rename Fr _ _ _ _ => F8
          have N7 := end_news (j := j) (o := jarObj l a3 b3 t3 u3 0) (big := big) N8 (by k_mem) (fun p hp => by repeat (first | exact hsub p hp | apply List.mem_cons_of_mem))
          have hq : b3 ≤ 10 + 40 * ((i + 1 : Nat) : Int) := by omega
          clear N8
          exact StEnd.intro [_] F8 N7 ⟨_, _, _, _, rfl, hb30, hq, rfl⟩
        | cons q0 row =>
          have hdl : @LT.lt Nat _ hdp.1 rl := hrl _ (.head _)
          have hdj : @Ne Nat hdp.1 j := hoj _ (.head _)
          k_steps
          · rename News _ _ _ _ => N8
            rename Fr _ _ _ _ => F8
            have N7 := end_news (j := j) (o := jarObj l a3 b3 t3 u3 0) (big := big) N8 (by k_mem) (fun p hp => by repeat (first | exact hsub p hp | apply List.mem_cons_of_mem))
            have hq : b3 ≤ 10 + 40 * ((i + 1 : Nat) : Int) := by omega
            clear N8
            exact StEnd.intro [_] F8 N7 ⟨_, _, _, _, rfl, hb30, hq, rfl⟩
          rename News _ _ _ ((_, instObj 196 _) :: _) => N8
          rename _ < _ ∧ _ < _ ∧ _ < _ ∧ _ < _ ∧ AllLt _ more => hli
          rename _ < _ ∧ _ < _ => hlc
          have N7 := vec_base N8
          clear N8
          k_dflt (refine' Ct.use (set_chg hchg ?b1 ?b2 ?b3 ?b4 ?b5 ?b6 ?b7 ?b8 hvs ?b9 hr3 ?b10) ?k1 ?k2 ?k3 ?k4 ?k5 ?k6 ?k7 ?k8 ?_; (case k1 => k_asm); (case k2 => k_asm); (case k3 => k_asm); (case k4 => exact N7); (case k5 => k_asm); (case k6 => first | exact rfl | assumption); (case k7 => ktr_room); (case k8 => ktr_units); (case b1 => assumption); (case b2 => exact sub5); (case b3 => exact vec_off hli.2.2.2.1 hlc.1 hlc.2 hdl hdj hoh); (case b4 => k_mem); (case b5 => k_mem); (case b6 => assumption); (case b7 => assumption); (case b8 => k_mem); (case b9 => exact Nat.succ_pos _); (case b10 => exact four_no (by decide) hfour))
          rintro r9 news9 h9 tk9 F9 N9 ⟨rfl, S, rfl, hworn, hfar⟩
          (try k_fold)
          have hpos : 0 < (q0 :: row).length := Nat.succ_pos _
          obtain ⟨led, hled, N8, m1, m2, hlw'⟩ := keep_worn N9 hworn hpos hr3 hbl
          clear N9 N7 hlive
          k_steps
          k_dflt (refine' Ct.use (agrees_live (hlw'.mono ?a1) ?a2 hvs ?a4 hvs (four_no (by decide) hfour) okR okR) ?k1 ?k2 ?k3 ?k4 ?k5 ?k6 ?k7 ?k8 ?_; (case k1 => k_asm); (case k2 => k_asm); (case k3 => k_asm); (case k4 => k_asm); (case k5 => k_asm); (case k6 => first | exact rfl | assumption); (case k7 => ktr_room); (case k8 => ktr_units); (case a1 => exact fun p hp => by repeat (first | assumption | apply List.mem_cons_of_mem)); (case a2 => k_mem); (case a4 => k_mem))
          rintro r9 news9 h9 tk9 F9 N9 ⟨rfl, rfl⟩
          (try k_fold)
          rename News _ _ _ _ => N8
          subst hled
          obtain ⟨led2, hled2, N7, hjs, hl4⟩ := jar_led N8 hfar (fun p hp => by repeat (first | exact hp | apply List.mem_cons_of_mem)) hoj hl2
          clear N8 hlw' m1 m2
          have hb34 : b3 < 900000 := by omega
          k_steps
          · rename News _ _ _ ((_, instObj 167 _) :: _) => N8
            rename _ < _ ∧ AllLt _ led2 => hal
            rename _ < _ => hcc
            subst hled2
            have N7 := null_base N8
            clear N8
            k_dflt (refine' Ct.use (drop_worn hworn ?b1 ?b6 ?b5 ?b2 ?b3 ?b4) ?k1 ?k2 ?k3 ?k4 ?k5 ?k6 ?k7 ?k8 ?_; (case k1 => k_asm); (case k2 => k_asm); (case k3 => k_asm); (case k4 => exact N7); (case k5 => k_asm); (case k6 => first | exact rfl | assumption); (case k7 => ktr_room); (case k8 => ktr_units); (case b1 => assumption); (case b6 => exact sub3); (case b5 => exact null_far hjs hal.2 hcc fun p hp q hq => hfar p hp q (sub5 q hq)); (case b2 => k_mem); (case b3 => k_mem); (case b4 => assumption))
            rintro r9 news9 h9 tk9 F9 N9 ⟨rfl, hsub9, hlv9⟩
            (try k_fold)
            have m3 := hsub9 _ (sub3 _ htl)
            have m4 := hsub9 _ (sub3 _ hbl)
            have mj := hsub9 _ (.tail _ (.tail _ (.head _)))
            have hbig9 : ∀ p ∈ big, p ∈ news9 := fun p hp => hsub9 _ (sub3 _ (hsub p hp))
            clear N7 hsub9 hjs hl4 hfar hworn
            k_steps
            k_dflt (refine' Ct.use (agrees_live (hlv9.mono ?a1) ?a2 htls ?a4 hbls hno okL okD) ?k1 ?k2 ?k3 ?k4 ?k5 ?k6 ?k7 ?k8 ?_; (case k1 => k_asm); (case k2 => k_asm); (case k3 => k_asm); (case k4 => k_asm); (case k5 => k_asm); (case k6 => first | exact rfl | assumption); (case k7 => ktr_room); (case k8 => ktr_units); (case a1 => exact fun p hp => by repeat (first | assumption | apply List.mem_cons_of_mem)); (case a2 => k_mem); (case a4 => k_mem))
            rintro r9 news8 h9 tk9 F9 N9 ⟨rfl, rfl⟩
            (try k_fold)
            k_steps
            rename News _ _ _ _ => N8
            rename Fr _ _ _ _ => F8
            have N7 := end_sub N8 (fun p hp => by repeat (first | exact hp | apply List.mem_cons_of_mem)) mj hbig9
            clear N8
            exact StEnd.intro [_] F8 N7 ⟨_, _, _, _, rfl, by assumption, by omega, rfl⟩
          · rename News _ _ _ ((j, _) :: _) => N8
            rename Fr _ _ _ _ => F8
            subst hled2
            have N7 := end_news (big := big) N8 (.head _) (fun p hp => .tail _ (in_app _ (hsub p hp)))
            clear N8
            exact StEnd.intro [_] F8 N7 ⟨_, _, _, _, rfl, by assumption, by omega, rfl⟩
  case done =>
    rintro m h tk st ⟨a, b, t1, u1, rfl, hb0, hb1, hm⟩ F' N'
    k_steps)

end Mine
theorem PySem.Challenge.cw_ov0076_01_holds : PySem.Challenge.rw_ov0076_01.Holds :=
  Mine.main
