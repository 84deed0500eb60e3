import PyProof.Rows.All
import Wide.All
import OpenK.AllK
import Wide.FinOn
import PySem.Challenge.RW_xm0932_01
open PySem PySem.W PyProof.Rows PySem.Calls
set_option Elab.async false
namespace Mine
/-- the program, its three stores of its own name left out -/
def seenProg : Program := { PySem.Challenge.pw_xm0932_01 with main := { PySem.Challenge.pw_xm0932_01.main with body := ((PySem.Challenge.pw_xm0932_01.main.body.eraseIdx 24).eraseIdx 14).eraseIdx 0 } }
local macro_rules | `(tactic| o_head $H) => `(tactic| (
  refine PySem.W.holds_open (q := seenProg) (loose := [PySem.Str.ofString "SnobolError"]) (Xt := fun s => xlAt seenProg [] s && recOk (RowW.records PySem.Challenge.rw_xm0932_01.row.toRowW) s) (XP := XL seenProg []) (Yf := Hook.obs $H) (Ya := Hook.val $H) (YP := Hook.says $H) (N := 5008) ?hl (Hook.of $H) (Hook.keeps $H) (fun s e => xl_of s (Bool.and_eq_true_iff.mp e).1) XL.keeps (by rfl) (by rfl) (by rfl) (fun s e => recFacts_of (Bool.and_eq_true_iff.mp e).2) (by rfl) (by first | assumption | decide +kernel) (by decide +kernel) ⟨rfl, rfl, rfl, rfl, rfl, by decide +kernel⟩ ?hw ?hc
  case hl => intro w; kernel_rfl))
set_option maxRecDepth 100000 in
set_option maxHeartbeats 8000000 in
open_top hd for PySem.Challenge.rw_xm0932_01
end Mine
namespace Mine

/-- what a call with a core ledger hands back beside it -/
def Rest (h₀ : Heap) (L : Addr) (core rest : List (Addr × Obj)) (s : Shared) : Prop :=
  ∀ p ∈ rest, p.1 ∉ core.map (·.1) → s.heap.get? p.1 = some p.2 ∧ p.1 ≠ L ∧ h₀.get? p.1 = none

section
variable {prog : Program} {w : World} {A A₀ : Around} {s : Shared} {K : Frag} {L : Addr} {h₀ base : Heap} {m mg mb : Str → Option Value} {core rest : List (Addr × Obj)} {p : Program} {loose : List Str} {mean : ExcName → Option Value}

/-- a def's call: its body is walked over a core of the ledger, the rest is kept in the base -/
theorem code_frame {env : Env} {outer : List Env} {R : Result → Shared → Prop} {name qual : Str} {params : Arguments} {body : List Stmt} {scope : Scope} {dV kV doc pm cdv ct oc : Value} {an od : Option Addr} {osl : Array (Option Value)} {f : Addr} {args : Args} {binds : List (Str × Value)}
    (B : Below A₀ base outer h₀) (F : Fr h₀ L s.heap m) (X₀ : K.In h₀) (N : News h₀ L s.heap core) (NR : News h₀ L s.heap rest) (T : Top p loose mean mg mb h₀)
    (hA : A.frames = some (env :: outer)) (hf : env.frame = some L) (hke : env.scope.kind = .function)
    (ho : K.lookup f = some ⟨oc, od, .func (fnOf name qual params body scope dV kV doc pm an cdv ct), osl⟩) (hcd : codeIn K cdv qual = true) (hroom : A.depth < recursionLimit)
    (hbind : BindsTo s (fnOf name qual params body scope dV kV doc pm an cdv ct) args binds) (hloc : ∀ y ∈ binds, scope.names.lookup y.1 = some .local)
    (h : ∀ g L' h₁, Fr h₀ L g m → Fr g L' h₁ (fun y => binds.reverse.lookup y) → News g L' h₁ core → Below A base (env :: outer) g → K.In g → Top p loose mean mg mb g →
      wpAny (model prog w) (A.deeper (envOf qual scope L' f cdv)) (execs body (envOf qual scope L' f cdv))
        (fun fl s' => LeaveK h₀ L m g (fun r s'' => Rest h₀ L core rest s'' → R r s'') (match fl with | .ret v => v | _ => .none) s')
        (fun e s' => wpAny (model prog w) (A.deeper (envOf qual scope L' f cdv)) (leaving (envOf qual scope L' f cdv) e) (fun _ s'' => R (.error e) s'') (fun e' s'' => R (.error e') s'') s')
        { s with heap := h₁, toks := s.toks + binds.length })
    (hco : scope.isCoroutine = false) (hgen : scope.isGenerator = false) (hk : scope.kind = .function)
    (hcell : ∀ x ∈ scope.names, x.2 ≠ .cell) : codeAny (model prog w) A (.call (.ref f) args) R s := by
  obtain ⟨FG, BG, st, lv⟩ := groundX (R := R) B F N hA hf hke
  have there : ∀ q ∈ rest, q.1 ∉ core.map (·.1) → (hideAll s.heap (core.map (·.1))).get? q.1 = some q.2 := fun q hq hn => hideAll_get _ (NR q hq).1 hn
  refine codeAny_call_def (fd := fnOf name qual params body scope dV kV doc pm an cdv ct) (body := body) (binds := binds) hroom ((X₀.keeps F.keep) _ _ ho) rfl (T.nolimit.keeps F.keep)
    (codeRec_of (X₀.keeps F.keep) hcd) rfl hbind hcell hloc (fun h₁ hns hk₁ => ?_) hco hgen hk
  have F₁ : Fr (hideAll s.heap (core.map (·.1))) s.heap.objs.size h₁ (fun y => binds.reverse.lookup y) :=
    ⟨hns, fun b o e => hk₁ b o (of_hideAll _ e), Nat.le_of_eq (hideAll_size _ _)⟩
  have N₁ : News (hideAll s.heap (core.map (·.1))) s.heap.objs.size h₁ core := fun q hq =>
    ⟨hk₁ _ _ (N q hq).1, Nat.ne_of_lt (Heap.lt_size (N q hq).1), hideAll_none _ (List.mem_map_of_mem hq)⟩
  refine wpAny_mono (h _ _ h₁ FG F₁ N₁ BG (X₀.keeps st) (T.keeps st)) (fun fl s' hl => ?_) fun _ _ y => y
  obtain ⟨L', m', news', F', N', k⟩ := hl
  exact lv _ _ ⟨L', m', news', F', N', fun a b => k a b fun q hq hn => ⟨F'.keep _ _ (there q hq hn), (NR q hq).2⟩⟩
end
end Mine
namespace Mine
abbrev tup2 (r : Int) (t : Tok) (c : Int) (u : Tok) (n : Nat) : Obj := { cls := .type "tuple", data := .seq [Value.int r t, Value.int c u].toArray n }

/-- a pile: where its parts lie, its bounds -/
structure Pile where
  it : Addr
  pd : Addr
  pi : Addr
  bl : Addr
  b0 : Addr
  b1 : Addr
  lo0 : Int
  hi0 : Int
  lo1 : Int
  hi1 : Int
  h1 : Int
  h2 : Int
  h3 : Int
  h4 : Int
  h5 : Int
  h6 : Int
  k1 : Tok
  k2 : Tok
  k3 : Tok
  k4 : Tok
  k5 : Tok
  k6 : Tok
  v1 : Value
  v2 : Value
  v3 : Value
  v4 : Value
  t0 : Tok
  t1 : Tok
  t2 : Tok
  t3 : Tok
  nd : Nat
  nb : Nat
  n0 : Nat
  n1 : Nat

abbrev Pile.dict (P : Pile) : Obj := dictOf [⟨P.h1, .str (Str.ofString "word") P.k1, P.v1⟩, ⟨P.h2, .str (Str.ofString "number") P.k2, P.v2⟩, ⟨P.h3, .str (Str.ofString "mark") P.k3, P.v3⟩, ⟨P.h4, .str (Str.ofString "told") P.k4, P.v4⟩, ⟨P.h5, .str (Str.ofString "bounds") P.k5, .ref P.bl⟩, ⟨P.h6, .str (Str.ofString "items") P.k6, .ref P.it⟩] P.nd
/-- the pile's own objects but its items -/
abbrev Pile.led (P : Pile) : List (Addr × Obj) :=
  [(P.pi, instObj 208 P.pd), (P.pd, P.dict), (P.bl, listOf [Value.ref P.b0, Value.ref P.b1].toArray P.nb), (P.b0, tup2 P.lo0 P.t0 P.hi0 P.t1 P.n0), (P.b1, tup2 P.lo1 P.t2 P.hi1 P.t3 P.n1)]
/-- an item's place in the row of all -/
def Pile.at (P : Pile) (r c : Int) : Option Nat :=
  if P.lo0 ≤ r ∧ r ≤ P.hi0 ∧ P.lo1 ≤ c ∧ c ≤ P.hi1 then some ((r - P.lo0) * (P.hi1 - P.lo1 + 1) + (c - P.lo1)).toNat else none
structure Pile.Fit (P : Pile) : Prop where
  a : -100 ≤ P.lo0
  b : P.hi0 ≤ 100
  c : -100 ≤ P.lo1
  d : P.hi1 ≤ 100
/-- what array_place gives -/
def PlaceV (P : Pile) (r c : Int) (v : Value) : Prop := match P.at r c with
  | none => v = .none
  | some k => ∃ t, v = .int (k : Int) t
theorem place_out {P : Pile} {r c : Int} (h : ¬ (P.lo0 ≤ r ∧ r ≤ P.hi0 ∧ P.lo1 ≤ c ∧ c ≤ P.hi1)) : PlaceV P r c .none := by
  unfold PlaceV Pile.at
  rw [if_neg h]
theorem place_at {P : Pile} {r c x : Int} {t : Tok} (h1 : P.lo0 ≤ r) (h2 : r ≤ P.hi0) (h3 : P.lo1 ≤ c) (h4 : c ≤ P.hi1) (hx : x = (r - P.lo0) * (P.hi1 - P.lo1 + 1) + (c - P.lo1)) : PlaceV P r c (.int x t) := by
  unfold PlaceV Pile.at
  rw [if_pos ⟨h1, h2, h3, h4⟩]
  have h5 : 0 ≤ (r - P.lo0) * (P.hi1 - P.lo1 + 1) := Int.mul_nonneg (by omega) (by omega)
  refine ⟨t, ?_⟩
  rw [Int.toNat_of_nonneg (by omega), hx]
theorem rest_news {h₀ : Heap} {L : Addr} {core news : List (Addr × Obj)} {s : Shared} {h' : Heap} (hc : News h₀ L h' core) (hs : ∀ p ∈ core, p ∈ news) (hn : ∀ p ∈ news, ∀ q ∈ core, p.1 = q.1 → p = q) (hh : s.heap = h') (R : Rest h₀ L core news s) : News h₀ L h' news := by
  subst hh
  intro p hp
  by_cases h : p.1 ∈ core.map (·.1)
  · obtain ⟨q, hq, e⟩ := List.mem_map.mp h
    rw [hn p hp q hq e.symm]
    exact hc q hq
  · exact R p hp h
/-- two entries of a ledger at one address are one -/
theorem news_one {h₀ h : Heap} {L : Addr} {news : List (Addr × Obj)} (N : News h₀ L h news) {p q : Addr × Obj} (hp : p ∈ news) (hq : q ∈ news) (e : p.1 = q.1) : p = q := by
  have h1 := (N p hp).1
  have h2 := (N q hq).1
  rw [e, h2] at h1
  exact Prod.ext e (Option.some.inj h1).symm
theorem news_sub {h₀ h : Heap} {L : Addr} {core news : List (Addr × Obj)} (N : News h₀ L h news) (hs : ∀ p ∈ core, p ∈ news) : News h₀ L h core := fun p hp => N p (hs p hp)
theorem ints_two {vs : List Value} {a b : Int} (h : IntsAre vs [a, b]) : ∃ t u, vs = [.int a t, .int b u] := by
  cases h with
  | cons _ t h => cases h with
    | cons _ u h => cases h; exact ⟨_, _, rfl⟩
end Mine
namespace Mine
theorem updF_ne {d : Addr} {o : Obj} {news : List (Addr × Obj)} {g : Obj → List (Addr × Obj)} (U : UpdF d o news g) {q : Addr × Obj} (hq : q ∈ news) (hn : q.2 ≠ o) : q.1 ≠ d := by
  obtain ⟨pre, post, rfl, _, a, b⟩ := U.split
  rcases List.mem_append.mp hq with hq | hq
  · exact a q hq
  · rcases List.mem_cons.mp hq with rfl | hq
    · exact absurd rfl hn
    · exact b q hq
theorem updF_mem {d : Addr} {o : Obj} {news : List (Addr × Obj)} {g : Obj → List (Addr × Obj)} (U : UpdF d o news g) : (d, o) ∈ news := by
  obtain ⟨pre, post, rfl, _, _, _⟩ := U.split
  exact List.mem_append.mpr (.inr (.head _))
theorem updF_in {d : Addr} {o o' : Obj} {news : List (Addr × Obj)} {g : Obj → List (Addr × Obj)} (U : UpdF d o news g) {q : Addr × Obj} (hq : q ∈ g o') : q = (d, o') ∨ (q ∈ news ∧ q.1 ≠ d) := by
  obtain ⟨pre, post, rfl, hg, a, b⟩ := U.split
  rw [hg] at hq
  rcases List.mem_append.mp hq with hq | hq
  · exact .inr ⟨List.mem_append.mpr (.inl hq), a q hq⟩
  · rcases List.mem_cons.mp hq with rfl | hq
    · exact .inl rfl
    · exact .inr ⟨List.mem_append.mpr (.inr (.tail _ hq)), b q hq⟩
theorem updF_sub {d : Addr} {o o' : Obj} {news : List (Addr × Obj)} {g : Obj → List (Addr × Obj)} (U : UpdF d o news g) {q : Addr × Obj} (hq : q ∈ news) (hn : q.1 ≠ d) : q ∈ g o' := by
  obtain ⟨pre, post, rfl, hg, a, b⟩ := U.split
  rw [hg]
  rcases List.mem_append.mp hq with hq | hq
  · exact List.mem_append.mpr (.inl hq)
  · rcases List.mem_cons.mp hq with rfl | hq
    · exact absurd rfl hn
    · exact List.mem_append.mpr (.inr (.tail _ hq))
theorem rest_upd {h₀ h h' : Heap} {L it : Addr} {o o' : Obj} {c0 news : List (Addr × Obj)} {g : Obj → List (Addr × Obj)} {s : Shared} (U : UpdF it o news g) (N : News h₀ L h news) (hc : News h₀ L h' ((it, o') :: c0)) (hs : ∀ p ∈ c0, p ∈ news)
    (hh : s.heap = h') (R : Rest h₀ L ((it, o) :: c0) news s) : News h₀ L h' (g o') := by
  subst hh
  intro p hp
  rcases updF_in U hp with rfl | ⟨hp, hne⟩
  · exact hc _ (.head _)
  · by_cases h : p.1 ∈ ((it, o) :: c0).map (·.1)
    · obtain ⟨q, hq, e⟩ := List.mem_map.mp h
      rcases List.mem_cons.mp hq with rfl | hq
      · exact absurd e.symm hne
      · rw [news_one N hp (hs q hq) e.symm]
        exact hc q (.tail _ hq)
    · exact R p hp h
/-- the items behind a put -/
def putNs (P : Pile) (ns : List Int) (r c many : Int) : List Int := match P.at r c with
  | none => ns
  | some k => ns.set k (ns.getD k 0 + many)
def PutV (P : Pile) (ns : List Int) (r c many : Int) (v : Value) : Prop := match P.at r c with
  | none => v = .none
  | some k => ∃ t, v = .int (ns.getD k 0 + many) t
theorem mul_lt {i H W j : Int} (h0 : 0 ≤ i) (h1 : i < H) (h2 : 0 ≤ j) (h3 : j < W) : 0 ≤ i * W + j ∧ i * W + j < H * W := by
  have a : 0 ≤ i * W := Int.mul_nonneg h0 (by omega)
  have b : (i + 1) * W ≤ H * W := Int.mul_le_mul_of_nonneg_right (by omega) (by omega)
  rw [Int.add_mul, Int.one_mul] at b
  omega
structure Pile.Len (P : Pile) (ns : List Int) : Prop where
  size : (P.hi0 - P.lo0 + 1) * (P.hi1 - P.lo1 + 1) = ns.length
  fit : ns.length ≤ 1000
theorem at_lt {P : Pile} {ns : List Int} (h : P.Len ns) {r c : Int} {k : Nat} (e : P.at r c = some k) : k < ns.length := by
  unfold Pile.at at e
  split at e
  · rename_i q
    have m := mul_lt (i := r - P.lo0) (H := P.hi0 - P.lo0 + 1) (W := P.hi1 - P.lo1 + 1) (j := c - P.lo1) (by omega) (by omega) (by omega) (by omega)
    have e' := Option.some.inj e
    have := h.size
    omega
  · cases e
theorem putNs_len (P : Pile) (ns : List Int) (r c many : Int) : (putNs P ns r c many).length = ns.length := by
  unfold putNs
  split
  · rfl
  · exact List.length_set ..
theorem put_none {P : Pile} {ns : List Int} {r c many : Int} (e : P.at r c = none) : putNs P ns r c many = ns ∧ PutV P ns r c many .none := by
  unfold putNs PutV
  rw [e]
  exact ⟨rfl, rfl⟩
theorem put_some {P : Pile} {ns : List Int} {r c many : Int} {k : Nat} {t : Tok} (e : P.at r c = some k) : putNs P ns r c many = ns.set k (ns.getD k 0 + many) ∧ PutV P ns r c many (.int (ns.getD k 0 + many) t) := by
  unfold putNs PutV
  rw [e]
  exact ⟨rfl, t, rfl⟩
end Mine
namespace Mine
local macro_rules | `(tactic| k_room) => `(tactic| ktr_room)
local macro_rules | `(tactic| k_units) => `(tactic| ktr_units)
local macro_rules | `(tactic| walk_at "exec For Tuple Call cons nil") => `(tactic| (k_here; (rename Fr _ _ _ _ => lF'); (with_unfolding_all refine' For_turns lF' ?_; k_whole)))

set_option maxRecDepth 100000 in
set_option maxHeartbeats 8000000 in
theorem place_spec (w : World) (p : Program) (loose : List Str) (mean : ExcName → Option Value) (mg mb : Str → Option Value)
  (A : Around) (env : Env) (outer : List Env) (A₀ : Around) (base h₀ : Heap) (L : Addr) (m : Str → Option Value) (s : Shared) (Q E : Value → Shared → Prop)
  (P : Pile) (kl : Addr) (r c : Int) (t1 t2 : Tok) (n2 : Nat) (news : List (Addr × Obj))
  (B : Below A₀ base outer h₀) (F : Fr h₀ L s.heap m) (N : News h₀ L s.heap news)
  (T : Top p loose mean mg mb h₀)
  (hh : A.handled = none) (hA : A.frames = some (env :: outer)) (hef : env.frame = some L) (hek : env.scope.kind = .function) (hdp : A.depth + 2 < recursionLimit) (hu : A.units + 20 < cLine)
  (hP : ∀ q ∈ (kl, listOf [Value.int r t1, Value.int c t2].toArray n2) :: P.led, q ∈ news) (hfit : P.Fit)
  (hret : ∀ (h' : Heap) (tk' : Nat) (v : Value), Fr h₀ L h' m → News h₀ L h' news → PlaceV P r c v → Q v { s with heap := h', toks := tk' }) :
  (hd.heap_39 w.params).In h₀ → wpAny (model PySem.Challenge.rw_xm0932_01.row.toRowW.prog w) A (call (.ref 243) [.ref P.pi, .ref kl]) Q E s := by
  k_fill; intro X
  obtain ⟨hd9, dp, fr, gd, un⟩ := A
  subst hh hA
  dsimp only at hdp hu
  have back : ∀ (h' : Heap) (tk' : Nat) (v : Value), Fr h₀ L h' m → News h₀ L h' ((kl, listOf [Value.int r t1, Value.int c t2].toArray n2) :: P.led) → Rest h₀ L ((kl, listOf [Value.int r t1, Value.int c t2].toArray n2) :: P.led) news { s with heap := h', toks := tk' } → PlaceV P r c v → Q v { s with heap := h', toks := tk' } :=
    fun h' tk' v F' N' R' hv => hret h' tk' v F' (rest_news N' hP (fun p hp q hq e => news_one N hp (hP q hq) e) rfl R') hv
  have N₀ := news_sub N hP
  clear hret hP
  obtain ⟨fa, fb, fc, fd⟩ := hfit
  refine wpAny_call ?_
  k_dflt (refine' code_frame ?k1 ?k2 ?k3 ?k4 N ?k5 ?kA ?kF ?kK ?k6 ?k7 ?k8 ?k9 ?kB ?_ ?c2 ?c3 ?c4 ?c5; (case kA => exact rfl); (case kF => exact hef); (case kK => exact hek); (case k1 => k_asm); (case k2 => k_asm); (case k3 => k_asm); (case k4 => exact N₀); (case k5 => k_asm); (case k6 => k_is); (case k7 => k_is); (case k8 => ktr_room); (case k9 => exact BindsTo.of_eq rfl); (case c5 => decide); (case kB => exact locs rfl); (case c2 => exact rfl); (case c3 => exact rfl); (case c4 => exact rfl); k_whole; intro g' L' h' FG' F' N' B' X' T'; (try dsimp only); (try k_lift B'); (try k_fold))
  clear N N₀
  k_steps
  all_goals (
    refine back _ _ _ (by assumption) (by rename News h₀ L _ _ => nE; exact news_sub nE (SubL.mem (by k_subL))) (by assumption) ?_
    first
    | exact place_out (by omega)
    | (refine place_at (by assumption) (by assumption) (by assumption) (by assumption) ?_
       rw [Int.zero_mul, Int.zero_add]; omega))
end Mine
namespace Mine
theorem cls_ne {o o' : Obj} (h : o.cls ≠ o'.cls) : o ≠ o' := fun e => h (congrArg Obj.cls e)
theorem ref_list {a : Addr} : Value.ref a ≠ Value.type "list" := fun h => by cases h
theorem dict_list : Value.type "dict" ≠ Value.type "list" := by decide
theorem tuple_list : Value.type "tuple" ≠ Value.type "list" := by decide
structure Stop (P : Prop) : Prop where
  out : P
theorem getD_set_self {ns : List Int} {k : Nat} {x : Int} (h : k < ns.length) : (ns.set k x).getD k 0 = x := by
  rw [List.getD_eq_getElem?_getD, List.getElem?_set_self h]
  rfl
theorem place_call {w : World} {p : Program} {loose : List Str} {mean : ExcName → Option Value} {mg mb : Str → Option Value}
  {A : Around} {env : Env} {outer : List Env} {A₀ : Around} {base h₀ : Heap} {L : Addr} {m : Str → Option Value} {s : Shared} {Q E : Value → Shared → Prop}
  {P : Pile} {kl : Addr} {r c : Int} {t1 t2 : Tok} {n2 : Nat} {news : List (Addr × Obj)}
  (B : Below A₀ base outer h₀) (F : Fr h₀ L s.heap m) (X : (hd.heap_39 w.params).In h₀) (N : News h₀ L s.heap news)
  (T : Top p loose mean mg mb h₀) (hh : A.handled = none) (hA : A.frames = some (env :: outer)) (hef : env.frame = some L) (hek : env.scope.kind = .function)
  (hP : ∀ q ∈ (kl, listOf [Value.int r t1, Value.int c t2].toArray n2) :: P.led, q ∈ news) (hfit : P.Fit)
  (hdp : A.depth + 2 < recursionLimit) (hu : A.units + 20 < cLine)
  (hnone : ∀ (h' : Heap) (tk' : Nat), P.at r c = none → Fr h₀ L h' m → News h₀ L h' news → Q .none { s with heap := h', toks := tk' })
  (hsome : ∀ (k : Nat) (t : Tok) (h' : Heap) (tk' : Nat), P.at r c = some k → Fr h₀ L h' m → News h₀ L h' news → Q (.int (k : Int) t) { s with heap := h', toks := tk' }) :
  wpAny (model PySem.Challenge.rw_xm0932_01.row.toRowW.prog w) A (call (.ref 243) [.ref P.pi, .ref kl]) Q E s := by
  refine place_spec w p loose mean mg mb A env outer A₀ base h₀ L m s Q E P kl r c t1 t2 n2 news B F N T hh hA hef hek hdp hu hP hfit (fun h' tk' v F' N' hv => ?_) X
  unfold PlaceV at hv
  split at hv
  · subst hv; exact hnone h' tk' (by assumption) F' N'
  · obtain ⟨t, rfl⟩ := hv
    exact hsome _ t h' tk' (by assumption) F' N'

local macro_rules | `(tactic| k_room) => `(tactic| ktr_room)
local macro_rules | `(tactic| k_units) => `(tactic| ktr_units)
local macro_rules | `(tactic| walk_at "mine place") => `(tactic| ((with_reducible show wpAny _ _ (call (Value.ref 243) _) _ _ _); refine Stop.out ?_))

set_option maxRecDepth 100000 in
set_option maxHeartbeats 8000000 in
theorem put_spec (w : World) (p : Program) (loose : List Str) (mean : ExcName → Option Value) (mg mb : Str → Option Value)
  (A : Around) (env : Env) (outer : List Env) (A₀ : Around) (base h₀ : Heap) (L : Addr) (m : Str → Option Value) (s : Shared) (Q E : Value → Shared → Prop)
  (P : Pile) (pl : Addr) (r c many : Int) (t1 t2 t3 : Tok) (n2 nn : Nat) (vs : List Value) (ns : List Int) (news : List (Addr × Obj)) (g : Obj → List (Addr × Obj))
  (B : Below A₀ base outer h₀) (F : Fr h₀ L s.heap m) (N : News h₀ L s.heap news) (U : UpdF P.it (listOf vs.toArray nn) news g)
  (T : Top p loose mean mg mb h₀)
  (hh : A.handled = none) (hA : A.frames = some (env :: outer)) (hef : env.frame = some L) (hek : env.scope.kind = .function) (hI : IntsAre vs ns) (hlen : P.Len ns)
  (hdp : A.depth + 10 < recursionLimit) (hu : A.units + 100 < cLine)
  (hP : ∀ q ∈ (pl, tup2 r t1 c t2 n2) :: P.led, q ∈ news) (hfit : P.Fit) (hbl : P.bl ≠ P.it)
  (hret : ∀ (h' : Heap) (tk' : Nat) (v : Value) (vs' : List Value) (nn' : Nat), Fr h₀ L h' m → News h₀ L h' (g (listOf vs'.toArray nn')) → IntsAre vs' (putNs P ns r c many) → PutV P ns r c many v → Q v { s with heap := h', toks := tk' }) :
  (hd.heap_39 w.params).In h₀ → wpAny (model PySem.Challenge.rw_xm0932_01.row.toRowW.prog w) A (call (.ref 283) [.ref P.pi, .ref pl, .int many t3]) Q E s := by
  k_fill; intro X
  obtain ⟨hd9, dp, fr, gd, un⟩ := A
  subst hh hA
  dsimp only at hdp hu
  have back : ∀ (h' : Heap) (tk' : Nat) (v : Value) (vs' : List Value) (nn' : Nat), Fr h₀ L h' m → News h₀ L h' ((P.it, listOf vs'.toArray nn') :: (pl, tup2 r t1 c t2 n2) :: P.led) → Rest h₀ L ((P.it, listOf vs.toArray nn) :: (pl, tup2 r t1 c t2 n2) :: P.led) news { s with heap := h', toks := tk' } → IntsAre vs' (putNs P ns r c many) → PutV P ns r c many v → Q v { s with heap := h', toks := tk' } :=
    fun h' tk' v vs' nn' F' N' R' hi' hv => hret h' tk' v vs' nn' F' (rest_upd U N N' hP rfl R') hi' hv
  have N₀ : News h₀ L s.heap ((P.it, listOf vs.toArray nn) :: (pl, tup2 r t1 c t2 n2) :: P.led) := fun q hq => by
    rcases List.mem_cons.mp hq with rfl | hq
    · exact N _ (updF_mem U)
    · exact N _ (hP q hq)
  have d1 : @Ne Nat pl P.it := updF_ne U (hP _ (.head _)) (cls_ne (by first | exact tuple_list | exact dict_list | exact ref_list))
  have d2 : @Ne Nat P.pi P.it := updF_ne U (hP (P.pi, _) (.tail _ (.head _))) (cls_ne (by first | exact tuple_list | exact dict_list | exact ref_list))
  have d3 : @Ne Nat P.pd P.it := updF_ne U (hP (P.pd, _) (.tail _ (.tail _ (.head _)))) (cls_ne (by first | exact tuple_list | exact dict_list | exact ref_list))
  have d4 : @Ne Nat P.b0 P.it := updF_ne U (hP (P.b0, _) (.tail _ (.tail _ (.tail _ (.tail _ (.head _)))))) (cls_ne (by first | exact tuple_list | exact dict_list | exact ref_list))
  have d5 : @Ne Nat P.b1 P.it := updF_ne U (hP (P.b1, _) (.tail _ (.tail _ (.tail _ (.tail _ (.tail _ (.head _))))))) (cls_ne (by first | exact tuple_list | exact dict_list | exact ref_list))
  have d6 : @Ne Nat P.bl P.it := hbl
  have hl1 : ∀ {k : Nat}, P.at r c = some k → k < ns.length := fun e => at_lt hlen e
  have hl2 := hlen.fit
  clear hret hP hbl U hlen
  refine wpAny_call ?_
  k_dflt (refine' code_frame ?k1 ?k2 ?k3 ?k4 N ?k5 ?kA ?kF ?kK ?k6 ?k7 ?k8 ?k9 ?kB ?_ ?c2 ?c3 ?c4 ?c5; (case kA => exact rfl); (case kF => exact hef); (case kK => exact hek); (case k1 => k_asm); (case k2 => k_asm); (case k3 => k_asm); (case k4 => exact N₀); (case k5 => k_asm); (case k6 => k_is); (case k7 => k_is); (case k8 => ktr_room); (case k9 => exact BindsTo.of_eq rfl); (case c5 => decide); (case kB => exact locs rfl); (case c2 => exact rfl); (case c3 => exact rfl); (case c4 => exact rfl); k_whole; intro g' L' h' FG' F' N' B' X' T'; (try dsimp only); (try k_lift B'); (try k_fold))
  clear N N₀
  repeat' (first
    | walk_at "mine place"
    | (rename IntsAre _ (List.map _ [_, _]) => hI8; simp only [List.map_cons, List.map_nil] at *; (obtain ⟨_, _, rfl⟩ := ints_two hI8); clear hI8)
    | (k_unfold; (try dsimp only)) | walk1 | (dsimp only; walk1) | fail "no step")
  refine Stop.mk ?_
  refine' place_call ?k1 ?k2 ?k3 ?k4 ?k5 ?kH ?kA ?kF ?kK ?kP ?kf ?kd ?ku ?n1 ?n2
  case kH => exact rfl
  case kA => exact rfl
  case kF => exact rfl
  case kK => first | exact rfl | assumption
  case k1 => k_asm
  case k2 => k_asm
  case k3 => k_asm
  case k4 => k_asm
  case k5 => k_asm
  case kP => exact SubL.mem (by k_subL)
  case kf => assumption
  case kd => ktr_room
  case ku => ktr_units
  case' n1 => (intro h' tk' hat F' N'; (try dsimp only); (try k_sweep); (try k_fold))
  case' n2 => (intro kx tx h' tk' hat F' N'; (try dsimp only); (try k_sweep); (try k_fold); have hkl := hl1 hat; have hkz : (0 : Int) ≤ (kx : Int) := Int.natCast_nonneg kx; have hkl' : (kx : Int) < (ns.length : Int) := Int.ofNat_lt.mpr hkl)
  all_goals (repeat' (first 
    | (k_unfold; (try dsimp only)) | walk1 | (dsimp only; walk1) | fail "no step"))
  · rename IntsAre _ (List.set _ _ _) => hI9
    rename P.at r c = some _ => hat
    rename News h₀ L _ _ => nE
    have e1 := getD_set_self (x := ns.getD kx 0 + many) hkl
    simp only [Int.toNat_natCast] at hI9 nE ⊢
    rw [e1]
    exact back _ _ _ _ _ (by assumption) (news_sub nE (SubL.mem (by k_subL))) (by assumption) ((put_some (t := 0) hat).1 ▸ hI9) (put_some hat).2
  · rename P.at r c = none => hat
    rename News h₀ L _ _ => nE
    exact back _ _ _ vs _ (by assumption) (news_sub nE (SubL.mem (by k_subL))) (by assumption) (by rw [(put_none (ns := ns) (many := many) hat).1]; exact hI) (put_none hat).2
end Mine
namespace Mine
abbrev pdat (p : Int × Int) : Dat := Dat.tuple [Dat.int p.1, Dat.int p.2]
/-- where a fall stands: the items, what is lost, who waits, who gave -/
structure St where
  ns : List Int
  lost : Int
  wt : List (Int × Int)
  gv : List (Int × Int)
def beside (p : Int × Int) : List (Int × Int) := [(p.1 - 1, p.2), (p.1 + 1, p.2), (p.1, p.2 - 1), (p.1, p.2 + 1)]
def giveOne (P : Pile) (st : St) (q : Int × Int) : St := match P.at q.1 q.2 with
  | none => { st with lost := st.lost + 1 }
  | some k => { st with ns := st.ns.set k (st.ns.getD k 0 + 1), wt := if 3 < st.ns.getD k 0 + 1 then st.wt ++ [q] else st.wt }
/-- one turn, the place drawn and the waiting ones behind it told -/
def turnAt (P : Pile) (due : Int) (st : St) (q : Int × Int) (wt : List (Int × Int)) : Option St := match P.at q.1 q.2 with
  | none => none
  | some k =>
    if st.ns.getD k 0 + 0 < 4 then some { st with ns := putNs P st.ns q.1 q.2 0, wt := wt }
    else
      let st2 := (beside q).foldl (giveOne P) { ns := putNs P (putNs P st.ns q.1 q.2 0) q.1 q.2 (0 - 4), lost := st.lost, wt := wt ++ [q], gv := st.gv ++ [q] }
      if st2.ns.sum + st2.lost = due ∧ st2.wt.length ≤ 1000 ∧ st2.gv.length ≤ 1000 then some st2 else none
def runF (P : Pile) (due : Int) (last : Bool) : Nat → St → Option St
  | 0, st => if st.wt = [] then some st else none
  | n + 1, st => match st.wt with
    | [] => some st
    | q :: r => match (if last then turnAt P due st ((q :: r).getLast (by simp)) (q :: r).dropLast else turnAt P due st q r) with
      | none => none
      | some st1 => runF P due last n st1
end Mine
namespace Mine
theorem put_call {w : World} {p : Program} {loose : List Str} {mean : ExcName → Option Value} {mg mb : Str → Option Value}
  {A : Around} {env : Env} {outer : List Env} {A₀ : Around} {base h₀ : Heap} {L : Addr} {m : Str → Option Value} {s : Shared} {Q E : Value → Shared → Prop}
  {P : Pile} {pl : Addr} {r c many : Int} {t1 t2 t3 : Tok} {n2 nn : Nat} {vs : List Value} {ns : List Int} {news : List (Addr × Obj)} {g : Obj → List (Addr × Obj)}
  (B : Below A₀ base outer h₀) (F : Fr h₀ L s.heap m) (X : (hd.heap_39 w.params).In h₀) (N : News h₀ L s.heap news) (U : UpdF P.it (listOf vs.toArray nn) news g)
  (T : Top p loose mean mg mb h₀)
  (hh : A.handled = none) (hA : A.frames = some (env :: outer)) (hef : env.frame = some L) (hek : env.scope.kind = .function) (hI : IntsAre vs ns) (hlen : P.Len ns)
  (hpl : (pl, tup2 r t1 c t2 n2) ∈ news) (hP : ∀ q ∈ P.led, q ∈ news) (hfit : P.Fit) (hbl : P.bl ≠ P.it)
  (hdp : A.depth + 10 < recursionLimit) (hu : A.units + 100 < cLine)
  (hnone : ∀ (h' : Heap) (tk' : Nat) (vs' : List Value) (nn' : Nat), P.at r c = none → Fr h₀ L h' m → News h₀ L h' (g (listOf vs'.toArray nn')) → IntsAre vs' ns → Q .none { s with heap := h', toks := tk' })
  (hsome : ∀ (k : Nat) (t : Tok) (h' : Heap) (tk' : Nat) (vs' : List Value) (nn' : Nat), P.at r c = some k → Fr h₀ L h' m → News h₀ L h' (g (listOf vs'.toArray nn')) → IntsAre vs' (ns.set k (ns.getD k 0 + many)) → Q (.int (ns.getD k 0 + many) t) { s with heap := h', toks := tk' }) :
  wpAny (model PySem.Challenge.rw_xm0932_01.row.toRowW.prog w) A (call (.ref 283) [.ref P.pi, .ref pl, .int many t3]) Q E s := by
  refine put_spec w p loose mean mg mb A env outer A₀ base h₀ L m s Q E P pl r c many t1 t2 t3 n2 nn vs ns news g B F N U T hh hA hef hek hI hlen hdp hu (List.forall_mem_cons.mpr ⟨hpl, hP⟩) hfit hbl (fun h' tk' v vs' nn' F' N' hi hv => ?_) X
  unfold PutV at hv
  unfold putNs at hi
  split at hv
  · rename_i hat
    rw [hat] at hi
    subst hv
    exact hnone h' tk' vs' nn' hat F' N' hi
  · rename_i k hat
    rw [hat] at hi
    obtain ⟨t, rfl⟩ := hv
    exact hsome k t h' tk' vs' nn' hat F' N' hi
theorem fr_named {h₀ h : Heap} {L : Addr} {m : Str → Option Value} {ps : List (Str × Value)} (h1 : ∀ q ∈ ps, m q.1 = some q.2) (F : Fr h₀ L h m) : Fr h₀ L h (kstB m ps) := by
  have e : kstB m ps = m := by
    funext y
    exact kstB_eq h1 fun _ => rfl
  rw [e]
  exact F
/-- a place of a list, as it lies -/
theorem dat_pair {news : List (Addr × Obj)} {v : Value} {q : Int × Int} (h : DatIn news v (pdat q)) : ∃ a t u n, v = .ref a ∧ (a, tup2 q.1 t q.2 u n) ∈ news := by
  cases h with
  | tuple hm r =>
    cases r with
    | cons h1 r => cases r with
      | cons h2 r =>
        cases r
        cases h1
        cases h2
        exact ⟨_, _, _, _, rfl, hm⟩
theorem dat_cons {news : List (Addr × Obj)} {vs : List Value} {q : Int × Int} {r : List (Int × Int)} (h : DatAll news vs ((q :: r).map pdat)) : ∃ v vs', vs = v :: vs' ∧ DatIn news v (pdat q) ∧ DatAll news vs' (r.map pdat) := by
  rw [List.map_cons] at h
  cases h with
  | cons h r => exact ⟨_, _, rfl, h, r⟩
theorem dat_last {news : List (Addr × Obj)} {vs : List Value} {r : List (Int × Int)} {q : Int × Int} (h : DatAll news vs ((r ++ [q]).map pdat)) : ∃ v vs', vs = vs' ++ [v] ∧ DatIn news v (pdat q) ∧ DatAll news vs' (r.map pdat) := by
  induction r generalizing vs with
  | nil =>
    obtain ⟨v, vs', rfl, h1, h2⟩ := dat_cons h
    cases h2
    exact ⟨v, [], rfl, h1, .nil⟩
  | cons x r ih =>
    obtain ⟨v, vs', rfl, h1, h2⟩ := dat_cons h
    obtain ⟨v', vs'', rfl, h3, h4⟩ := ih h2
    exact ⟨v', v :: vs'', rfl, h3, .cons h1 h4⟩
theorem dat_at {news : List (Addr × Obj)} {v : Value} {l : List (Int × Int)} {vs : List Value} {i : Nat} (h : DatAll news vs (l.map pdat)) (e : vs[i]? = some v) : ∃ q, l[i]? = some q ∧ DatIn news v (pdat q) := by
  induction l generalizing vs i with
  | nil => rw [List.map_nil] at h; cases h; cases e
  | cons q r ih =>
    obtain ⟨v', vs', rfl, h1, h2⟩ := dat_cons h
    cases i with
    | zero => cases e; exact ⟨q, rfl, h1⟩
    | succ i =>
      rw [List.getElem?_cons_succ] at e ⊢
      exact ih h2 e
theorem dat_nil {news : List (Addr × Obj)} {vs : List Value} (h : DatAll news vs (([] : List (Int × Int)).map pdat)) : vs = [] := by
  cases h; rfl
section
variable {prog : Program} {w : World} {A : Around} {E : Value → Shared → Prop} {s : Shared} {h₀ : Heap} {L D : Addr} {m : Str → Option Value} {news : List (Addr × Obj)} {g : Obj → List (Addr × Obj)} {n : Nat} {vs : List Value} {v : Value} {u : Tok} {Q : Value → Shared → Prop}
theorem updF_upd {d : Addr} {o o' : Obj} {news : List (Addr × Obj)} {g : Obj → List (Addr × Obj)} (U : UpdF d o news g) : Upd d o o' news (g o') := by
  induction U with
  | head h => exact .head h
  | tail h _ ih => exact .tail h ih
theorem pop_first (F : Fr h₀ L s.heap m) (N : News h₀ L s.heap news) (U : UpdF D (listOf (v :: vs).toArray n) news g) (hz : vs.length ≤ 2000)
    (h : ∀ h', Fr h₀ L h' m → News h₀ L h' (g (listOf vs.toArray (n + 1))) → Q v { s with heap := h' }) : wpAny (model prog w) A (call (.builtin "list.pop") [.ref D, .int 0 u]) Q E s :=
  kl_popAt (k := 0) (p := []) (y := v) (q := vs) F N (by decide) (by simp [seqIndex?]) (by rfl) (updF_upd U) (by show (v :: vs).length ≤ sizeLine; rw [sizeLine_eq, List.length_cons]; omega) h
theorem app_back {x : Value} (F : Fr h₀ L s.heap m) (N : News h₀ L s.heap news) (U : UpdF D (listOf vs.toArray n) news g) (hz : vs.length ≤ 2000)
    (h : ∀ h', Fr h₀ L h' m → News h₀ L h' (g (listOf (vs ++ [x]).toArray (n + 1))) → Q .none { s with heap := h' }) : wpAny (model prog w) A (call (.builtin "list.append") [.ref D, x]) Q E s := by
  refine append_K F N (updF_upd U) (fun h' F' N' => h h' F' ?_) (by rw [List.size_toArray, sizeLine_eq]; omega)
  rw [List.push_toArray] at N'
  exact N'
theorem pop_back (F : Fr h₀ L s.heap m) (N : News h₀ L s.heap news) (U : UpdF D (listOf (vs ++ [v]).toArray n) news g) (hz : vs.length ≤ 2000)
    (h : ∀ h', Fr h₀ L h' m → News h₀ L h' (g (listOf vs.toArray (n + 1))) → Q v { s with heap := h' }) : wpAny (model prog w) A (call (.builtin "list.pop") [.ref D]) Q E s :=
  kl_pop (p := vs) (y := v) F N (kpa_last v vs) (updF_upd U) (by show (vs ++ [v]).length ≤ sizeLine; rw [sizeLine_eq, List.length_append]; show vs.length + 1 ≤ _; omega) h
end
theorem run_cons {P : Pile} {due lost : Int} {last : Bool} {n : Nat} {ns : List Int} {q : Int × Int} {r gv : List (Int × Int)} {st' : St} (h : runF P due last n ⟨ns, lost, q :: r, gv⟩ = some st') :
    ∃ n' st1, n = n' + 1 ∧ (if last then turnAt P due ⟨ns, lost, q :: r, gv⟩ ((q :: r).getLast (by simp)) (q :: r).dropLast else turnAt P due ⟨ns, lost, q :: r, gv⟩ q r) = some st1 ∧ runF P due last n' st1 = some st' := by
  cases n with
  | zero => simp [runF] at h
  | succ n =>
    simp only [runF] at h
    split at h
    · cases h
    · rename_i st1 e
      exact ⟨n, st1, rfl, e, h⟩
theorem run_nil {P : Pile} {due lost : Int} {last : Bool} {n : Nat} {ns : List Int} {gv : List (Int × Int)} {st' : St} (h : runF P due last n ⟨ns, lost, [], gv⟩ = some st') : st' = ⟨ns, lost, [], gv⟩ := by
  cases n with
  | zero => simpa [runF] using h.symm
  | succ n => simpa [runF] using h.symm
theorem turn_cases {P : Pile} {due : Int} {st st1 : St} {q : Int × Int} {wt : List (Int × Int)} (h : turnAt P due st q wt = some st1) :
    ∃ k, P.at q.1 q.2 = some k ∧ ((st.ns.getD k 0 + 0 < 4 ∧ st1 = { st with ns := st.ns.set k (st.ns.getD k 0 + 0), wt := wt }) ∨
      (¬ st.ns.getD k 0 + 0 < 4 ∧ st1 = (beside q).foldl (giveOne P) { ns := (st.ns.set k (st.ns.getD k 0 + 0)).set k ((st.ns.set k (st.ns.getD k 0 + 0)).getD k 0 + (0 - 4)), lost := st.lost, wt := wt ++ [q], gv := st.gv ++ [q] } ∧
        st1.ns.sum + st1.lost = due ∧ st1.wt.length ≤ 1000 ∧ st1.gv.length ≤ 1000)) := by
  unfold turnAt at h
  split at h
  · cases h
  · rename_i k e
    refine ⟨k, e, ?_⟩
    have e1 : ∀ ns : List Int, ∀ x : Int, putNs P ns q.1 q.2 x = ns.set k (ns.getD k 0 + x) := fun ns x => (put_some (t := 0) e).1
    simp only [e1] at h
    split at h
    · rename_i hlt
      exact .inl ⟨hlt, (Option.some.inj h).symm⟩
    · rename_i hlt
      split at h
      · rename_i hc
        have := Option.some.inj h
        subst this
        exact .inr ⟨hlt, rfl, hc.1, hc.2.1, hc.2.2⟩
      · cases h
theorem names_more {x : Str} {v : Value} {m : Str → Option Value} {ps : List (Str × Value)} (h : ∀ q ∈ ps, m q.1 = some q.2) (hx : (ps.all fun q => !(q.1 == x)) = true) :
    ∀ q ∈ (x, v) :: ps, (fun y => if y = x then some v else m y) q.1 = some q.2 := by
  intro q hq
  rcases List.mem_cons.mp hq with rfl | hq
  · exact if_pos rfl
  · have h1 := List.all_eq_true.mp hx q hq
    have h2 : q.1 ≠ x := by simpa using h1
    show (if q.1 = x then some v else m q.1) = some q.2
    rw [if_neg h2]
    exact h q hq
theorem give_step {P : Pile} {l : List (Int × Int)} {st0 st : St} {q : Int × Int} {i : Nat} (h : (l.take i).foldl (giveOne P) st0 = st) (hq : l[i]? = some q) : (l.take (i + 1)).foldl (giveOne P) st0 = giveOne P st q := by
  rw [List.take_add_one, hq, List.foldl_append, h]
  rfl
/-- an address above all that a caller holds -/
def NewAt (rest : List (Addr × Obj)) (it a : Nat) : Prop := (∀ o ∈ rest, @LT.lt Nat _ o.1 a) ∧ it < a
end Mine
namespace Mine
local macro_rules | `(tactic| k_room) => `(tactic| ktr_room)
local macro_rules | `(tactic| k_units) => `(tactic| ktr_units)
set_option maxRecDepth 100000 in
set_option maxHeartbeats 8000000 in
theorem beside_spec {w : World} {p : Program} {loose : List Str} {mean : ExcName → Option Value} {mg mb : Str → Option Value}
  {A : Around} {env : Env} {outer : List Env} {A₀ : Around} {base h₀ : Heap} {L : Addr} {m : Str → Option Value} {s : Shared} {Q E : Value → Shared → Prop}
  {pl : Addr} {r c : Int} {t1 t2 : Tok} {n2 : Nat} {news : List (Addr × Obj)}
  (B : Below A₀ base outer h₀) (F : Fr h₀ L s.heap m) (X : (hd.heap_39 w.params).In h₀) (N : News h₀ L s.heap news)
  (T : Top p loose mean mg mb h₀)
  (hh : A.handled = none) (hA : A.frames = some (env :: outer)) (hef : env.frame = some L) (hek : env.scope.kind = .function)
  (hpl : (pl, tup2 r t1 c t2 n2) ∈ news)
  (hdp : A.depth + 2 < recursionLimit) (hu : A.units + 20 < cLine)
  (hret : ∀ (h' : Heap) (tk' : Nat) (bl : Addr) (bn : Nat) (vs : List Value) (T4 : List (Addr × Obj)), Fr h₀ L h' m → News h₀ L h' ((bl, listOf vs.toArray bn) :: (T4 ++ news)) →
    DatAll T4 vs ((beside (r, c)).map pdat) → (∀ q ∈ T4, ∀ o ∈ news, @LT.lt Nat _ o.1 q.1) → (∀ q ∈ T4 ++ news, @LT.lt Nat _ q.1 bl) → Q (.ref bl) { s with heap := h', toks := tk' }) :
  wpAny (model PySem.Challenge.rw_xm0932_01.row.toRowW.prog w) A (call (.ref 290) [.ref pl]) Q E s := by
  revert X; k_fill; intro X
  obtain ⟨hd9, dp, fr, gd, un⟩ := A
  subst hh hA
  dsimp only at hdp hu
  have N9 : News h₀ L s.heap ((pl, tup2 r t1 c t2 n2) :: news) := List.forall_mem_cons.mpr ⟨N _ hpl, N⟩
  clear N hpl
  refine wpAny_call ?_
  k_dflt (refine' code_def ?k1 ?k2 ?k3 ?k4 ?k5 ?kA ?kF ?kK ?k6 ?k7 ?k8 ?k9 ?kB ?_ ?c2 ?c3 ?c4 ?c5; (case kA => exact rfl); (case kF => exact hef); (case kK => exact hek); (case k1 => k_asm); (case k2 => k_asm); (case k3 => k_asm); (case k4 => k_asm); (case k5 => k_asm); (case k6 => k_is); (case k7 => k_is); (case k8 => ktr_room); (case k9 => exact BindsTo.of_eq rfl); (case c5 => decide); (case kB => exact locs rfl); (case c2 => exact rfl); (case c3 => exact rfl); (case c4 => exact rfl); k_whole; intro g' L' h' FG' F' N' B' X' T'; (try dsimp only); (try k_lift B'); (try k_fold))
  repeat' (first 
    | (k_unfold; (try dsimp only)) | walk1 | (dsimp only; walk1) | fail "no step")
  rename_i a1 h1 lt1 a2 h2 lt2 a3 h3 lt3 a4 h4 lt4 bl h5 F9 N8 lt5 kF kN Tc kX
  refine hret _ _ bl 0 [.ref a1, .ref a2, .ref a3, .ref a4] [(a4, tup2 r t1 (c + 1) (tk + 1 + 1 + 1 + 1 + 1 + 1 + 1 + 1 + 1) 0), (a3, tup2 r t1 (c - 1) (tk + 1 + 1 + 1 + 1 + 1 + 1 + 1) 0), (a2, tup2 (r + 1) (tk + 1 + 1 + 1 + 1 + 1) c t2 0), (a1, tup2 (r - 1) (tk + 1 + 1 + 1) c t2 0)] kF (news_sub kN (by kst_allIn)) ?_ ?_ ?_
  · exact .cons (.tuple (.tail _ (.tail _ (.tail _ (.head _)))) (.cons (.int _ _) (.cons (.int _ _) .nil))) (.cons (.tuple (.tail _ (.tail _ (.head _))) (.cons (.int _ _) (.cons (.int _ _) .nil)))
      (.cons (.tuple (.tail _ (.head _)) (.cons (.int _ _) (.cons (.int _ _) .nil))) (.cons (.tuple (.head _) (.cons (.int _ _) (.cons (.int _ _) .nil))) .nil)))
  · intro q hq o ho
    simp only [List.mem_cons, List.not_mem_nil, or_false] at hq
    rcases hq with rfl | rfl | rfl | rfl
    · exact tb_ltOf lt4.2.2.2.2 o ho
    · exact tb_ltOf lt3.2.2.2 o ho
    · exact tb_ltOf lt2.2.2 o ho
    · exact tb_ltOf lt1.2 o ho
  · intro q hq
    simp only [List.mem_append, List.mem_cons, List.not_mem_nil, or_false] at hq
    rcases hq with (rfl | rfl | rfl | rfl) | hq
    · exact lt5.1
    · exact lt5.2.1
    · exact lt5.2.2.1
    · exact lt5.2.2.2.1
    · exact tb_ltOf lt5.2.2.2.2.2 q hq
end Mine
namespace Mine
local macro_rules | `(tactic| k_room) => `(tactic| ktr_room)
local macro_rules | `(tactic| k_units) => `(tactic| ktr_units)
local macro_rules | `(tactic| walk_at "exec While Compare cons nil") => `(tactic| refine Stop.out ?_)
local macro_rules | `(tactic| walk_at "mine assign") => `(tactic| ((with_reducible show wpAny _ _ (exec (Stmt.Assign [PySem.Expr.Name _ _] (PySem.Expr.IfExp _ _ _ _) _) _) _ _ _); refine Stop.out ?_))
local macro_rules | `(tactic| walk_at "mine pop") => `(tactic| ((show wpAny _ _ (call (Value.builtin "list.pop") _) _ _ _); first
  | (refine' pop_first ?F ?N ?U ?z ?_; (case F => k_asm); (case N => k_asm); (case U => k_updF); (case z => assumption); intro h' F' N'; (try dsimp only at N'))
  | (refine' pop_back ?F ?N ?U ?z ?_; (case F => k_asm); (case N => k_asm); (case U => k_updF); (case z => assumption); intro h' F' N'; (try dsimp only at N'))))
local macro_rules | `(tactic| walk_at "pyIter ref") => `(tactic| ((with_reducible show wpAny _ _ (pyIter (Value.ref _)) (fun it s₂ => LoopAtV _ _ _ _ _ _ _ _ _ it s₂) _ _); refine Stop.out ?_))
local macro_rules | `(tactic| walk_at "exec For Name Call cons nil") => `(tactic| (k_here; (rename Fr _ _ _ _ => lF'); (with_unfolding_all refine' For_invVF lF' ?k1 ?k2 ?_; (case k1 => exact rfl); (case k2 => exact rfl); k_whole)))
local macro_rules | `(tactic| walk_at "mine append") => `(tactic| ((show wpAny _ _ (call (Value.builtin "list.append") [Value.ref _, _]) _ _ _); refine' app_back ?F ?N ?U ?z ?_; (case F => k_asm); (case N => k_asm); (case U => k_updF); (case z => assumption); intro h' F' N'; (try dsimp only at N')))
local macro_rules | `(tactic| walk_at "mine beside") => `(tactic| ((with_reducible show wpAny _ _ (call (Value.ref 290) _) _ _ _); refine Stop.out ?_))
local macro_rules | `(tactic| walk_at "beside it") => `(tactic| (refine' beside_spec ?k1 ?k2 ?k3 ?k4 ?k5 ?kH ?kA ?kF ?kK ?kp ?kd ?ku ?n1; (case kH => exact rfl); (case kA => exact rfl); (case kF => exact rfl); (case kK => first | exact rfl | assumption); (case k1 => k_asm); (case k2 => k_asm); (case k3 => k_asm); (case k4 => k_asm); (case k5 => k_asm); (case kp => kst_mem); (case kd => ktr_room); (case ku => ktr_units)))
local macro_rules | `(tactic| walk_at "put it") => `(tactic| (refine' put_call ?k1 ?k2 ?k3 ?k4 ?kU ?k5 ?kH ?kA ?kF ?kK ?kI ?kL ?kp ?kP ?kf ?kb ?kd ?ku ?n1 ?n2; (case kH => exact rfl); (case kA => exact rfl); (case kF => exact rfl); (case kK => first | exact rfl | assumption); (case k1 => k_asm); (case k2 => k_asm); (case k3 => k_asm); (case k4 => k_asm); (case kU => k_updF); (case k5 => k_asm); (case kI => assumption); (case kL => first | assumption | (refine Pile.Len.mk ?kLa ?kLb <;> simp only [List.length_set] <;> first | exact Pile.Len.size (by assumption) | exact Pile.Len.fit (by assumption))); (case kp => kst_mem); (case kP => exact SubL.mem (by k_subL)); (case kf => assumption); (case kb => assumption); (case kd => ktr_room); (case ku => ktr_units)))
local macro_rules | `(tactic| walk_at "mine put") => `(tactic| ((with_reducible show wpAny _ _ (call (Value.ref 283) _) _ _ _); refine Stop.out ?_))

/-- what stands between two turns of a fall -/
structure FallJ (P : Pile) (pls pn : Nat) (pvs : List Value) (gl wl : Nat) (last : Bool) (due : Int) (size : Nat) (rest : List (Addr × Obj)) (st' : St) (n : Nat) (m : Str → Option Value) (nx : List (Addr × Obj))
    (st : St) (wvs gvs vs : List Value) (wn gn nn : Nat) (tl : List (Addr × Obj)) (tlo tdu : Tok) : Prop where
  led : nx = (wl, listOf wvs.toArray wn) :: (gl, listOf gvs.toArray gn) :: (pls, listOf pvs.toArray pn) :: (P.it, listOf vs.toArray nn) :: (P.led ++ tl)
  run : runF P due last n st = some st'
  names : ∀ q ∈ [(Str.ofString "pile", Value.ref P.pi), (Str.ofString "is_last", Value.bool last), (Str.ofString "gave", Value.ref gl), (Str.ofString "lost", Value.int st.lost tlo), (Str.ofString "waiting", Value.ref wl), (Str.ofString "due", Value.int due tdu)], m q.1 = some q.2
  inum : IntsAre vs st.ns
  len : st.ns.length = size
  wd : DatAll tl wvs (st.wt.map pdat)
  gd : DatAll tl gvs (st.gv.map pdat)
  wlen : st.wt.length ≤ 1000
  glen : st.gv.length ≤ 1000
  off : OwnOff tl [wl, gl, P.it]
  sub : ∀ q ∈ rest, q ∈ tl
  new : ∀ q ∈ tl, q ∈ rest ∨ NewAt rest P.it q.1

theorem news_ne {h₀ h : Heap} {L : Addr} {news : List (Addr × Obj)} (N : News h₀ L h news) {p q : Addr × Obj} (hp : p ∈ news) (hq : q ∈ news) (hc : p.2.cls ≠ q.2.cls) : p.1 ≠ q.1 :=
  fun e => hc (congrArg (fun x : Addr × Obj => x.2.cls) (news_one N hp hq e))
/-- what stands between two turns of the inner loop -/
structure GiveJ (P : Pile) (pls pn : Nat) (pvs : List Value) (gl wl gn : Nat) (gvs : List Value) (bl bn : Nat) (bvs : List Value) (last : Bool) (due : Int) (size : Nat) (tl : List (Addr × Obj)) (q0 : Int × Int) (st0 : St) (gv : List (Int × Int)) (i : Nat) (m : Str → Option Value) (nx : List (Addr × Obj))
    (ns : List Int) (lost : Int) (wt : List (Int × Int)) (wvs vs : List Value) (wn nn : Nat) (tlo tdu : Tok) : Prop where
  led : nx = (bl, listOf bvs.toArray bn) :: (wl, listOf wvs.toArray wn) :: (gl, listOf gvs.toArray gn) :: (pls, listOf pvs.toArray pn) :: (P.it, listOf vs.toArray nn) :: (P.led ++ tl)
  run : ((beside q0).take i).foldl (giveOne P) st0 = ⟨ns, lost, wt, gv⟩
  names : ∀ q ∈ [(Str.ofString "pile", Value.ref P.pi), (Str.ofString "is_last", Value.bool last), (Str.ofString "gave", Value.ref gl), (Str.ofString "lost", Value.int lost tlo), (Str.ofString "waiting", Value.ref wl), (Str.ofString "due", Value.int due tdu)], m q.1 = some q.2
  inum : IntsAre vs ns
  len : ns.length = size
  wd : DatAll tl wvs (wt.map pdat)
  wlen : wt.length ≤ 1001 + i
set_option maxRecDepth 100000 in
set_option maxHeartbeats 8000000 in
theorem fallen_spec (w : World) (p : Program) (loose : List Str) (mean : ExcName → Option Value) (mg mb : Str → Option Value)
  (A : Around) (env : Env) (outer : List Env) (A₀ : Around) (base h₀ : Heap) (L : Addr) (m : Str → Option Value) (s : Shared) (Q E : Value → Shared → Prop)
  (P : Pile) (pls : Addr) (pn nn : Nat) (pvs vs : List Value) (ps : List (Int × Int)) (ns : List Int) (last : Bool) (rest : List (Addr × Obj)) (fuel : Nat) (st' : St)
  (B : Below A₀ base outer h₀) (F : Fr h₀ L s.heap m) (N : News h₀ L s.heap ((pls, listOf pvs.toArray pn) :: (P.it, listOf vs.toArray nn) :: (P.led ++ rest)))
  (o1 : OwnOff rest [P.it]) (o2 : @Ne Nat pls P.it)
  (T : Top p loose mean mg mb h₀)
  (hh : A.handled = none) (hA : A.frames = some (env :: outer)) (hef : env.frame = some L) (hek : env.scope.kind = .function) (hI : IntsAre vs ns) (hlen : P.Len ns)
  (hdp : A.depth + 12 < recursionLimit) (hu : A.units + 200 < cLine) (hfit : P.Fit) (hbl : P.bl ≠ P.it)
  (hD : DatAll rest pvs (ps.map pdat)) (hpl : ps.length ≤ 1000)
  (hrun : runF P ns.sum last fuel ⟨ns, 0, ps, []⟩ = some st')
  (hret : ∀ (h' : Heap) (tk' : Nat) (rt gl : Addr) (gvs vs' : List Value) (gn nn' rn : Nat) (t : Tok) (tl : List (Addr × Obj)), Fr h₀ L h' m →
    News h₀ L h' ((rt, { cls := .type "tuple", data := .seq [Value.ref gl, Value.int st'.lost t].toArray rn }) :: (gl, listOf gvs.toArray gn) :: (pls, listOf pvs.toArray pn) :: (P.it, listOf vs'.toArray nn') :: (P.led ++ tl)) →
    IntsAre vs' st'.ns → st'.ns.length = ns.length → DatAll tl gvs (st'.gv.map pdat) → (∀ q ∈ rest, q ∈ tl) → (∀ q ∈ tl, q ∈ rest ∨ NewAt rest P.it q.1) → NewAt rest P.it rt → NewAt rest P.it gl → Q (.ref rt) { s with heap := h', toks := tk' }) :
  (hd.heap_39 w.params).In h₀ → wpAny (model PySem.Challenge.rw_xm0932_01.row.toRowW.prog w) A (call (.ref 297) [.ref P.pi, .ref pls, .bool last]) Q E s := by
  k_fill; intro X
  obtain ⟨hd9, dp, fr, gd, un⟩ := A
  subst hh hA
  dsimp only at hdp hu
  simp only [Pile.led, List.cons_append, List.nil_append] at N
  have hpv : pvs.length = ps.length := by rw [DatAll.length hD, List.length_map]
  have hsz : pvs.toArray.size ≤ sizeLine := by rw [List.size_toArray, sizeLine_eq]; omega
  have e1 : @Ne Nat P.pi P.it := news_ne N (p := (P.pi, _)) (q := (P.it, _)) (by k_mem) (by k_mem) ref_list
  have e2 : @Ne Nat P.pd P.it := news_ne N (p := (P.pd, _)) (q := (P.it, _)) (by k_mem) (by k_mem) dict_list
  have e3 : @Ne Nat P.b0 P.it := news_ne N (p := (P.b0, _)) (q := (P.it, _)) (by k_mem) (by k_mem) tuple_list
  have e4 : @Ne Nat P.b1 P.it := news_ne N (p := (P.b1, _)) (q := (P.it, _)) (by k_mem) (by k_mem) tuple_list
  have e5 : @Ne Nat P.bl P.it := hbl
  refine wpAny_call ?_
  k_dflt (refine' code_def ?k1 ?k2 ?k3 ?k4 ?k5 ?kA ?kF ?kK ?k6 ?k7 ?k8 ?k9 ?kB ?_ ?c2 ?c3 ?c4 ?c5; (case kA => exact rfl); (case kF => exact hef); (case kK => exact hek); (case k1 => k_asm); (case k2 => k_asm); (case k3 => k_asm); (case k4 => k_asm); (case k5 => k_asm); (case k6 => k_is); (case k7 => k_is); (case k8 => ktr_room); (case k9 => exact BindsTo.of_eq rfl); (case c5 => decide); (case kB => exact locs rfl); (case c2 => exact rfl); (case c3 => exact rfl); (case c4 => exact rfl); k_whole; intro g' L' h' FG' F' N' B' X' T'; (try dsimp only); (try k_lift B'); (try k_fold))
  repeat' (first 
    | (k_unfold; (try dsimp only)) | walk1 | (dsimp only; walk1) | fail "no step")
  refine Stop.mk ?_
  rename_i tk0 gl h8 lt1 wl cc h7 lt2 h6 tk9 td D0 h5 lt3 h4 h3 h2 h1 h0 F9 N9
  have ⟨m9, hm9, F8⟩ : ∃ m9, (∀ q ∈ [(Str.ofString "pile", Value.ref P.pi), (Str.ofString "is_last", Value.bool last), (Str.ofString "gave", Value.ref gl), (Str.ofString "lost", Value.int 0 tk0), (Str.ofString "waiting", Value.ref wl), (Str.ofString "due", Value.int ns.sum td)], m9 q.1 = some q.2) ∧ Fr g' L' h0 m9 := ⟨_, by kst_all, F9⟩
  clear F9
  refine While_inv2 (n₀ := fuel) (fun n m₁ nx => ∃ st wvs gvs vs wn gn nn tl tlo tdu, FallJ P pls pn pvs gl wl last ns.sum ns.length rest st' n m₁ nx st wvs gvs vs wn gn nn tl tlo tdu) F8 (news := (wl, listOf pvs.toArray cc) :: (gl, listOf ([] : List Value).toArray 0) :: (pls, listOf pvs.toArray pn) :: (P.it, listOf vs.toArray nn) :: (P.led ++ rest)) (news_sub N9 ?sub) ?start ?turn (by passes_own)
  case start => 
    refine ⟨⟨ns, 0, ps, []⟩, pvs, [], vs, cc, 0, nn, rest, tk0, td, ?_⟩
    constructor
    · rfl
    · exact hrun
    · exact hm9
    · exact hI
    · rfl
    · exact hD
    · exact .nil
    · exact hpl
    · exact Nat.zero_le _
    · intro q hq b hb
      simp only [List.mem_cons, List.not_mem_nil, or_false] at hb
      rcases hb with rfl | rfl | rfl
      · exact Nat.ne_of_lt (tb_ltOf lt2.2.2.2.2.2.2.2.2 q hq)
      · exact Nat.ne_of_lt (tb_ltOf lt1.2.2.2.2.2.2.2 q hq)
      · exact o1 q hq _ (.head _)
    · exact fun _ h => h
    · exact fun _ h => .inl h
  case sub => kst_allIn
  case turn =>
    clear F8 N9 hm9 hI hD hrun hpl hpv hsz N F
    rintro n m₁ nx h tk F₂ N₁ ⟨st, wvs, gvs, vs₁, wn, gn, nn₁, tl, tlo, tdu, J⟩
    obtain ⟨rfl, jrun, jnames, jint, jlen, jw, jg, jwl, jgl, joff, jsub, jnew⟩ := J
    have F₁ := fr_named jnames F₂
    clear F₂
    simp only [Pile.led, List.cons_append, List.nil_append] at N₁
    obtain ⟨sns, slost, swt, sgv⟩ := st
    dsimp only at jrun jnames jint jlen jw jg jwl jgl F₁
    clear jnames
    have alt1 : @LT.lt Nat _ gl wl := lt2.1
    have alt2 := lt1
    have alt3 := lt2.2
    clear lt1 lt2 lt3
    cases swt with
    | nil =>
      have e1 := dat_nil jw
      subst e1
      have e2 := run_nil jrun
      clear jrun
      repeat' (first 
        | (k_unfold; (try dsimp only)) | walk1 | (dsimp only; walk1) | fail "no step")
      rename_i l9 h9b lt9 D9 h9 F10 N10 lt10 kF kN Tc kX
      subst e2
      refine hret _ _ D9 gl gvs vs₁ gn nn₁ 0 tlo tl kF (news_sub kN ?subN) jint jlen jg jsub jnew ⟨fun o ho => tb_ltOf lt10.2.2.2.2.2.2.2.2.2.2 o (jsub o ho), lt10.2.2.2.2.1⟩ ⟨fun o ho => tb_ltOf alt2.2.2.2.2.2.2.2 o ho, alt2.2.1⟩
      case subN => kst_allIn
    | cons q r =>
      obtain ⟨n', st1, rfl, jturn, jrun'⟩ := run_cons jrun
      clear jrun
      repeat' (first 
        | (rename decide (List.map pdat (_ :: _) = []) = true => hab; simp at hab; done)
        | walk_at "mine assign"
        | (k_unfold; (try dsimp only)) | walk1 | (dsimp only; walk1) | fail "no step")
      refine Stop.mk ?_
      rename_i le9 he9 F10 N10 lte hab
      clear hab
      refine wpAny_mono (Q := fun f s' => Stop (∃ (h' : Heap) (tk' : Nat) (pl : Addr) (t u : Tok) (n2 : Nat) (wvs' : List Value) (m8 : Str → Option Value) (q0 : Int × Int) (w0 : List (Int × Int)), f = .next ∧ s' = { s with heap := h', toks := tk' } ∧
        (∀ q ∈ [(Str.ofString "place", Value.ref pl), (Str.ofString "pile", Value.ref P.pi), (Str.ofString "is_last", Value.bool last), (Str.ofString "gave", Value.ref gl), (Str.ofString "lost", Value.int slost tlo), (Str.ofString "waiting", Value.ref wl), (Str.ofString "due", Value.int ns.sum tdu)], m8 q.1 = some q.2) ∧ Fr g' L' h' m8 ∧
        News g' L' h' ((wl, listOf wvs'.toArray (wn + 1)) :: (gl, listOf gvs.toArray gn) :: (pls, listOf pvs.toArray pn) :: (P.it, listOf vs₁.toArray nn₁) :: (P.led ++ tl)) ∧
        (pl, tup2 q0.1 t q0.2 u n2) ∈ tl ∧ DatAll tl wvs' (w0.map pdat) ∧ w0.length ≤ 1000 ∧ turnAt P ns.sum ⟨sns, slost, q :: r, sgv⟩ q0 w0 = some st1)) ?mid ?aft (fun _ _ x => x)
      case mid =>
        cases last with
        | false =>
          obtain ⟨v, wvs', rfl, jv, jw'⟩ := dat_cons jw
          obtain ⟨pl, t, u, n2, rfl, jpl⟩ := dat_pair jv
          have jz : wvs'.length ≤ 2000 := by rw [DatAll.length jw', List.length_map]; simp only [List.length_cons] at jwl; omega
          repeat' (first 
            | walk_at "mine pop"
            | (k_unfold; (try dsimp only)) | walk1 | (dsimp only; walk1) | fail "no step")
          rename News g' L' _ _ => nE
          rename Fr g' L' _ _ => fE
          have ⟨m8, hm8, fE⟩ : ∃ m8, (∀ q ∈ [(Str.ofString "place", Value.ref pl), (Str.ofString "pile", Value.ref P.pi), (Str.ofString "is_last", Value.bool false), (Str.ofString "gave", Value.ref gl), (Str.ofString "lost", Value.int slost tlo), (Str.ofString "waiting", Value.ref wl), (Str.ofString "due", Value.int ns.sum tdu)], m8 q.1 = some q.2) ∧ Fr g' L' _ m8 := ⟨_, by kst_all, fE⟩
          simp only [Bool.false_eq_true, if_false] at jturn
          exact Stop.mk ⟨_, _, pl, t, u, n2, wvs', m8, q, r, by first | trivial | rfl, by first | trivial | rfl, hm8, fE, news_sub nE (by kst_allIn), jpl, jw', by simp only [List.length_cons] at jwl; omega, jturn⟩
        | true =>
          have jcut := List.dropLast_concat_getLast (l := q :: r) (by simp)
          rw [← jcut] at jw
          obtain ⟨v, wvs', rfl, jv, jw'⟩ := dat_last jw
          obtain ⟨pl, t, u, n2, rfl, jpl⟩ := dat_pair jv
          have jz : wvs'.length ≤ 2000 := by rw [DatAll.length jw', List.length_map]; simp only [List.length_dropLast, List.length_cons] at jwl ⊢; omega
          repeat' (first 
            | walk_at "mine pop"
            | (k_unfold; (try dsimp only)) | walk1 | (dsimp only; walk1) | fail "no step")
          rename News g' L' _ _ => nE
          rename Fr g' L' _ _ => fE
          have ⟨m8, hm8, fE⟩ : ∃ m8, (∀ q ∈ [(Str.ofString "place", Value.ref pl), (Str.ofString "pile", Value.ref P.pi), (Str.ofString "is_last", Value.bool true), (Str.ofString "gave", Value.ref gl), (Str.ofString "lost", Value.int slost tlo), (Str.ofString "waiting", Value.ref wl), (Str.ofString "due", Value.int ns.sum tdu)], m8 q.1 = some q.2) ∧ Fr g' L' _ m8 := ⟨_, by kst_all, fE⟩
          simp only [if_true] at jturn
          exact Stop.mk ⟨_, _, pl, t, u, n2, wvs', m8, _, _, by first | trivial | rfl, by first | trivial | rfl, hm8, fE, news_sub nE (by kst_allIn), jpl, jw', by simp only [List.length_dropLast, List.length_cons] at jwl ⊢; omega, jturn⟩
      case aft =>
        rintro f s' ⟨h', tk', pl, t, u, n2, wvs', m8, q0, w0, rfl, rfl, hm8, F8, N8, jpl, jw', jw0, jt⟩
        clear F10 N10 lte jw jwl jturn
        obtain ⟨k, hat, hcase⟩ := turn_cases jt
        clear jt
        have F7 := fr_named hm8 F8
        clear F8 hm8
        simp only [Pile.led, List.cons_append, List.nil_append] at N8
        have jL : P.Len sns := ⟨by rw [jlen]; exact hlen.size, by rw [jlen]; exact hlen.fit⟩
        dsimp only at hcase ⊢
        repeat' (first
          | walk_at "mine put"
          | (k_unfold; (try dsimp only)) | walk1 | (dsimp only; walk1) | fail "no step")
        refine Stop.mk ?_
        walk_at "put it"
        · (intro h' tk' vs' nn' hat'; rw [hat] at hat'; cases hat')
        rintro k' t' h2' tk2' vs' nn' hat' F6 N6 hi6
        rw [hat] at hat'
        cases hat'
        (try dsimp only at N6)
        (try k_fold)
        rcases hcase with ⟨hlt, rfl⟩ | ⟨hlt, hst, hsum, hw1, hg1⟩
        · repeat' (first
            | (rename ¬ (_ < 4) => hn4; exact absurd hlt hn4)
            | (k_unfold; (try dsimp only)) | walk1 | (dsimp only; walk1) | fail "no step")
          rename News g' L' _ _ => nE
          rename Fr g' L' _ _ => fE
          have jl9 : (sns.set k (sns.getD k 0 + 0)).length = ns.length := by rw [List.length_set]; exact jlen
          show WhileStep2 _ _ _ _ _ _ _ _
          unfold WhileStep2
          dsimp only
          refine ⟨_, _, _, (wl, listOf wvs'.toArray (wn + 1)) :: (gl, listOf gvs.toArray gn) :: (pls, listOf pvs.toArray pn) :: (P.it, listOf vs'.toArray nn') :: (P.led ++ tl), n', rfl, fE, news_sub nE (by kst_allIn), Nat.lt_succ_self _,
            ⟨sns.set k (sns.getD k 0 + 0), slost, w0, sgv⟩, wvs', gvs, vs', wn + 1, gn, nn', tl, tlo, tdu, ?_⟩
          constructor
          · rfl
          · exact jrun'
          · kst_all
          · exact hi6
          · exact jl9
          · exact jw'
          · exact jg
          · exact jw0
          · exact jgl
          · exact joff
          · exact jsub
          · exact jnew
        · repeat' (first
            | (rename _ < (4 : Int) => hn4; exact absurd hn4 hlt)
            | walk_at "mine put"
            | (k_unfold; (try dsimp only)) | walk1 | (dsimp only; walk1) | fail "no step")
          refine Stop.mk ?_
          walk_at "put it"
          · (intro h' tk' vs' nn' hat'; rw [hat] at hat'; cases hat')
          clear N6 F6 hi6
          rintro k' t' h3' tk3' vs'' nn'' hat' F6 N6 hi6
          rw [hat] at hat'
          cases hat'
          (try dsimp only at N6)
          (try k_fold)
          have jz1 : wvs'.length ≤ 2000 := by rw [DatAll.length jw', List.length_map]; omega
          have jz2 : gvs.length ≤ 2000 := by rw [DatAll.length jg, List.length_map]; omega
          repeat' (first
            | walk_at "mine append"
            | walk_at "mine beside"
            | (k_unfold; (try dsimp only)) | walk1 | (dsimp only; walk1) | fail "no step")
          refine Stop.mk ?_
          walk_at "beside it"
          intro h5' tk5' bl bn bvs T4 F5 N5 jT4 jlt4 jltb
          dsimp only
          have jb1 : @LT.lt Nat _ wl bl := jltb (wl, _) (List.mem_append.mpr (.inr (by k_mem)))
          have jb2 : @LT.lt Nat _ gl bl := jltb (gl, _) (List.mem_append.mpr (.inr (by k_mem)))
          have jb3 : @LT.lt Nat _ P.it bl := jltb (P.it, _) (List.mem_append.mpr (.inr (by k_mem)))
          have jo4 : OwnOff T4 [wl, gl, P.it] := by
            intro x hx b hb
            simp only [List.mem_cons, List.not_mem_nil, or_false] at hb
            rcases hb with hb | hb | hb
            · rw [hb]; exact Nat.ne_of_gt (jlt4 x hx (wl, _) (by k_mem))
            · rw [hb]; exact Nat.ne_of_gt (jlt4 x hx (gl, _) (by k_mem))
            · rw [hb]; exact Nat.ne_of_gt (jlt4 x hx (P.it, _) (by k_mem))
          have jn4 : ∀ x ∈ T4, NewAt rest P.it x.1 := fun x hx => ⟨fun o ho => jlt4 x hx o (by have := jsub o ho; kst_mem), jlt4 x hx (P.it, _) (by k_mem)⟩
          clear jlt4 jltb
          have jw2 : DatAll (T4 ++ tl) (wvs' ++ [Value.ref pl]) ((w0 ++ [q0]).map pdat) := by
            rw [List.map_append]
            exact DatAll.mono (fun x hx => List.mem_append.mpr (.inr hx)) (DatAll.append jw' (.cons (.tuple jpl (.cons (.int _ _) (.cons (.int _ _) .nil))) .nil))
          have jg2 : DatAll (T4 ++ tl) (gvs ++ [Value.ref pl]) ((sgv ++ [q0]).map pdat) := by
            rw [List.map_append]
            exact DatAll.mono (fun x hx => List.mem_append.mpr (.inr hx)) (DatAll.append jg (.cons (.tuple jpl (.cons (.int _ _) (.cons (.int _ _) .nil))) .nil))
          have jo5 : OwnOff (T4 ++ tl) [wl, gl, P.it] := fun x hx => (List.mem_append.mp hx).elim (jo4 x) (joff x)
          have jlen4 : bvs.length = 4 := by rw [DatAll.length jT4]; rfl
          refine kdl_iter (nn := bn) (vs := bvs) (m₀ := kstB m8 [(Str.ofString "place", Value.ref pl), (Str.ofString "pile", Value.ref P.pi), (Str.ofString "is_last", Value.bool last), (Str.ofString "gave", Value.ref gl), (Str.ofString "lost", Value.int slost tlo), (Str.ofString "waiting", Value.ref wl), (Str.ofString "due", Value.int ns.sum tdu)])
            (news := (bl, listOf bvs.toArray bn) :: (wl, listOf (wvs' ++ [Value.ref pl]).toArray (wn + 1 + 1)) :: (gl, listOf (gvs ++ [Value.ref pl]).toArray (gn + 1)) :: (pls, listOf pvs.toArray pn) :: (P.it, listOf vs''.toArray nn'') :: (P.led ++ (T4 ++ tl)))
            (fun i m nx => ∃ ns2 lost wt wvs2 vs2 wn2 nn2 tlo2 tdu2, GiveJ P pls pn pvs gl wl (gn + 1) (gvs ++ [Value.ref pl]) bl bn bvs last ns.sum ns.length (T4 ++ tl) q0 ⟨(sns.set k (sns.getD k 0 + 0)).set k ((sns.set k (sns.getD k 0 + 0)).getD k 0 + (0 - 4)), slost, w0 ++ [q0], sgv ++ [q0]⟩ (sgv ++ [q0]) i m nx ns2 lost wt wvs2 vs2 wn2 nn2 tlo2 tdu2)
            rfl (.head _) F5 (news_sub N5 ?sub) ?start ?turn ?done
          case sub =>
            intro x hx
            simp only [Pile.led, List.cons_append, List.nil_append, List.mem_cons, List.mem_append] at hx ⊢
            rcases hx with hx | hx | hx | hx | hx | hx | hx | hx | hx | hx | hx | hx <;> simp only [hx, true_or, or_true]
          case start =>
            refine ⟨(sns.set k (sns.getD k 0 + 0)).set k ((sns.set k (sns.getD k 0 + 0)).getD k 0 + (0 - 4)), slost, w0 ++ [q0], wvs' ++ [Value.ref pl], vs'', wn + 1 + 1, nn'', tlo, tdu, ?_⟩
            constructor
            · rfl
            · rfl
            · kst_all
            · exact hi6
            · simp only [List.length_set]; exact jlen
            · exact jw2
            · simp only [List.length_append, List.length_cons, List.length_nil]; omega
          case turn =>
            intro i v m₁ nx h tk own hv hoff hmem ⟨ns2, lost, wt, wvs2, vs2, wn2, nn2, tlo2, tdu2, G⟩ F₁ N₁
            obtain ⟨rfl, grun, gnames, gint, glen, gw, gwl⟩ := G
            have hi4 : i < 4 := by have := (List.getElem?_eq_some_iff.mp hv).1; omega
            have jT4' : DatAll T4 bvs ((beside q0).map pdat) := jT4
            obtain ⟨q1, hq1, gv⟩ := dat_at jT4' hv
            obtain ⟨al, t4, u4, n4, rfl, hal⟩ := dat_pair gv
            have F₂ : Fr g' L' h _ := fr_named (names_more (x := Str.ofString "other") (v := Value.ref al) gnames (by rfl)) F₁
            clear F₁ gnames hv gv
            obtain ⟨TT, hTT⟩ : ∃ TT, TT = (T4 ++ tl) ++ own := ⟨_, rfl⟩
            have N₂ : News g' L' h ((bl, listOf bvs.toArray bn) :: (wl, listOf wvs2.toArray wn2) :: (gl, listOf (gvs ++ [Value.ref pl]).toArray (gn + 1)) :: (pls, listOf pvs.toArray pn) :: (P.it, listOf vs2.toArray nn2) :: (P.led ++ TT)) := by
              have N₃ : News g' L' h _ := N₁
              rw [hTT]
              simpa only [Pile.led, List.cons_append, List.nil_append, List.append_assoc] using N₃
            simp only [Pile.led, List.cons_append, List.nil_append] at N₂
            clear N₁
            have jo6 : OwnOff TT [wl, gl, P.it] := by
              intro x hx b hb
              rw [hTT] at hx
              rcases List.mem_append.mp hx with hx | hx
              · exact jo5 x hx b hb
              · refine hoff x hx b ?_
                simp only [List.mem_cons, List.not_mem_nil, or_false] at hb
                simp only [List.map_cons, List.mem_cons]
                rcases hb with hb | hb | hb <;> simp only [hb, true_or, or_true]
            have hal' : (al, tup2 q1.1 t4 q1.2 u4 n4) ∈ TT := by rw [hTT]; exact List.mem_append.mpr (.inl (List.mem_append.mpr (.inl hal)))
            have hsubT : ∀ x ∈ T4 ++ tl, x ∈ TT := fun x hx => by rw [hTT]; exact List.mem_append.mpr (.inl hx)
            have hownT : ∀ x ∈ own, x ∈ TT := fun x hx => by rw [hTT]; exact List.mem_append.mpr (.inr hx)
            have gL : P.Len ns2 := ⟨by rw [glen]; exact hlen.size, by rw [glen]; exact hlen.fit⟩
            have jz3 : wvs2.length ≤ 2000 := by rw [DatAll.length gw, List.length_map]; omega
            repeat' (first
              | walk_at "mine put"
              | (k_unfold; (try dsimp only)) | walk1 | (dsimp only; walk1) | fail "no step")
            refine Stop.mk ?_
            walk_at "put it"
            · intro h6' tk6' vs3 nn3 hat6 F6 N6 gi6
              (try dsimp only at N6)
              (try k_fold)
              repeat' (first
                | (k_unfold; (try dsimp only)) | walk1 | (dsimp only; walk1) | fail "no step")
              rename News g' _ _ _ => nE
              rename Fr g' _ _ _ => fE
              have ⟨tl9, m7, hm7, fE'⟩ : ∃ tl9 m7, (∀ q ∈ [(Str.ofString "pile", Value.ref P.pi), (Str.ofString "is_last", Value.bool last), (Str.ofString "gave", Value.ref gl), (Str.ofString "lost", Value.int (lost + 1) tl9), (Str.ofString "waiting", Value.ref wl), (Str.ofString "due", Value.int ns.sum tdu2)], m7 q.1 = some q.2) ∧ Fr g' L' _ m7 := ⟨_, _, by kst_all, fE⟩
              refine InvEndG.intro (nx := (bl, listOf bvs.toArray bn) :: (wl, listOf wvs2.toArray wn2) :: (gl, listOf (gvs ++ [Value.ref pl]).toArray (gn + 1)) :: (pls, listOf pvs.toArray pn) :: (P.it, listOf vs3.toArray nn3) :: (P.led ++ (T4 ++ tl))) fE' nE
                ⟨.head _, ns2, lost + 1, wt, wvs2, vs3, wn2, nn3, tl9, tdu2, rfl, ?_, hm7, gi6, glen, gw, by omega⟩ hoff ?hn ?ho
              · rw [give_step grun hq1]; unfold giveOne; dsimp only; rw [hat6]
              case hn =>
                simp only [Pile.led, List.cons_append, List.nil_append]
                repeat' (first | (refine List.forall_mem_cons.mpr ⟨by k_memK, ?_⟩) | (intro x hx; have hx2 := hsubT x hx; kst_mem))
              case ho =>
                intro x hx
                have hx2 := hownT x hx
                kst_mem
            · intro k6 t6 h6' tk6' vs3 nn3 hat6 F6 N6 gi6
              (try dsimp only at N6)
              (try k_fold)
              repeat' (first
                | walk_at "mine append"
                | (k_unfold; (try dsimp only)) | walk1 | (dsimp only; walk1) | fail "no step")
              · rename 3 < _ => hgt
                rename News g' _ _ _ => nE
                rename Fr g' _ _ _ => fE
                have ⟨tl9, m7, hm7, fE'⟩ : ∃ tl9 m7, (∀ q ∈ [(Str.ofString "pile", Value.ref P.pi), (Str.ofString "is_last", Value.bool last), (Str.ofString "gave", Value.ref gl), (Str.ofString "lost", Value.int lost tl9), (Str.ofString "waiting", Value.ref wl), (Str.ofString "due", Value.int ns.sum tdu2)], m7 q.1 = some q.2) ∧ Fr g' L' _ m7 := ⟨_, _, by kst_all, fE⟩
                refine InvEndG.intro (nx := (bl, listOf bvs.toArray bn) :: (wl, listOf (wvs2 ++ [Value.ref al]).toArray (wn2 + 1)) :: (gl, listOf (gvs ++ [Value.ref pl]).toArray (gn + 1)) :: (pls, listOf pvs.toArray pn) :: (P.it, listOf vs3.toArray nn3) :: (P.led ++ (T4 ++ tl))) fE' nE
                  ⟨.head _, ns2.set k6 (ns2.getD k6 0 + 1), lost, (wt ++ [q1]), (wvs2 ++ [Value.ref al]), vs3, (wn2 + 1), nn3, tl9, tdu2, rfl, ?_, hm7, gi6, by rw [List.length_set]; exact glen, (by rw [List.map_append]; exact DatAll.append gw (.cons (.tuple (List.mem_append.mpr (.inl hal)) (.cons (.int _ _) (.cons (.int _ _) .nil))) .nil)), (by rw [List.length_append]; show _ + 1 ≤ _; omega)⟩ hoff ?hn ?ho
                · rw [give_step grun hq1]; unfold giveOne; dsimp only; rw [hat6]; dsimp only; rw [if_pos hgt]
                case hn =>
                  simp only [Pile.led, List.cons_append, List.nil_append]
                  repeat' (first | (refine List.forall_mem_cons.mpr ⟨by k_memK, ?_⟩) | (intro x hx; have hx2 := hsubT x hx; kst_mem))
                case ho =>
                  intro x hx
                  have hx2 := hownT x hx
                  kst_mem
              · rename ¬ 3 < _ => hgt
                rename News g' _ _ _ => nE
                rename Fr g' _ _ _ => fE
                have ⟨tl9, m7, hm7, fE'⟩ : ∃ tl9 m7, (∀ q ∈ [(Str.ofString "pile", Value.ref P.pi), (Str.ofString "is_last", Value.bool last), (Str.ofString "gave", Value.ref gl), (Str.ofString "lost", Value.int lost tl9), (Str.ofString "waiting", Value.ref wl), (Str.ofString "due", Value.int ns.sum tdu2)], m7 q.1 = some q.2) ∧ Fr g' L' _ m7 := ⟨_, _, by kst_all, fE⟩
                refine InvEndG.intro (nx := (bl, listOf bvs.toArray bn) :: (wl, listOf wvs2.toArray wn2) :: (gl, listOf (gvs ++ [Value.ref pl]).toArray (gn + 1)) :: (pls, listOf pvs.toArray pn) :: (P.it, listOf vs3.toArray nn3) :: (P.led ++ (T4 ++ tl))) fE' nE
                  ⟨.head _, ns2.set k6 (ns2.getD k6 0 + 1), lost, wt, wvs2, vs3, wn2, nn3, tl9, tdu2, rfl, ?_, hm7, gi6, by rw [List.length_set]; exact glen, gw, (by omega)⟩ hoff ?hn ?ho
                · rw [give_step grun hq1]; unfold giveOne; dsimp only; rw [hat6]; dsimp only; rw [if_neg hgt]
                case hn =>
                  simp only [Pile.led, List.cons_append, List.nil_append]
                  repeat' (first | (refine List.forall_mem_cons.mpr ⟨by k_memK, ?_⟩) | (intro x hx; have hx2 := hsubT x hx; kst_mem))
                case ho =>
                  intro x hx
                  have hx2 := hownT x hx
                  kst_mem
          case done =>
            intro m₁ nx h tk ⟨ns2, lost, wt, wvs2, vs2, wn2, nn2, tlo2, tdu2, G⟩ F₁ N₁
            obtain ⟨rfl, grun, gnames, gint, glen, gw, gwl⟩ := G
            have F₂ : Fr g' L' h _ := fr_named gnames F₁
            have N₂ : News g' L' h _ := N₁
            clear F₁ N₁ gnames jint hi6
            simp only [Pile.led, List.cons_append, List.nil_append] at N₂
            have hst2 : st1 = ⟨ns2, lost, wt, sgv ++ [q0]⟩ := by
              rw [hst, ← grun, jlen4]
              rfl
            clear hst grun
            subst hst2
            dsimp only at hsum hw1 hg1
            have gL : P.Len ns2 := ⟨by rw [glen]; exact hlen.size, by rw [glen]; exact hlen.fit⟩
            repeat' (first
              | (rename ¬ (_ = _) => hx; exact absurd hsum hx)
              | (rename _ ≠ _ => hx; exact absurd hsum hx)
              | (k_unfold; (try dsimp only)) | walk1 | (dsimp only; walk1) | fail "no step")
            rename News g' L' _ _ => nE
            rename Fr g' L' _ _ => fE
            refine' sumK (vs := vs2) rfl fE nE ⟨_, (nE (P.it, listOf vs2.toArray nn2) (by k_mem)).1, rfl, _, rfl⟩ gint ?_
            clear nE fE
            intro h' tk' t' F' N'
            dsimp only
            repeat' (first
              | (rename ¬ (_ = _) => hx; exact absurd hsum hx)
              | (rename _ ≠ _ => hx; exact absurd hsum hx)
              | (k_unfold; (try dsimp only)) | walk1 | (dsimp only; walk1) | fail "no step")
            rename News g' L' _ _ => nE
            rename Fr g' L' _ _ => fE
            show WhileStep2 _ _ _ _ _ _ _ _
            unfold WhileStep2
            dsimp only
            refine ⟨_, _, _, (wl, listOf wvs2.toArray wn2) :: (gl, listOf (gvs ++ [Value.ref pl]).toArray (gn + 1)) :: (pls, listOf pvs.toArray pn) :: (P.it, listOf vs2.toArray nn2) :: (P.led ++ (T4 ++ tl)), n', rfl, fE, news_sub nE ?subE, Nat.lt_succ_self _,
              ⟨ns2, lost, wt, sgv ++ [q0]⟩, wvs2, gvs ++ [Value.ref pl], vs2, wn2, gn + 1, nn2, T4 ++ tl, tlo2, tdu2, ?_⟩
            case subE =>
              intro x hx
              simp only [Pile.led, List.cons_append, List.nil_append, List.mem_cons, List.mem_append] at hx ⊢
              rcases hx with hx | hx | hx | hx | hx | hx | hx | hx | hx | hx | hx <;> simp only [hx, true_or, or_true]
            constructor
            · rfl
            · exact jrun'
            · kst_all
            · exact gint
            · exact glen
            · exact gw
            · exact jg2
            · exact hw1
            · exact hg1
            · exact jo5
            · exact fun x hx => List.mem_append.mpr (.inr (jsub x hx))
            · exact fun x hx => (List.mem_append.mp hx).elim (fun h4 => .inr (jn4 x h4)) (jnew x)
end Mine
namespace Mine
/-- a sort's questions answered by a plain function, each within the list -/
def runO {α : Type} (n : Nat) (f : Nat → Nat → Bool) : KasT α → Option α
  | .ret a => some a
  | .ask i j k => if i < n ∧ j < n then runO n f (k (f i j)) else none
theorem runO_wp {α : Type} {n : Nat} {f : Nat → Nat → Bool} {cmp : Nat → Nat → (Bool → Shared → Prop) → Shared → Prop} {Q : α → Shared → Prop} {s : Shared}
    (hc : ∀ i j (C : Bool → Shared → Prop), i < n → j < n → C (f i j) s → cmp i j C s) : ∀ (t : KasT α) (a : α), runO n f t = some a → Q a s → t.kasWp cmp Q s
  | .ret a, b, e, h => by
    simp only [runO] at e
    cases e
    exact h
  | .ask i j k, b, e, h => by
    simp only [runO] at e
    split at e
    · rename_i hij
      exact hc i j _ hij.1 hij.2 (runO_wp hc (k (f i j)) b e h)
    · cases e
def pairLt (a b : Int × Int) : Bool := if a.1 = b.1 then (if a.2 = b.2 then false else decide (a.2 < b.2)) else decide (a.1 < b.1)
def sortO (l : List (Int × Int)) : Option (List (Int × Int)) :=
  if l.length < 2 then some l else
    match runO l.length (fun i j => pairLt (l.getD i (0, 0)) (l.getD j (0, 0))) (kas_sort l.length) with
    | none => none
    | some p => if p.toList.all (fun i => decide (i < l.length)) = true then some (p.toList.map fun i => l.getD i (0, 0)) else none
theorem dat_getD {news : List (Addr × Obj)} {l : List (Int × Int)} {vs : List Value} {i : Nat} (h : DatAll news vs (l.map pdat)) (hi : i < l.length) : DatIn news (vs.getD i .none) (pdat (l.getD i (0, 0))) := by
  have hv : i < vs.length := by rw [DatAll.length h, List.length_map]; exact hi
  obtain ⟨q, e, hq⟩ := dat_at h (List.getElem?_eq_getElem hv)
  rw [List.getD_eq_getElem?_getD, List.getElem?_eq_getElem hv, List.getD_eq_getElem?_getD, e]
  exact hq
theorem dat_picks {news : List (Addr × Obj)} {l : List (Int × Int)} {vs : List Value} (h : DatAll news vs (l.map pdat)) : ∀ p : List Nat, (∀ i ∈ p, i < l.length) → DatAll news (p.map fun i => vs.getD i .none) ((p.map fun i => l.getD i (0, 0)).map pdat)
  | [], _ => .nil
  | i :: p, hi => .cons (dat_getD h (hi i (.head _))) (dat_picks h p fun j hj => hi j (.tail _ hj))
section
variable {prog : Program} {w : World} {A : Around} {E : Value → Shared → Prop} {s : Shared} {h₀ : Heap} {L l : Addr} {m : Str → Option Value} {news pool : List (Addr × Obj)} {vs : List Value} {ps qs : List (Int × Int)} {n : Nat}
theorem pair_ask {h : Heap} {Q : Bool → Shared → Prop} (hd : ∀ p ∈ pool, h.get? p.1 = some p.2) (hD : DatAll pool vs (ps.map pdat)) {i j : Nat} (hi : i < ps.length) (hj : j < ps.length) (hs : s.heap = h)
    (hq : Q (pairLt (ps.getD i (0, 0)) (ps.getD j (0, 0))) s) : kas_ask prog w A (tuples' true) vs i j Q s := by
  unfold kas_ask
  obtain ⟨a, t, u, k, e1, m1⟩ := dat_pair (dat_getD hD hi)
  obtain ⟨b, t', u', k', e2, m2⟩ := dat_pair (dat_getD hD hj)
  rw [e1, e2]
  generalize ps.getD i (0, 0) = x at *
  generalize ps.getD j (0, 0) = y at *
  refine kat_lt (hs ▸ hd _ m1) rfl (hs ▸ hd _ m2) rfl ?_
  show KatLex prog w A true false Q [(.int x.1 t, .int y.1 t'), (.int x.2 u, .int y.2 u')] 0 s
  unfold pairLt at hq
  refine kat_cons (wpAny_eqBool_int ?_)
  by_cases h1 : x.1 = y.1
  · rw [if_pos h1] at hq
    rw [show (x.1 == y.1) = true by simpa using h1]
    refine kat_yes (kat_cons (wpAny_eqBool_int ?_))
    by_cases h2 : x.2 = y.2
    · rw [if_pos h2] at hq
      rw [show (x.2 == y.2) = true by simpa using h2]
      exact kat_yes (kat_nil hq)
    · rw [if_neg h2] at hq
      rw [show (x.2 == y.2) = false by simpa using h2]
      refine kat_no ?_
      show wpAny (model prog w) A (oneLt' false _ _) Q _ s
      exact kat_one _ _ (PyProof.Rows.lt_int hq)
  · rw [if_neg h1] at hq
    rw [show (x.1 == y.1) = false by simpa using h1]
    refine kat_no ?_
    show wpAny (model prog w) A (oneLt' true _ _) Q _ s
    exact oneLt_int hq
theorem pair_tups {h : Heap} (hd : ∀ p ∈ pool, h.get? p.1 = some p.2) : ∀ {ps : List (Int × Int)} {vs : List Value}, DatAll pool vs (ps.map pdat) → ∃ fs, KatTups h vs fs ∧ fs.length = ps.length ∧ ∀ v ∈ fs, ∃ i t, v = .int i t
  | [], vs, hD => by rw [dat_nil hD]; exact ⟨[], .nil, rfl, fun _ h => (nomatch h)⟩
  | q :: r, vs, hD => by
    obtain ⟨v, vs', rfl, h1, h2⟩ := dat_cons hD
    obtain ⟨a, t, u, k, rfl, hm⟩ := dat_pair h1
    obtain ⟨fs, t1, t2, t3⟩ := pair_tups hd h2
    refine ⟨.int q.1 t :: fs, .cons (hd _ hm) rfl rfl rfl t1, by rw [List.length_cons, List.length_cons, t2], fun v hv => ?_⟩
    rcases List.mem_cons.mp hv with rfl | hv
    · exact ⟨_, _, rfl⟩
    · exact t3 v hv
/-- a list of one item sorted -/
theorem sort_one {Q : Value → Shared → Prop} {v : Value} (F : Fr h₀ L s.heap m) (N : News h₀ L s.heap news) (hl : s.heap.IsList l [v].toArray)
    (h : ∀ D c h', Fr h₀ L h' m → News h₀ L h' ((D, listOf [v].toArray c) :: news) → (∀ q ∈ news, q.1 < D) → Q (.ref D) { s with heap := h' }) :
    wpAny (model prog w) A (call (.builtin "sorted") [.ref l]) Q E s := by
  refine Calls.call_function_entry kind_sorted plain_sorted entry_sorted (args_sorted1 _) ?_
  unfold Builtin.«sorted»
  refine wpAny_bind (m := checkCount "sorted" 1 1 _) (wpAny_pure ?_)
  refine wpAny_bind (collect_list hl ?_ (by rw [sizeLine_eq]; exact Nat.le_of_ble_eq_true rfl))
  refine wpAny_bind (wpAny_newList ?_ (by rw [sizeLine_eq]; exact Nat.le_of_ble_eq_true rfl))
  have hsz : ((s.heap.push (seqObj "list" #[] 0)).update s.heap.objs.size (Obj.mapSeq (· ++ [v].toArray))).objs.size = s.heap.objs.size + 1 := by
    rw [Heap.size_update, size_push']
  generalize hh1 : (s.heap.push (seqObj "list" #[] 0)).update s.heap.objs.size (Obj.mapSeq (· ++ [v].toArray)) = g1 at hsz
  have keep1 : ∀ b o, s.heap.get? b = some o → g1.get? b = some o := fun b o q => by
    have hlt : b < s.heap.objs.size := Heap.lt_size q
    rw [← hh1, Heap.get?_update_ne _ _ _ _ (Nat.ne_of_lt hlt), Heap.get?_push_ne _ _ _ (Nat.ne_of_lt hlt)]
    exact q
  have hoL : (g1.push (seqObj "list" [v].toArray 0)).get? (s.heap.objs.size + 1) = some (seqObj "list" [v].toArray 0) := by
    rw [← hsz]; exact Heap.get?_push_size _ rfl
  have keep : ∀ b o, s.heap.get? b = some o → (g1.push (seqObj "list" [v].toArray 0)).get? b = some o := fun b o q => Heap.get?_push_of_some _ (keep1 b o q)
  have hL : L < s.heap.objs.size := F.ns.lt
  show wpAny _ _ _ _ _ { s with heap := g1.push (seqObj "list" [v].toArray 0) }
  rw [hsz]
  have F2 := F.kept keep
  have N2 := N.grown keep
  have aL : s.heap.objs.size + 1 ≠ L := Nat.ne_of_gt (Nat.lt_succ_of_lt hL)
  have a0 : h₀.get? (s.heap.objs.size + 1) = none := Heap.get?_none_of_le (Nat.le_trans F.above (Nat.le_succ_of_le (Nat.le_of_lt hL)))
  have above : ∀ q ∈ news, q.1 < s.heap.objs.size + 1 := fun q hq => Nat.lt_succ_of_lt (Heap.lt_size (N q hq).1)
  refine wpAny_bind (wpAny_holding (wpAny_call_entry slot_list_sort ⟨_, hoL, rfl⟩ entry_list_sort ?body (args_list_sort _)))
  generalize g1.push (seqObj "list" [v].toArray 0) = g2 at *
  generalize s.heap.objs.size + 1 = a at *
  have s1 := Heap.SameBut.update g2 a (Obj.mapSeq fun _ => (#[] : Array Value))
  obtain ⟨e1, ho1⟩ : ∃ e1, (g2.update a (Obj.mapSeq fun _ => (#[] : Array Value))).get? a = some (seqObj "list" #[] e1) := ⟨_, get?_update_seq hoL fun _ => #[]⟩
  have hna : ∀ p ∈ news, p.1 ≠ a := fun p hp => Nat.ne_of_lt (above p hp)
  have F3 := ((kas_fr F2 s1 aL a0).push (seqObj "tuple" [v].toArray 0)).push (seqObj "list" #[] 0)
  have N3 : News h₀ L (((g2.update a (Obj.mapSeq fun _ => (#[] : Array Value))).push (seqObj "tuple" [v].toArray 0)).push (seqObj "list" #[] 0)) news :=
    (kas_news N2 s1 hna).grown fun b x e => Heap.get?_push_of_some _ (Heap.get?_push_of_some _ e)
  have ho3 : (((g2.update a (Obj.mapSeq fun _ => (#[] : Array Value))).push (seqObj "tuple" [v].toArray 0)).push (seqObj "list" #[] 0)).get? a = some (seqObj "list" #[] e1) := Heap.get?_push_of_some _ (Heap.get?_push_of_some _ ho1)
  rw [list_sort_plain]
  refine wpAny_bind (listItems_at hoL rfl ?_)
  refine wpAny_bind (listUpdate_at hoL rfl ?_ (by rw [sizeLine_eq]; exact Nat.le_of_ble_eq_true rfl) (Nat.zero_le _))
  refine wpAny_bind (seqEpoch_at ho1 rfl ?_)
  refine wpAny_bind (wpAny_newTuple ?_ (by rw [sizeLine_eq]; exact Nat.le_of_ble_eq_true rfl))
  refine wpAny_bind (wpAny_newList ?_ (Nat.zero_le _))
  refine wpAny_holding ?_
  show wpAny (model prog w) A.in1.in1 _ _ E { s with heap := ((g2.update a (Obj.mapSeq fun _ => (#[] : Array Value))).push (seqObj "tuple" [v].toArray 0)).push (seqObj "list" #[] 0) }
  generalize ((g2.update a (Obj.mapSeq fun _ => (#[] : Array Value))).push (seqObj "tuple" [v].toArray 0)).push (seqObj "list" #[] 0) = g3 at *
  dsimp only
  have h12 : #[v].size < 2 := Nat.lt_succ_self 1
  rw [if_pos h12]
  refine wpAny_bind (wpAny_pure ?_)
  rw [if_pos h12]
  refine wpAny_bind (m := pure ((), _)) (wpAny_pure ?_)
  dsimp only
  have hout : (arrOf (SortSt.mk' general' (#[v].zip #[v]) #[] 7 none)).map (fun x => x.2) = [v].toArray := by
    rw [show arrOf (SortSt.mk' general' (#[v].zip #[v]) #[] 7 none) = #[v].zip #[v] from rfl]
    simp
  rw [hout]
  have s2 := Heap.SameBut.update g3 a (Obj.mapSeq fun _ => [v].toArray)
  obtain ⟨c2, hc2⟩ : ∃ c2, (g3.update a (Obj.mapSeq fun _ => [v].toArray)).get? a = some (seqObj "list" [v].toArray c2) := ⟨_, get?_update_seq ho3 fun _ => [v].toArray⟩
  refine wpAny_bind (seqEpoch_at ho3 rfl ?_)
  refine wpAny_bind (listUpdate_at ho3 rfl ?_ (Nat.zero_le _) (by rw [sizeLine_eq]; exact Nat.le_of_ble_eq_true rfl))
  simp only [bne_self_eq_false, Bool.false_eq_true, if_false]
  refine wpAny_pure ?_
  refine ⟨_, rfl, wpAny_pure ⟨_, rfl, h a c2 _ (kas_fr F3 s2 aL a0) (fun p hp => ?_) above⟩⟩
  rcases List.mem_cons.mp hp with rfl | hp
  · exact ⟨hc2, aL, a0⟩
  · exact kas_news N3 s2 hna p hp
/-- sorted of a list of pairs -/
theorem sort_pairs {Q : Value → Shared → Prop} (F : Fr h₀ L s.heap m) (N : News h₀ L s.heap news) (hm : (l, listOf vs.toArray n) ∈ news) (hD : DatAll pool vs (ps.map pdat)) (hp : ∀ q ∈ pool, q ∈ news) (h1 : 1 ≤ ps.length) (h64 : ps.length < 64) (hs : sortO ps = some qs)
    (h : ∀ (D : Addr) (c : Nat) h' vs', Fr h₀ L h' m → News h₀ L h' ((D, listOf vs'.toArray c) :: news) → DatAll pool vs' (qs.map pdat) → (∀ q ∈ news, @LT.lt Nat _ q.1 D) → Q (.ref D) { s with heap := h' }) :
    wpAny (model prog w) A (call (.builtin "sorted") [.ref l]) Q E s := by
  have hlen : vs.length = ps.length := by rw [DatAll.length hD, List.length_map]
  have hl : s.heap.IsList l vs.toArray := ⟨_, (N _ hm).1, rfl, n, rfl⟩
  by_cases h2 : ps.length < 2
  · unfold sortO at hs
    rw [if_pos h2] at hs
    cases hs
    obtain ⟨v, rfl⟩ : ∃ v, vs = [v] := List.length_eq_one_iff.mp (by omega)
    exact sort_one F N hl fun D c h' F' N' hlt => h D c h' [v] F' N' hD hlt
  · unfold sortO at hs
    rw [if_neg h2] at hs
    split at hs
    · cases hs
    · rename_i p hrun
      split at hs
      · rename_i hall
        cases hs
        refine kat_sorted F N hl (by omega) (by omega) fun D e1 h' F' N' hlt => ?_
        have hd : ∀ p ∈ pool, h'.get? p.1 = some p.2 := fun p hp' => (N' p (.tail _ (hp p hp'))).1
        obtain ⟨fs, t1, t2, t3⟩ := pair_tups hd hD
        refine kat_kind (T := .type "int") t1 (by omega) (fun v hv => ?_) (by decide) ?_
        · obtain ⟨i, t, rfl⟩ := t3 v hv
          exact .now
        · show (kas_sort vs.length).kasWp (kas_ask prog w A.in1.in1 (tuples' true) vs) _ _
          rw [hlen]
          refine runO_wp (fun i j C hi hj hC => ?_) _ p hrun ?_
          · exact pair_ask hd hD hi hj rfl hC
          · refine KasFin.intro F' N' (.head ?_) fun h'' c F'' N'' => ?_
            · exact fun p hp' => Nat.ne_of_lt (hlt p hp')
            · exact h D c h'' _ F'' N'' (dat_picks hD _ fun i hi => by simpa using List.all_eq_true.mp hall i hi) hlt
      · cases hs
end
end Mine
namespace Mine
/-- all objects of a pool are tuples -/
def Tups (pool : List (Addr × Obj)) : Prop := ∀ q ∈ pool, q.2.cls = .type "tuple"
theorem Tups.nil : Tups [] := fun _ h => (nomatch h)
theorem Tups.cons {a : Addr} {r c : Int} {t u : Tok} {n : Nat} {pool : List (Addr × Obj)} (h : Tups pool) : Tups ((a, tup2 r t c u n) :: pool) := List.forall_mem_cons.mpr ⟨rfl, h⟩
theorem Tups.append {p q : List (Addr × Obj)} (h : Tups p) (k : Tups q) : Tups (p ++ q) := List.forall_mem_append.mpr ⟨h, k⟩
/-- no object of a pool of tuples lies where an object of another class lies -/
theorem Tups.off {h₀ h : Heap} {L : Addr} {news pool : List (Addr × Obj)} (N : News h₀ L h news) (hp : ∀ q ∈ pool, q ∈ news) (T : Tups pool) {a : Addr} {o : Obj} (ha : (a, o) ∈ news) (ho : Value.type "tuple" ≠ o.cls) : ∀ q ∈ pool, q.1 ≠ a :=
  fun q hq e => ho (by rw [← T q hq]; exact congrArg (fun x : Addr × Obj => x.2.cls) (news_one N (hp q hq) ha e))
/-- of a ledger that bears places, the tuples alone -/
theorem dat_pool {tl : List (Addr × Obj)} : ∀ {l : List (Int × Int)} {vs : List Value}, DatAll tl vs (l.map pdat) → ∃ pool, (∀ q ∈ pool, q ∈ tl) ∧ Tups pool ∧ DatAll pool vs (l.map pdat)
  | [], vs, h => ⟨[], fun _ h => (nomatch h), Tups.nil, by rw [dat_nil h]; exact .nil⟩
  | q :: r, vs, h => by
    obtain ⟨v, vs', rfl, h1, h2⟩ := dat_cons h
    obtain ⟨a, t, u, n, rfl, hm⟩ := dat_pair h1
    obtain ⟨pool, p1, p2, p3⟩ := dat_pool h2
    refine ⟨(a, tup2 q.1 t q.2 u n) :: pool, List.forall_mem_cons.mpr ⟨hm, p1⟩, p2.cons, .cons (.tuple (.head _) (.cons (.int _ _) (.cons (.int _ _) .nil))) (p3.mono fun _ hx => .tail _ hx)⟩
theorem off1_mem {D : Addr} : ∀ {l : List (Addr × Obj)}, LCg.Off1 D l → ∀ p ∈ l, @Ne Nat p.1 D
  | [], _, _, h => nomatch h
  | _ :: _, x, p, h => by
    rcases List.mem_cons.mp h with rfl | h
    · exact x.1
    · exact off1_mem x.2 p h
section
variable {prog : Program} {w : World} {A : Around} {h₀ : Heap} {L : Addr} {m : Str → Option Value} {env : Env} {elt : PySem.Expr} {x : Str} {scope : Scope} {cl : List (Str × Addr)} {s : Shared} {S : List (Addr × Obj) → Prop} {P : Nat → Value → Prop} {Fin : List Value → List (Addr × Obj) → Prop} {base : List (Addr × Obj)}
/-- what a turn's element must be -/
def PairEl (q : Int × Int) (news : List (Addr × Obj)) (y : Value) (news' : List (Addr × Obj)) : Prop := ∃ a t u n, y = .ref a ∧ news' = (a, tup2 q.1 t q.2 u n) :: news ∧ ∀ o ∈ news, @LT.lt Nat _ o.1 a
/-- a comprehension over a range whose elements are new pairs -/
theorem kcp_range {n : Nat} {a : Int} (g : Int → Int × Int)
    (turn : ∀ k t I oI C oC D m₂ ys h tk tl (E' : Value → Shared → Prop), a ≤ k → k < a + (n : Int) → LCg.NsObj oC m₂ → m₂ x = some (.int k t) → Fr h₀ L h m → News h₀ L h ((I, oI) :: (C, oC) :: (D, LCg.lst ys) :: (tl ++ base)) → LCg.Off3 I C D (tl ++ base) → ((@Ne Nat I C) ∧ (@Ne Nat I D) ∧ (@Ne Nat C D)) →
      wpAny (model prog w) A (eval elt (compEnvC scope cl C env)) (LCg.CompEnd h₀ L m { s with heap := h, toks := tk } I oI C oC D (LCg.lst ys) S (PairEl (g k) (tl ++ base))) E' { s with heap := h, toks := tk })
    (fin : ∀ ys tl, Tups tl → (∀ q ∈ tl, ∀ o ∈ base, @LT.lt Nat _ o.1 q.1) → DatAll tl ys (((rangeKs a n).map g).map pdat) → Fin ys (tl ++ base)) : LCg.CompRest prog w A h₀ L m env elt x scope cl s S (fun i v => ∃ t, v = .int (a + (i : Int)) t) Fin n 0 [] base := by
  have key : ∀ (j i : Nat) (ys : List Value) (tl : List (Addr × Obj)), i + j = n → Tups tl → (∀ q ∈ tl, ∀ o ∈ base, @LT.lt Nat _ o.1 q.1) → DatAll tl ys ((((rangeKs a n).take i).map g).map pdat) → LCg.CompRest prog w A h₀ L m env elt x scope cl s S (fun i v => ∃ t, v = .int (a + (i : Int)) t) Fin j i ys (tl ++ base) := by
    intro j
    induction j with
    | zero =>
      intro i ys tl hi ht hlt hy
      have e : i = (rangeKs a n).length := by rw [rangeKs_length]; omega
      rw [e, List.take_length] at hy
      exact LCg.CompRest.zero (fin ys tl ht hlt hy)
    | succ j ih =>
      intro i ys tl hi ht hlt hy
      refine LCg.CompRest.succ ?_
      rintro v I oI C oC D m₂ h tk E' ⟨t, rfl⟩ hC hx F N off ne
      refine wpAny_mono (turn (a + (i : Int)) t I oI C oC D m₂ ys h tk tl E' (by omega) (by omega) hC hx F N off ne) (fun y s₂ hq => ?_) fun _ _ e => e
      obtain ⟨h', tk', nw, e, F', N', off', hS, a', t', u', n', hy', hn, ha⟩ := hq
      rw [hn] at N' off' hS
      refine ⟨h', tk', _, e, F', N', off', hS, ?_⟩
      rw [hy', ← List.cons_append]
      refine ih (i + 1) _ _ (by omega) ht.cons (List.forall_mem_cons.mpr ⟨fun o ho => ha o (List.mem_append.mpr (.inr ho)), hlt⟩) ?_
      have hk : (rangeKs a n)[i]? = some (a + (i : Int)) := by
        have : i < n := by omega
        simp [rangeKs, this]
      rw [List.take_add_one, hk]
      simp only [Option.toList_some, List.map_append, List.map_cons, List.map_nil]
      exact DatAll.append (hy.mono fun _ hx => .tail _ hx) (.one (.tuple (.head _) (.cons (.int _ _) (.cons (.int _ _) .nil))))
  exact key n 0 [] [] (by omega) Tups.nil (fun _ h => (nomatch h)) (by simp only [List.take_zero, List.map_nil]; exact .nil)
end
end Mine
namespace Mine
section
variable {prog : Program} {w : World} {A : Around} {E : Value → Shared → Prop} {s : Shared} {h₀ : Heap} {L l : Addr} {news pool : List (Addr × Obj)} {us : List Value} {ps : List (Int × Int)} {n : Nat} {Q : Value → Shared → Prop}
/-- a place of a list of places -/
theorem place_item {value slice : PySem.Expr} {k : Int} {u : Tok} (N : News h₀ L s.heap news) (hm : (l, listOf us.toArray n) ∈ news) (hd : DatAll pool us (ps.map pdat))
    (h0 : 0 ≤ k) (h1 : k < (us.length : Int)) (hfit : us.length ≤ 1000) (h : ∀ a, DatIn pool (.ref a) (pdat (ps.getD k.toNat (0, 0))) → Q (.ref a) s)
    (hs : subscripted slice false (.ref l) (.int k u) = operate [.ref l, .int k u] (getItem (.ref l) (.int k u))) :
    wpAny (model prog w) A (subscriptTail value slice (.ref l) (.int k u)) Q E s := by
  have hl : s.heap.IsList l us.toArray := ⟨_, (N _ hm).1, rfl, n, rfl⟩
  have hlen : us.length = ps.length := by rw [DatAll.length hd, List.length_map]
  have hi : k.toNat < us.length := by omega
  have hD := dat_getD hd (i := k.toNat) (by omega)
  obtain ⟨a, t, u', m, e, _⟩ := dat_pair hD
  rw [e] at hD
  refine tail_any hl.typeIs slot_list_getitem.lookup (wpAny_getItem_list (x := .ref a) hl h0 (by omega) ?_ (h a hD)) hs
  rw [List.getD_eq_getElem?_getD, List.getElem?_eq_getElem hi] at e
  rw [List.getElem?_toArray, List.getElem?_eq_getElem hi]
  exact congrArg some e
theorem list_len (N : News h₀ L s.heap news) (hm : (l, listOf us.toArray n) ∈ news) (hfit : us.length ≤ 1000)
    (h : Q (.int (us.length : Int) (s.toks + 1)) { s with toks := s.toks + 1 + 1 }) : wpAny (model prog w) A (call (.builtin "len") [.ref l]) Q E s := by
  have hl : s.heap.IsList l us.toArray := ⟨_, (N _ hm).1, rfl, n, rfl⟩
  have e : us.toArray.size = us.length := List.size_toArray ..
  exact len_list hl (by rw [e]; omega) (by rw [e]; exact h)
theorem dat_rep {v : Value} {d : Dat} (h : DatIn pool v d) : ∀ n : Nat, DatAll pool (List.replicate n v) (List.replicate n d)
  | 0 => .nil
  | n + 1 => .cons h (dat_rep h n)
variable {m : Str → Option Value} {l' : Addr} {ws : List Value} {k : Nat}
theorem list_mul {v : Value} {x : Int} {u : Tok} (F : Fr h₀ L s.heap m) (N : News h₀ L s.heap news) (hm : (l, listOf [v].toArray n) ∈ news) (h0 : 0 ≤ x) (h1 : x ≤ 9)
    (h : ∀ D h', Fr h₀ L h' m → News h₀ L h' ((D, listOf (List.replicate x.toNat v).toArray 0) :: news) → AllLt D news → Q (.ref D) { s with heap := h' }) : wpAny (model prog w) A (binaryOp .Mult (.ref l) (.int x u)) Q E s := by
  have hl : s.heap.IsList l [v].toArray := ⟨_, (N _ hm).1, rfl, n, rfl⟩
  exact KMa.mul F N hl (by omega) (by omega) (by rw [List.length_singleton]; omega) List.flatten_replicate_singleton fun D h' F' N' lt => h D h' F' N' (allLt_of lt)
theorem list_add (F : Fr h₀ L s.heap m) (N : News h₀ L s.heap news) (hm : (l, listOf us.toArray n) ∈ news) (hm' : (l', listOf ws.toArray k) ∈ news) (hz : us.length ≤ 1000) (hz' : ws.length ≤ 1000)
    (h : ∀ D h', Fr h₀ L h' m → News h₀ L h' ((D, listOf (us ++ ws).toArray 0) :: news) → AllLt D news → Q (.ref D) { s with heap := h' }) : wpAny (model prog w) A (binaryOp .Add (.ref l) (.ref l')) Q E s := by
  have hl : s.heap.IsList l us.toArray := ⟨_, (N _ hm).1, rfl, n, rfl⟩
  have hl' : s.heap.IsList l' ws.toArray := ⟨_, (N _ hm').1, rfl, k, rfl⟩
  exact add_lists (hsz := by rw [sizeLine_eq]; omega) F N hl hl' fun h' F' N' => h _ h' F' N' (allLt_of fun p hp => Heap.lt_size (N p hp).1)
end
end Mine
namespace Mine
local macro_rules | `(tactic| k_room) => `(tactic| ktr_room)
local macro_rules | `(tactic| k_units) => `(tactic| ktr_units)
local macro_rules | `(tactic| walk_at "exec For Tuple Name cons nil") => `(tactic| (k_here; (rename Fr _ _ _ _ => lF'); (with_unfolding_all refine' For_turns lF' ?_; k_whole)))
local macro_rules | `(tactic| walk_at "mine mul") => `(tactic| ((with_reducible show wpAny _ _ (binaryOp Operator.Mult (Value.ref _) (Value.int _ _)) _ _ _); refine Stop.out ?_))
set_option maxRecDepth 100000 in
set_option maxHeartbeats 8000000 in
theorem array_spec {w : World} {p : Program} {loose : List Str} {mean : ExcName → Option Value} {mg mb : Str → Option Value}
  {A : Around} {env : Env} {outer : List Env} {A₀ : Around} {base h₀ : Heap} {L : Addr} {m : Str → Option Value} {s : Shared} {Q E : Value → Shared → Prop}
  {bl b0 b1 : Addr} {r c low k : Int} {t1 t2 t3 t4 u1 u2 u3 : Tok} {n0 n1 n2 : Nat} {news : List (Addr × Obj)}
  (B : Below A₀ base outer h₀) (F : Fr h₀ L s.heap m) (X : (hd.heap_39 w.params).In h₀) (N : News h₀ L s.heap news)
  (T : Top p loose mean mg mb h₀)
  (hh : A.handled = none) (hA : A.frames = some (env :: outer)) (hef : env.frame = some L) (hek : env.scope.kind = .function)
  (hbl : (bl, listOf [Value.ref b0, Value.ref b1].toArray n0) ∈ news) (hb0 : (b0, tup2 low t1 (low + r - 1) t2 n1) ∈ news) (hb1 : (b1, tup2 1 t3 c t4 n2) ∈ news)
  (hrc : 0 ≤ r * c ∧ r * c ≤ 6) (hr1 : 1 ≤ r) (hr2 : r ≤ 2) (hc1 : 1 ≤ c) (hc2 : c ≤ 3) (hlo : -2 ≤ low) (hhi : low ≤ 2)
  (hdp : A.depth + 12 < recursionLimit) (hu : A.units + 200 < cLine)
  (hret : ∀ (h' : Heap) (tk' : Nat) (P : Pile), Fr h₀ L h' m → News h₀ L h' ((P.it, listOf (List.replicate (r * c).toNat (Value.int 3 u3)).toArray 0) :: (P.led ++ news)) → P.bl = bl → P.lo0 = low → P.hi0 = low + r - 1 → P.lo1 = 1 → P.hi1 = c →
    (∀ q ∈ news, @LT.lt Nat _ q.1 P.it) → Q (.ref P.pi) { s with heap := h', toks := tk' }) :
  wpAny (model PySem.Challenge.rw_xm0932_01.row.toRowW.prog w) A (call (.ref 208) [.int k u1, .str (Str.ofString "sand") u2, .ref bl, .int 3 u3]) Q E s := by
  revert X; k_fill; intro X
  obtain ⟨hd9, dp, fr, gd, un⟩ := A
  subst hh hA
  dsimp only at hdp hu
  have N9 : News h₀ L s.heap ((bl, listOf [Value.ref b0, Value.ref b1].toArray n0) :: (b0, tup2 low t1 (low + r - 1) t2 n1) :: (b1, tup2 1 t3 c t4 n2) :: news) := List.forall_mem_cons.mpr ⟨N _ hbl, List.forall_mem_cons.mpr ⟨N _ hb0, List.forall_mem_cons.mpr ⟨N _ hb1, N⟩⟩⟩
  have Nw9 : Stop (News h₀ L s.heap news) := ⟨N⟩
  (refine' call_cls ?k1 ?k2 ?k3 ?k4 ?k5 ?k6 ?_; (case k1 => k_asm); (case k2 => k_asm); (case k3 => k_asm); (case k4 => k_is); (case k5 => k_is); (case k6 => k_is); k_whole; intro x' d' h' F' N' l1 l2; (try k_lt l1); (try k_lt2 l2); (try k_sweep))
  have NR : News h₀ L _ news := news_sub N' (by kcf_all)
  have NC : News h₀ L _ [(x', instObj 208 d'), (d', dictOf [] 0), (bl, listOf [Value.ref b0, Value.ref b1].toArray n0), (b0, tup2 low t1 (low + r - 1) t2 n1), (b1, tup2 1 t3 c t4 n2)] := news_sub N' (by kcf_all)
  have lt9 := l1
  have lx9 := l2
  clear N' l1
  obtain ⟨l1, l3, l4, l5⟩ := lt9
  k_dflt (refine' code_frame ?k1 ?k2 ?k3 NC NR ?k5 ?kA ?kF ?kK ?k6 ?k7 ?k8 ?k9 ?kB ?_ ?c2 ?c3 ?c4 ?c5; (case kA => exact rfl); (case kF => exact hef); (case kK => exact hek); (case k1 => k_asm); (case k2 => k_asm); (case k3 => k_asm); (case k5 => k_asm); (case k6 => k_is); (case k7 => k_is); (case k8 => ktr_room); (case k9 => exact BindsTo.of_eq rfl); (case c5 => decide); (case kB => exact locs rfl); (case c2 => exact rfl); (case c3 => exact rfl); (case c4 => exact rfl); k_whole; intro g' L' h' FG' F' N' B' X' T'; (try dsimp only); (try k_lift B'); (try k_fold))
  clear NC NR
  have e9 : 1 * (low + r - 1 - low + 1) * (c - 1 + 1) = r * c := by
    rw [show 1 * (low + r - 1 - low + 1) = r by omega, show c - 1 + 1 = c by omega]
  have e7 : 0 ≤ 1 * (low + r - 1 - low + 1) * (c - 1 + 1) := by rw [e9]; exact hrc.1
  have e8 : 1 * (low + r - 1 - low + 1) * (c - 1 + 1) ≤ 6 := by rw [e9]; exact hrc.2
  repeat' (first
    | walk_at "mine mul"
    | (k_unfold; (try dsimp only)) | walk1 | (dsimp only; walk1) | fail "no step")
  refine Stop.mk ?_
  (refine' list_mul ?F ?N ?m ?lo ?hi ?_; (case F => k_asm); (case N => k_asm); (case m => k_memK); (case lo => exact e7); (case hi => omega))
  intro D' h' F' N' l1
  (try simp only [AllLt, and_true] at l1)
  (try k_sweep)
  repeat' (first
    | (k_unfold; (try dsimp only)) | walk1 | (dsimp only; walk1) | fail "no step")
  rename News h₀ L _ [(_, _), (_, _), _, _, _, _, _] => kN
  rename Fr h₀ L _ m => kF
  rename Rest _ _ _ _ _ => kR
  rw [e9] at kN
  have Nw := Nw9.out
  have ⟨lx, h1, h2, h3, h4, h5, h6, k1, k2, k3, k4, k5, k6, v1, v2, v3, v4, nd, kM⟩ : ∃ (lx : Addr) (h1 h2 h3 h4 h5 h6 : Int) (k1 k2 k3 k4 k5 k6 : Tok) (v1 v2 v3 v4 : Value) (nd : Nat),
      News h₀ L _ [(D', listOf (List.replicate (r * c).toNat (Value.int 3 u3)).toArray 0), (lx, listOf [Value.int 3 u3].toArray 0), (x', instObj 208 d'), (d', dictOf [⟨h1, .str (Str.ofString "word") k1, v1⟩, ⟨h2, .str (Str.ofString "number") k2, v2⟩, ⟨h3, .str (Str.ofString "mark") k3, v3⟩, ⟨h4, .str (Str.ofString "told") k4, v4⟩, ⟨h5, .str (Str.ofString "bounds") k5, .ref bl⟩, ⟨h6, .str (Str.ofString "items") k6, .ref D'⟩] nd), (bl, listOf [Value.ref b0, Value.ref b1].toArray n0), (b0, tup2 low t1 (low + r - 1) t2 n1), (b1, tup2 1 t3 c t4 n2)] := ⟨_, _, _, _, _, _, _, _, _, _, _, _, _, _, _, _, _, _, kN⟩
  clear kN
  have kN := kM
  refine hret _ _ ⟨D', d', x', bl, b0, b1, low, low + r - 1, 1, c, h1, h2, h3, h4, h5, h6, k1, k2, k3, k4, k5, k6, v1, v2, v3, v4, t1, t2, t3, t4, nd, n0, n1, n2⟩ kF ?nn rfl rfl rfl rfl rfl ?lt
  case nn =>
    intro q hq
    rcases List.mem_cons.mp hq with rfl | hq
    · exact kN _ (.head _)
    · rcases List.mem_append.mp hq with hq | hq
      · rcases List.mem_cons.mp hq with rfl | hq
        · exact kN _ (.tail _ (.tail _ (.head _)))
        · rcases List.mem_cons.mp hq with rfl | hq
          · exact kN _ (.tail _ (.tail _ (.tail _ (.head _))))
          · rcases List.mem_cons.mp hq with rfl | hq
            · exact kN _ (.tail _ (.tail _ (.tail _ (.tail _ (.head _)))))
            · rcases List.mem_cons.mp hq with rfl | hq
              · exact kN _ (.tail _ (.tail _ (.tail _ (.tail _ (.tail _ (.head _))))))
              · rcases List.mem_cons.mp hq with rfl | hq
                · exact kN _ (.tail _ (.tail _ (.tail _ (.tail _ (.tail _ (.tail _ (.head _)))))))
                · exact nomatch hq
      · by_cases h9 : q.1 ∈ List.map (·.1) [(x', instObj 208 d'), (d', dictOf [] 0), (bl, listOf [Value.ref b0, Value.ref b1].toArray n0), (b0, tup2 low t1 (low + r - 1) t2 n1), (b1, tup2 1 t3 c t4 n2)]
        · have q0 := Nw q hq
          have q1 := tb_ltOf l5 q hq
          simp only [List.map_cons, List.map_nil, List.mem_cons, List.not_mem_nil, or_false] at h9
          rcases h9 with h9 | h9 | h9 | h9 | h9
          · rw [h9] at q1; exact absurd q1 (Nat.not_lt.mpr (Nat.le_of_lt lx9))
          · rw [h9] at q1; exact absurd q1 (Nat.lt_irrefl _)
          · rw [news_one Nw hq hbl h9]; exact kN _ (by kcf_m)
          · rw [news_one Nw hq hb0 h9]; exact kN _ (by kcf_m)
          · rw [news_one Nw hq hb1 h9]; exact kN _ (by kcf_m)
        · exact kR q hq h9
  case lt =>
    intro q hq
    have q1 : @LT.lt Nat _ q.1 d' := tb_ltOf l5 q hq
    show @LT.lt Nat _ q.1 D'
    exact Nat.lt_trans q1 (by omega)
end Mine
namespace Mine
theorem led_off {P : Pile} {h₀ h : Heap} {L a : Addr} {o : Obj} {news : List (Addr × Obj)} (N : News h₀ L h news) (hP : ∀ q ∈ P.led, q ∈ news) (ha : (a, o) ∈ news) (ho : o.cls = .type "list") (hbl : P.bl ≠ a) : ∀ q ∈ P.led, q.1 ≠ a := by
  intro q hq
  have key : q.2.cls ≠ .type "list" → q.1 ≠ a := fun h => news_ne N (p := q) (q := (a, o)) (hP q hq) ha (by rw [ho]; exact h)
  rcases List.mem_cons.mp hq with e | hq
  · exact key (by rw [e]; exact ref_list)
  · rcases List.mem_cons.mp hq with e | hq
    · exact key (by rw [e]; exact dict_list)
    · rcases List.mem_cons.mp hq with e | hq
      · rw [e]; exact hbl
      · rcases List.mem_cons.mp hq with e | hq
        · exact key (by rw [e]; exact tuple_list)
        · rcases List.mem_cons.mp hq with e | hq
          · exact key (by rw [e]; exact tuple_list)
          · exact nomatch hq
/-- a pile's bounds -/
structure Pile.Box (P : Pile) (r c low : Int) : Prop where
  lo0 : P.lo0 = low
  hi0 : P.hi0 = low + r - 1
  lo1 : P.lo1 = 1
  hi1 : P.hi1 = c
/-- what lies beside the piles' items and does not change -/
abbrev rst (P1 P2 : Pile) (grl grn : Nat) (gvs : List Value) (cl n3 : Nat) (cvs : List Value) (pls pn : Nat) (pvs : List Value) (ce : Nat) (oc : Obj) (pool : List (Addr × Obj)) : List (Addr × Obj) :=
  (P1.pi, instObj 208 P1.pd) :: (P1.pd, P1.dict) :: (P1.bl, listOf [Value.ref P1.b0, Value.ref P1.b1].toArray P1.nb) :: (P1.b0, tup2 P1.lo0 P1.t0 P1.hi0 P1.t1 P1.n0) :: (P1.b1, tup2 P1.lo1 P1.t2 P1.hi1 P1.t3 P1.n1) ::
  (P2.pi, instObj 208 P2.pd) :: (P2.pd, P2.dict) :: (P2.bl, listOf [Value.ref P2.b0, Value.ref P2.b1].toArray P2.nb) :: (P2.b0, tup2 P2.lo0 P2.t0 P2.hi0 P2.t1 P2.n0) :: (P2.b1, tup2 P2.lo1 P2.t2 P2.hi1 P2.t3 P2.n1) ::
  (grl, listOf gvs.toArray grn) :: (cl, listOf cvs.toArray n3) :: (pls, listOf pvs.toArray pn) :: (ce, oc) :: pool
structure Apart (P1 P2 : Pile) (R : List (Addr × Obj)) : Prop where
  one : ∀ q ∈ R, @Ne Nat q.1 P1.it
  two : ∀ q ∈ R, @Ne Nat q.1 P2.it
  ne : @Ne Nat P1.it P2.it
  led1 : ∀ q ∈ P1.led, q ∈ R
  led2 : ∀ q ∈ P2.led, q ∈ R
theorem apart_make {P1 P2 : Pile} {h₀ h : Heap} {L : Addr} {o1 o2 : Obj} {bl : Addr} {ob : Obj} {old R : List (Addr × Obj)} (N : News h₀ L h ((P2.it, o2) :: (P1.it, o1) :: R)) (c1 : o1.cls = .type "list") (c2 : o2.cls = .type "list")
    (l1 : ∀ q ∈ old, @LT.lt Nat _ q.1 P1.it) (l2 : ∀ q ∈ (P1.it, o1) :: (P1.led ++ old), @LT.lt Nat _ q.1 P2.it) (hb : (bl, ob) ∈ old) (e1 : P1.bl = bl) (e2 : P2.bl = bl)
    (m1 : ∀ q ∈ P1.led, q ∈ R) (m2 : ∀ q ∈ P2.led, q ∈ R) (hR : ∀ q ∈ R, q ∈ P1.led ∨ q ∈ P2.led ∨ q ∈ old) : Apart P1 P2 R := by
  have b1 : @LT.lt Nat _ bl P1.it := l1 _ hb
  have b2 : @LT.lt Nat _ bl P2.it := l2 _ (.tail _ (List.mem_append.mpr (.inr hb)))
  refine ⟨fun q hq => ?_, fun q hq => ?_, Nat.ne_of_lt (l2 _ (.head _)), m1, m2⟩
  · rcases hR q hq with h | h | h
    · exact led_off N (fun q h => .tail _ (.tail _ (m1 q h))) (.tail _ (.head _)) c1 (by rw [e1]; exact Nat.ne_of_lt b1) q h
    · exact led_off N (fun q h => .tail _ (.tail _ (m2 q h))) (.tail _ (.head _)) c1 (by rw [e2]; exact Nat.ne_of_lt b1) q h
    · exact Nat.ne_of_lt (l1 q h)
  · rcases hR q hq with h | h | h
    · exact Nat.ne_of_lt (l2 q (.tail _ (List.mem_append.mpr (.inl h))))
    · exact led_off N (fun q h => .tail _ (.tail _ (m2 q h))) (.head _) c2 (by rw [e2]; exact Nat.ne_of_lt b2) q h
    · exact Nat.ne_of_lt (l2 q (.tail _ (List.mem_append.mpr (.inr h))))
theorem ints_rep {v : Int} {t : Tok} : ∀ n : Nat, IntsAre (List.replicate n (Value.int v t)) (List.replicate n v)
  | 0 => .nil
  | n + 1 => .cons v t (ints_rep n)
theorem Pile.Box.fit {P : Pile} {r c low : Int} (b : P.Box r c low) (hr1 : 1 ≤ r) (hr2 : r ≤ 2) (hc1 : 1 ≤ c) (hc2 : c ≤ 3) (hlo : -2 ≤ low) (hhi : low ≤ 2) : P.Fit := by
  obtain ⟨e1, e2, e3, e4⟩ := b
  constructor <;> omega
theorem Pile.Box.len {P : Pile} {r c low : Int} {ns : List Int} (b : P.Box r c low) (h0 : 0 ≤ r * c) (h6 : r * c ≤ 6) (hn : ns.length = (r * c).toNat) : P.Len ns := by
  obtain ⟨e1, e2, e3, e4⟩ := b
  refine ⟨?_, by omega⟩
  rw [e1, e2, e3, e4, show low + r - 1 - low + 1 = r by omega, show c - 1 + 1 = c by omega, hn]
  omega
def putAll (P : Pile) (gr : List (Int × Int)) (ns : List Int) : List Int := gr.foldl (fun ns q => putNs P ns q.1 q.2 1) ns
theorem putAll_len (P : Pile) : ∀ (gr : List (Int × Int)) (ns : List Int), (putAll P gr ns).length = ns.length
  | [], _ => rfl
  | q :: r, ns => by
    show (putAll P r (putNs P ns q.1 q.2 1)).length = _
    rw [putAll_len P r, putNs_len]
theorem putAll_step {P : Pile} {gr : List (Int × Int)} {ns : List Int} {q : Int × Int} {i : Nat} (hq : gr[i]? = some q) : putAll P (gr.take (i + 1)) ns = putNs P (putAll P (gr.take i) ns) q.1 q.2 1 := by
  unfold putAll
  rw [List.take_add_one, hq, List.foldl_append]
  rfl
theorem put_any {w : World} {p : Program} {loose : List Str} {mean : ExcName → Option Value} {mg mb : Str → Option Value}
  {A : Around} {env : Env} {outer : List Env} {A₀ : Around} {base h₀ : Heap} {L : Addr} {m : Str → Option Value} {s : Shared} {Q E : Value → Shared → Prop}
  {P : Pile} {pl : Addr} {r c many : Int} {t1 t2 t3 : Tok} {n2 nn : Nat} {vs : List Value} {ns : List Int} {rest : List (Addr × Obj)}
  (B : Below A₀ base outer h₀) (F : Fr h₀ L s.heap m) (X : (hd.heap_39 w.params).In h₀) (N : News h₀ L s.heap ((P.it, listOf vs.toArray nn) :: rest)) (hoff : ∀ q ∈ rest, @Ne Nat q.1 P.it)
  (T : Top p loose mean mg mb h₀)
  (hh : A.handled = none) (hA : A.frames = some (env :: outer)) (hef : env.frame = some L) (hek : env.scope.kind = .function) (hI : IntsAre vs ns) (hlen : P.Len ns)
  (hpl : (pl, tup2 r t1 c t2 n2) ∈ rest) (hP : ∀ q ∈ P.led, q ∈ rest) (hfit : P.Fit)
  (hdp : A.depth + 10 < recursionLimit) (hu : A.units + 100 < cLine)
  (hret : ∀ (h' : Heap) (tk' : Nat) (v : Value) (vs' : List Value) (nn' : Nat), Fr h₀ L h' m → News h₀ L h' ((P.it, listOf vs'.toArray nn') :: rest) → IntsAre vs' (putNs P ns r c many) → Q v { s with heap := h', toks := tk' }) :
  wpAny (model PySem.Challenge.rw_xm0932_01.row.toRowW.prog w) A (call (.ref 283) [.ref P.pi, .ref pl, .int many t3]) Q E s :=
  put_spec w p loose mean mg mb A env outer A₀ base h₀ L m s Q E P pl r c many t1 t2 t3 n2 nn vs ns _ _ B F N (.head hoff) T hh hA hef hek hI hlen hdp hu (List.forall_mem_cons.mpr ⟨.tail _ hpl, fun q hq => .tail _ (hP q hq)⟩) hfit
    (hoff (P.bl, listOf [Value.ref P.b0, Value.ref P.b1].toArray P.nb) (hP _ (.tail _ (.tail _ (.head _))))) (fun h' tk' v vs' nn' F' N' hi _ => hret h' tk' v vs' nn' F' N' hi) X
/-- what stands between two turns of a loop that puts grains -/
structure PutJ (P : Pile) (R : List (Addr × Obj)) (nms : List (Str × Value)) (gr : List (Int × Int)) (ns0 : List Int) (i : Nat) (m : Str → Option Value) (nx : List (Addr × Obj)) (vs : List Value) (k : Nat) : Prop where
  led : nx = (P.it, listOf vs.toArray k) :: R
  names : ∀ q ∈ nms, m q.1 = some q.2
  inum : IntsAre vs (putAll P (gr.take i) ns0)
theorem own_off {own : List (Addr × Obj)} {it : Addr} {o : Obj} {R : List (Addr × Obj)} (h : OwnOff own (((it, o) :: R).map (·.1))) (hR : ∀ q ∈ R, @Ne Nat q.1 it) : ∀ q ∈ R ++ own, @Ne Nat q.1 it :=
  List.forall_mem_append.mpr ⟨hR, fun q hq => h q hq it (.head _)⟩
end Mine
namespace Mine
theorem apart_more {P1 P2 : Pile} {R X : List (Addr × Obj)} (h : Apart P1 P2 R) (x1 : ∀ q ∈ X, @Ne Nat q.1 P1.it) (x2 : ∀ q ∈ X, @Ne Nat q.1 P2.it) : Apart P1 P2 (X ++ R) :=
  ⟨List.forall_mem_append.mpr ⟨x1, h.one⟩, List.forall_mem_append.mpr ⟨x2, h.two⟩, h.ne, fun q hq => List.mem_append.mpr (.inr (h.led1 q hq)), fun q hq => List.mem_append.mpr (.inr (h.led2 q hq))⟩
abbrev pairOf (gl : Addr) (lost : Int) (t : Tok) (n : Nat) : Obj := { cls := .type "tuple", data := .seq [Value.ref gl, Value.int lost t].toArray n }
theorem fallen_call {w : World} {p : Program} {loose : List Str} {mean : ExcName → Option Value} {mg mb : Str → Option Value}
  {A : Around} {env : Env} {outer : List Env} {A₀ : Around} {base h₀ : Heap} {L : Addr} {m : Str → Option Value} {s : Shared} {Q E : Value → Shared → Prop}
  {P : Pile} {pls : Addr} {pn nn : Nat} {pvs vs : List Value} {ps : List (Int × Int)} {ns : List Int} {last : Bool} {rest pool : List (Addr × Obj)} {fuel : Nat} {st' : St}
  (B : Below A₀ base outer h₀) (F : Fr h₀ L s.heap m) (X : (hd.heap_39 w.params).In h₀) (N : News h₀ L s.heap ((P.it, listOf vs.toArray nn) :: rest)) (hoff : ∀ q ∈ rest, @Ne Nat q.1 P.it)
  (T : Top p loose mean mg mb h₀)
  (hh : A.handled = none) (hA : A.frames = some (env :: outer)) (hef : env.frame = some L) (hek : env.scope.kind = .function) (hI : IntsAre vs ns) (hlen : P.Len ns)
  (hpl : (pls, listOf pvs.toArray pn) ∈ rest) (hP : ∀ q ∈ P.led, q ∈ rest) (hfit : P.Fit)
  (hdp : A.depth + 12 < recursionLimit) (hu : A.units + 200 < cLine)
  (hD : DatAll pool pvs (ps.map pdat)) (hpool : ∀ q ∈ pool, q ∈ rest) (hps : ps.length ≤ 1000)
  (hrun : runF P ns.sum last fuel ⟨ns, 0, ps, []⟩ = some st')
  (hret : ∀ (h' : Heap) (tk' : Nat) (rt gl : Addr) (gvs vs' : List Value) (gn nn' rn : Nat) (t : Tok) (pool' : List (Addr × Obj)), Fr h₀ L h' m →
    News h₀ L h' ((P.it, listOf vs'.toArray nn') :: (rt, pairOf gl st'.lost t rn) :: (gl, listOf gvs.toArray gn) :: (pool' ++ rest)) →
    IntsAre vs' st'.ns → st'.ns.length = ns.length → Tups pool' → DatAll pool' gvs (st'.gv.map pdat) → (∀ q ∈ rest, @LT.lt Nat _ q.1 rt) → (∀ q ∈ rest, @LT.lt Nat _ q.1 gl) → @LT.lt Nat _ P.it rt → @LT.lt Nat _ P.it gl → Q (.ref rt) { s with heap := h', toks := tk' }) :
  wpAny (model PySem.Challenge.rw_xm0932_01.row.toRowW.prog w) A (call (.ref 297) [.ref P.pi, .ref pls, .bool last]) Q E s := by
  refine fallen_spec w p loose mean mg mb A env outer A₀ base h₀ L m s Q E P pls pn nn pvs vs ps ns last rest fuel st' B F (news_sub N ?n0) (fun q hq b hb => by rw [List.mem_singleton.mp hb]; exact hoff q hq) (hoff _ hpl) T hh hA hef hek hI hlen hdp hu hfit
    (hoff (P.bl, listOf [Value.ref P.b0, Value.ref P.b1].toArray P.nb) (hP _ (.tail _ (.tail _ (.head _))))) (hD.mono hpool) hps hrun ?ret X
  case n0 =>
    refine List.forall_mem_cons.mpr ⟨.tail _ hpl, List.forall_mem_cons.mpr ⟨.head _, List.forall_mem_append.mpr ⟨fun q hq => .tail _ (hP q hq), fun q hq => .tail _ hq⟩⟩⟩
  case ret =>
    intro h' tk' rt gl gvs vs' gn nn' rn t tl F' N' hi hl hD' hsub hnew hrt hgl
    obtain ⟨pool', p1, p2, p3⟩ := dat_pool hD'
    refine hret h' tk' rt gl gvs vs' gn nn' rn t pool' F' (news_sub N' ?n1) hi hl p2 p3 hrt.1 hgl.1 hrt.2 hgl.2
    refine List.forall_mem_cons.mpr ⟨.tail _ (.tail _ (.tail _ (.head _))), List.forall_mem_cons.mpr ⟨.head _, List.forall_mem_cons.mpr ⟨.tail _ (.head _), List.forall_mem_append.mpr ⟨fun q hq => ?_, fun q hq => ?_⟩⟩⟩⟩
    · exact .tail _ (.tail _ (.tail _ (.tail _ (List.mem_append.mpr (.inr (p1 q hq))))))
    · exact .tail _ (.tail _ (.tail _ (.tail _ (List.mem_append.mpr (.inr (hsub q hq))))))
end Mine
namespace Mine
def placesP (r c low : Int) : List (Int × Int) := ((rangeKs 0 (r * c).toNat).map fun k : Int => (low + Int.fdiv k c, 1 + Int.fmod k c))
def grainsP (a b : Int × Int) (z : Int) : List (Int × Int) := List.replicate (1 + z.fmod 2).toNat a ++ List.replicate ((z.fdiv 2).fmod 2).toNat b
theorem placesP_len (r c low : Int) : (placesP r c low).length = (r * c).toNat := by
  unfold placesP
  rw [List.length_map, rangeKs_length]
/-- the fall of one grain after the other -/
def foldS (P : Pile) : List (Int × Int) → St → Option St
  | [], x => some x
  | q :: r, x => match runF P (putNs P x.ns q.1 q.2 1).sum true 100 ⟨putNs P x.ns q.1 q.2 1, 0, [q], []⟩ with
    | none => none
    | some st => if st.gv.length ≤ 100 then foldS P r ⟨st.ns, x.lost + st.lost, [], x.gv ++ st.gv⟩ else none
def manyP (pl : List (Int × Int)) (q : Int × Int) : List (Int × Int) := (beside q).filter fun b => !decide (b ∈ pl)
def foldM (P : Pile) (pl : List (Int × Int)) : List (Int × Int) → List Int × Int → List Int × Int
  | [], x => x
  | q :: r, x => foldM P pl r (putNs P x.1 q.1 q.2 ((manyP pl q).length : Int), x.2 + ((manyP pl q).length : Int))
/-- what the plain law says -/
structure Told (P1 P2 : Pile) (pl gr : List (Int × Int)) (ns0 : List Int) (last : Bool) (st1 x2 st3 : St) (so : List (Int × Int)) : Prop where
  run1 : runF P1 (putAll P1 gr ns0).sum false 100 ⟨putAll P1 gr ns0, 0, gr, []⟩ = some st1
  run2 : foldS P2 gr ⟨ns0, 0, [], []⟩ = some x2
  so1 : sortO st1.gv = some so
  so2 : sortO x2.gv = some so
  lost : st1.lost = x2.lost
  ns : st1.ns = x2.ns
  most : ∀ x ∈ st1.ns, x ≤ 3
  a1 : 1 ≤ st1.gv.length
  a2 : st1.gv.length < 60
  a3 : 1 ≤ x2.gv.length
  a4 : x2.gv.length < 60
  run3 : runF P1 (foldM P1 pl pl (st1.ns, 0)).1.sum last 100 ⟨(foldM P1 pl pl (st1.ns, 0)).1, 0, pl, []⟩ = some st3
  so3 : sortO st3.gv = some pl
  lost3 : st3.lost = (foldM P1 pl pl (st1.ns, 0)).2
  ns3 : st3.ns = st1.ns
  a5 : 1 ≤ st3.gv.length
  a6 : st3.gv.length < 60
def boxP (r c : Int) : Pile where
  it := 0
  pd := 0
  pi := 0
  bl := 0
  b0 := 0
  b1 := 0
  lo0 := 0
  hi0 := r - 1
  lo1 := 1
  hi1 := c
  h1 := 0
  h2 := 0
  h3 := 0
  h4 := 0
  h5 := 0
  h6 := 0
  k1 := 0
  k2 := 0
  k3 := 0
  k4 := 0
  k5 := 0
  k6 := 0
  v1 := .none
  v2 := .none
  v3 := .none
  v4 := .none
  t0 := 0
  t1 := 0
  t2 := 0
  t3 := 0
  nd := 0
  nb := 0
  n0 := 0
  n1 := 0
def chkA (P : Pile) (ns0 : List Int) (S : List (List Int)) (gr : List (Int × Int)) : Bool :=
  match runF P (putAll P gr ns0).sum false 100 ⟨putAll P gr ns0, 0, gr, []⟩ with
  | none => false
  | some st1 => match foldS P gr ⟨ns0, 0, [], []⟩ with
    | none => false
    | some x2 => match sortO st1.gv with
      | none => false
      | some so => decide (sortO x2.gv = some so ∧ st1.lost = x2.lost ∧ st1.ns = x2.ns ∧ (∀ x ∈ st1.ns, x ≤ 3) ∧ 1 ≤ st1.gv.length ∧ st1.gv.length < 60 ∧ 1 ≤ x2.gv.length ∧ x2.gv.length < 60 ∧ st1.ns ∈ S)
def chkB (P : Pile) (pl : List (Int × Int)) (ns : List Int) (last : Bool) : Bool :=
  match runF P (foldM P pl pl (ns, 0)).1.sum last 100 ⟨(foldM P pl pl (ns, 0)).1, 0, pl, []⟩ with
  | none => false
  | some st3 => decide (sortO st3.gv = some pl ∧ st3.lost = (foldM P pl pl (ns, 0)).2 ∧ st3.ns = ns ∧ 1 ≤ st3.gv.length ∧ st3.gv.length < 60)
def okF (r c : Int) (S : List (List Int)) (f : Nat) : Bool := (List.range (r * c).toNat).all fun s => [1, 2].all fun g1 => [0, 1].all fun g2 =>
    chkA (boxP r c) (List.replicate (r * c).toNat 3) S (List.replicate g1 ((placesP r c 0).getD f (0, 0)) ++ List.replicate g2 ((placesP r c 0).getD s (0, 0)))
def okA (r c : Int) (S : List (List Int)) : Bool := (List.range (r * c).toNat).all (okF r c S)
def okB (r c : Int) (S : List (List Int)) : Bool := S.all fun ns => chkB (boxP r c) (placesP r c 0) ns false && chkB (boxP r c) (placesP r c 0) ns true
def set11 : List (List Int) := [[0], [1], [2]]
def set12 : List (List Int) := [[0, 1], [0, 2], [0, 3], [1, 0], [1, 1], [1, 2], [2, 0], [2, 1], [3, 0]]
def set13 : List (List Int) := [[0, 1, 1], [0, 1, 2], [0, 1, 3], [0, 2, 0], [0, 2, 1], [0, 2, 2], [0, 3, 0], [0, 3, 1], [1, 0, 1], [1, 1, 0], [1, 1, 1], [1, 1, 2], [1, 2, 0], [1, 3, 0], [2, 1, 0], [2, 1, 1], [2, 2, 0], [3, 1, 0]]
def set21 : List (List Int) := [[0, 1], [0, 2], [0, 3], [1, 0], [1, 1], [1, 2], [2, 0], [2, 1], [3, 0]]
def set22 : List (List Int) := [[0, 2, 2, 1], [1, 1, 1, 2], [1, 1, 1, 3], [1, 1, 2, 1], [1, 1, 2, 2], [1, 1, 2, 3], [1, 1, 3, 1], [1, 1, 3, 2], [1, 2, 1, 1], [1, 2, 1, 2], [1, 2, 1, 3], [1, 2, 2, 0], [1, 2, 2, 1], [1, 2, 3, 1], [1, 3, 1, 1], [1, 3, 1, 2], [1, 3, 2, 1], [2, 0, 1, 2], [2, 1, 0, 2], [2, 1, 1, 1], [2, 1, 1, 2], [2, 1, 1, 3], [2, 1, 2, 1], [2, 1, 3, 1], [2, 2, 1, 1], [2, 3, 1, 1], [3, 1, 1, 1], [3, 1, 1, 2], [3, 1, 2, 1], [3, 2, 1, 1]]
def set23 : List (List Int) := [[0, 3, 1, 2, 2, 1], [1, 2, 1, 1, 2, 2], [1, 2, 1, 1, 2, 3], [1, 2, 1, 1, 3, 1], [1, 2, 1, 1, 3, 2], [1, 2, 1, 1, 3, 3], [1, 2, 1, 2, 2, 1], [1, 2, 1, 2, 2, 2], [1, 2, 1, 2, 2, 3], [1, 2, 1, 2, 3, 1], [1, 2, 1, 3, 2, 1], [1, 2, 1, 3, 2, 2], [1, 2, 1, 3, 3, 1], [1, 2, 2, 1, 2, 1], [1, 2, 2, 1, 2, 2], [1, 2, 2, 1, 2, 3], [1, 2, 2, 1, 3, 0], [1, 2, 2, 1, 3, 1], [1, 2, 2, 2, 2, 1], [1, 2, 2, 3, 2, 1], [1, 2, 3, 1, 2, 1], [1, 2, 3, 1, 2, 2], [1, 2, 3, 1, 3, 1], [1, 2, 3, 2, 2, 1], [1, 3, 0, 1, 2, 2], [1, 3, 1, 1, 2, 1], [1, 3, 1, 1, 2, 2], [1, 3, 1, 1, 2, 3], [1, 3, 1, 1, 3, 1], [1, 3, 1, 2, 0, 2], [1, 3, 1, 2, 0, 3], [1, 3, 1, 2, 1, 2], [1, 3, 1, 2, 2, 1], [1, 3, 1, 3, 0, 2], [1, 3, 1, 3, 2, 1], [1, 3, 2, 1, 2, 1], [1, 3, 2, 2, 0, 2], [1, 3, 3, 1, 2, 1], [2, 0, 2, 1, 3, 1], [2, 0, 2, 1, 3, 2], [2, 0, 2, 2, 1, 2], [2, 0, 2, 2, 3, 1], [2, 0, 3, 1, 3, 1], [2, 1, 2, 1, 3, 1], [2, 1, 2, 2, 0, 2], [2, 2, 1, 0, 3, 1], [2, 2, 1, 1, 2, 1], [2, 2, 1, 1, 2, 2], [2, 2, 1, 1, 2, 3], [2, 2, 1, 1, 3, 1], [2, 2, 1, 2, 2, 1], [2, 2, 1, 3, 2, 1], [2, 2, 2, 1, 2, 1], [2, 2, 3, 1, 2, 1], [2, 3, 1, 1, 2, 1], [2, 3, 1, 2, 0, 2], [3, 0, 2, 1, 3, 1], [3, 2, 1, 1, 2, 1], [3, 2, 1, 1, 2, 2], [3, 2, 1, 1, 3, 1], [3, 2, 1, 2, 2, 1], [3, 2, 2, 1, 2, 1], [3, 3, 1, 1, 2, 1]]

set_option maxRecDepth 100000
theorem okA11 : okA 1 1 set11 = true := by decide +kernel
theorem okA12 : okA 1 2 set12 = true := by decide +kernel
theorem okA13 : okA 1 3 set13 = true := by decide +kernel
theorem okA21 : okA 2 1 set21 = true := by decide +kernel
theorem okA22 : okA 2 2 set22 = true := by decide +kernel
theorem okF23_a : okF 2 3 set23 0 = true := by decide +kernel
theorem okF23_b : okF 2 3 set23 1 = true := by decide +kernel
theorem okF23_c : okF 2 3 set23 2 = true := by decide +kernel
theorem okF23_d : okF 2 3 set23 3 = true := by decide +kernel
theorem okF23_e : okF 2 3 set23 4 = true := by decide +kernel
theorem okF23_f : okF 2 3 set23 5 = true := by decide +kernel
theorem okA23 : okA 2 3 set23 = true := List.all_eq_true.mpr fun f hf => by
  have h : f < 6 := List.mem_range.mp hf
  obtain rfl | rfl | rfl | rfl | rfl | rfl : f = 0 ∨ f = 1 ∨ f = 2 ∨ f = 3 ∨ f = 4 ∨ f = 5 := by omega
  · exact okF23_a
  · exact okF23_b
  · exact okF23_c
  · exact okF23_d
  · exact okF23_e
  · exact okF23_f
theorem okB11 : okB 1 1 set11 = true := by decide +kernel
theorem okB12 : okB 1 2 set12 = true := by decide +kernel
theorem okB13 : okB 1 3 set13 = true := by decide +kernel
theorem okB21 : okB 2 1 set21 = true := by decide +kernel
theorem okB22 : okB 2 2 set22 = true := by decide +kernel
theorem okB23 : okB 2 3 set23 = true := by decide +kernel

/-- a place moved down -/
def sh (d : Int) (q : Int × Int) : Int × Int := (q.1 + d, q.2)
def shS (d : Int) (st : St) : St := ⟨st.ns, st.lost, st.wt.map (sh d), st.gv.map (sh d)⟩
theorem sh_inj {d : Int} {a b : Int × Int} (h : sh d a = sh d b) : a = b := by
  obtain ⟨a1, a2⟩ := a
  obtain ⟨b1, b2⟩ := b
  have e := Prod.mk.inj h
  have e1 : a1 = b1 := by have := e.1; dsimp only at this; omega
  rw [e1, show a2 = b2 from e.2]
def Moved (P P0 : Pile) (d : Int) : Prop := ∀ a b, P.at (a + d) b = P0.at a b
section
variable {P P0 : Pile} {d : Int}
theorem putNs_sh (h : Moved P P0 d) (ns : List Int) (a b x : Int) : putNs P ns (a + d) b x = putNs P0 ns a b x := by
  unfold putNs
  rw [h]
theorem beside_sh (q : Int × Int) : beside (sh d q) = (beside q).map (sh d) := by
  unfold beside sh
  simp only [List.map_cons, List.map_nil]
  rw [show q.1 + d - 1 = q.1 - 1 + d by omega, show q.1 + d + 1 = q.1 + 1 + d by omega]
theorem give_sh (h : Moved P P0 d) (st : St) (q : Int × Int) : giveOne P (shS d st) (sh d q) = shS d (giveOne P0 st q) := by
  have h1 := h q.1 q.2
  unfold giveOne
  show (match P.at (q.1 + d) q.2 with | none => _ | some k => _) = _
  rw [h1]
  cases P0.at q.1 q.2 with
  | none => rfl
  | some k =>
    show (⟨_, _, _, _⟩ : St) = shS d ⟨_, _, _, _⟩
    unfold shS
    dsimp only
    split
    · rw [List.map_append]; rfl
    · rfl
theorem gives_sh (h : Moved P P0 d) : ∀ (l : List (Int × Int)) (st : St), (l.map (sh d)).foldl (giveOne P) (shS d st) = shS d (l.foldl (giveOne P0) st)
  | [], _ => rfl
  | q :: l, st => by
    rw [List.map_cons, List.foldl_cons, List.foldl_cons, give_sh h, gives_sh h l]
theorem turn_sh (h : Moved P P0 d) (due : Int) (st : St) (q : Int × Int) (wt : List (Int × Int)) : turnAt P due (shS d st) (sh d q) (wt.map (sh d)) = (turnAt P0 due st q wt).map (shS d) := by
  have h1 : P.at (sh d q).1 (sh d q).2 = P0.at q.1 q.2 := h q.1 q.2
  unfold turnAt
  rw [h1]
  cases P0.at q.1 q.2 with
  | none => rfl
  | some k =>
    have e1 : putNs P (shS d st).ns (sh d q).1 (sh d q).2 0 = putNs P0 st.ns q.1 q.2 0 := putNs_sh h ..
    have e2 : putNs P (putNs P0 st.ns q.1 q.2 0) (sh d q).1 (sh d q).2 (0 - 4) = putNs P0 (putNs P0 st.ns q.1 q.2 0) q.1 q.2 (0 - 4) := putNs_sh h ..
    have e3 : (beside (sh d q)).foldl (giveOne P) { ns := putNs P (putNs P (shS d st).ns (sh d q).1 (sh d q).2 0) (sh d q).1 (sh d q).2 (0 - 4), lost := (shS d st).lost, wt := wt.map (sh d) ++ [sh d q], gv := (shS d st).gv ++ [sh d q] } =
        shS d ((beside q).foldl (giveOne P0) { ns := putNs P0 (putNs P0 st.ns q.1 q.2 0) q.1 q.2 (0 - 4), lost := st.lost, wt := wt ++ [q], gv := st.gv ++ [q] }) := by
      rw [beside_sh, ← gives_sh h, e1, e2]
      congr 1
      unfold shS
      dsimp only
      rw [List.map_append, List.map_append]
      rfl
    dsimp only
    rw [e3]
    generalize (beside q).foldl (giveOne P0) { ns := putNs P0 (putNs P0 st.ns q.1 q.2 0) q.1 q.2 (0 - 4), lost := st.lost, wt := wt ++ [q], gv := st.gv ++ [q] } = s2
    rw [e1]
    show (if st.ns.getD k 0 + 0 < 4 then _ else _) = _
    by_cases hc : st.ns.getD k 0 + 0 < 4
    · rw [if_pos hc, if_pos hc]; rfl
    · rw [if_neg hc, if_neg hc]
      have l1 : (shS d s2).wt.length = s2.wt.length := List.length_map ..
      have l2 : (shS d s2).gv.length = s2.gv.length := List.length_map ..
      rw [l1, l2]
      show (if s2.ns.sum + s2.lost = due ∧ s2.wt.length ≤ 1000 ∧ s2.gv.length ≤ 1000 then some (shS d s2) else none) = _
      by_cases hq : s2.ns.sum + s2.lost = due ∧ s2.wt.length ≤ 1000 ∧ s2.gv.length ≤ 1000
      · rw [if_pos hq, if_pos hq]; rfl
      · rw [if_neg hq, if_neg hq]; rfl
theorem run_sh (h : Moved P P0 d) (due : Int) (last : Bool) : ∀ (n : Nat) (st : St), runF P due last n (shS d st) = (runF P0 due last n st).map (shS d)
  | 0, st => by
    simp only [runF]
    have e : (shS d st).wt = [] ↔ st.wt = [] := List.map_eq_nil_iff
    by_cases hc : st.wt = []
    · rw [if_pos hc, if_pos (e.mpr hc)]; rfl
    · rw [if_neg hc, if_neg (fun x => hc (e.mp x))]; rfl
  | n + 1, ⟨ns, lost, wt, gv⟩ => by
    cases wt with
    | nil => rfl
    | cons q r =>
      have e1 := turn_sh h due ⟨ns, lost, q :: r, gv⟩ ((q :: r).getLast (by simp)) (q :: r).dropLast
      have e2 := turn_sh h due ⟨ns, lost, q :: r, gv⟩ q r
      show (match (if last = true then turnAt P due (shS d ⟨ns, lost, q :: r, gv⟩) ((sh d q :: r.map (sh d)).getLast (by simp)) (sh d q :: r.map (sh d)).dropLast else turnAt P due (shS d ⟨ns, lost, q :: r, gv⟩) (sh d q) (r.map (sh d))) with
        | none => none | some st1 => runF P due last n st1) = Option.map (shS d) (match (if last = true then turnAt P0 due ⟨ns, lost, q :: r, gv⟩ ((q :: r).getLast (by simp)) (q :: r).dropLast else turnAt P0 due ⟨ns, lost, q :: r, gv⟩ q r) with
        | none => none | some st1 => runF P0 due last n st1)
      have e3 : turnAt P due (shS d ⟨ns, lost, q :: r, gv⟩) ((sh d q :: r.map (sh d)).getLast (by simp)) (sh d q :: r.map (sh d)).dropLast = (turnAt P0 due ⟨ns, lost, q :: r, gv⟩ ((q :: r).getLast (by simp)) (q :: r).dropLast).map (shS d) := by
        rw [← e1]
        congr 1
        · show ((q :: r).map (sh d)).getLast _ = _
          rw [List.getLast_map]
        · show ((q :: r).map (sh d)).dropLast = _
          rw [List.map_dropLast]
      rw [e3, e2]
      cases last with
      | true =>
        simp only [if_true]
        cases turnAt P0 due ⟨ns, lost, q :: r, gv⟩ ((q :: r).getLast (by simp)) (q :: r).dropLast with
        | none => rfl
        | some st1 => exact run_sh h due true n st1
      | false =>
        simp only [Bool.false_eq_true, if_false]
        cases turnAt P0 due ⟨ns, lost, q :: r, gv⟩ q r with
        | none => rfl
        | some st1 => exact run_sh h due false n st1
theorem putAll_sh (h : Moved P P0 d) : ∀ (gr : List (Int × Int)) (ns : List Int), putAll P (gr.map (sh d)) ns = putAll P0 gr ns
  | [], _ => rfl
  | q :: r, ns => by
    show putAll P (r.map (sh d)) (putNs P ns (q.1 + d) q.2 1) = putAll P0 r (putNs P0 ns q.1 q.2 1)
    rw [putNs_sh h, putAll_sh h r]
theorem foldS_sh (h : Moved P P0 d) : ∀ (gr : List (Int × Int)) (x x2 : St), x.wt = [] → foldS P0 gr x = some x2 → foldS P (gr.map (sh d)) (shS d x) = some (shS d x2)
  | [], x, x2, _, e => by
    simp only [foldS] at e
    cases e
    rfl
  | q :: r, ⟨ns, lost, wt, gv⟩, x2, hw, e => by
    dsimp only at hw
    subst hw
    simp only [foldS] at e
    split at e
    · cases e
    · rename_i st er
      split at e
      · rename_i hl
        have k := run_sh h (putNs P0 ns q.1 q.2 1).sum true 100 ⟨putNs P0 ns q.1 q.2 1, 0, [q], []⟩
        rw [er] at k
        have ih := foldS_sh h r ⟨st.ns, lost + st.lost, [], gv ++ st.gv⟩ x2 rfl e
        show (match runF P (putNs P ns (q.1 + d) q.2 1).sum true 100 ⟨putNs P ns (q.1 + d) q.2 1, 0, [sh d q], []⟩ with
          | none => none
          | some st => if st.gv.length ≤ 100 then foldS P (r.map (sh d)) ⟨st.ns, lost + st.lost, [], gv.map (sh d) ++ st.gv⟩ else none) = _
        rw [putNs_sh h]
        have k' : runF P (putNs P0 ns q.1 q.2 1).sum true 100 ⟨putNs P0 ns q.1 q.2 1, 0, [sh d q], []⟩ = some (shS d st) := k
        rw [k']
        show (if (st.gv.map (sh d)).length ≤ 100 then foldS P (r.map (sh d)) ⟨st.ns, lost + st.lost, [], gv.map (sh d) ++ st.gv.map (sh d)⟩ else none) = _
        rw [List.length_map, if_pos hl, ← List.map_append]
        exact ih
      · cases e
theorem many_sh (pl : List (Int × Int)) (q : Int × Int) : (manyP (pl.map (sh d)) (sh d q)).length = (manyP pl q).length := by
  unfold manyP
  rw [beside_sh, List.filter_map, List.length_map]
  congr 2
  funext b
  show (!decide (sh d b ∈ pl.map (sh d))) = !decide (b ∈ pl)
  congr 1
  refine decide_eq_decide.mpr ⟨fun h => ?_, fun h => List.mem_map_of_mem h⟩
  obtain ⟨x, hx, e⟩ := List.mem_map.mp h
  rw [← sh_inj e]
  exact hx
theorem foldM_sh (h : Moved P P0 d) (pl : List (Int × Int)) : ∀ (r : List (Int × Int)) (x : List Int × Int), foldM P (pl.map (sh d)) (r.map (sh d)) x = foldM P0 pl r x
  | [], _ => rfl
  | q :: r, x => by
    show foldM P (pl.map (sh d)) (r.map (sh d)) (putNs P x.1 (q.1 + d) q.2 ((manyP (pl.map (sh d)) (sh d q)).length : Int), x.2 + ((manyP (pl.map (sh d)) (sh d q)).length : Int)) = _
    rw [many_sh, putNs_sh h]
    exact foldM_sh h pl r _
end
theorem pairLt_sh (d : Int) (a b : Int × Int) : pairLt (sh d a) (sh d b) = pairLt a b := by
  unfold pairLt sh
  dsimp only
  by_cases h1 : a.1 = b.1
  · rw [if_pos h1, if_pos (by omega)]
  · rw [if_neg h1, if_neg (by omega)]
    exact decide_eq_decide.mpr ⟨fun h => by omega, fun h => by omega⟩
theorem runO_congr {α : Type} {n : Nat} {f g : Nat → Nat → Bool} (h : ∀ i j, i < n → j < n → f i j = g i j) : ∀ t : KasT α, runO n f t = runO n g t
  | .ret a => rfl
  | .ask i j k => by
    simp only [runO]
    by_cases hc : i < n ∧ j < n
    · rw [if_pos hc, if_pos hc, h i j hc.1 hc.2]
      exact runO_congr h (k (g i j))
    · rw [if_neg hc, if_neg hc]
theorem getD_sh {d : Int} {l : List (Int × Int)} {i : Nat} (h : i < l.length) : (l.map (sh d)).getD i (0, 0) = sh d (l.getD i (0, 0)) := by
  rw [List.getD_eq_getElem?_getD, List.getD_eq_getElem?_getD, List.getElem?_map, List.getElem?_eq_getElem h]
  rfl
theorem sortO_sh {d : Int} {l so : List (Int × Int)} (h : sortO l = some so) : sortO (l.map (sh d)) = some (so.map (sh d)) := by
  unfold sortO at h ⊢
  rw [List.length_map]
  by_cases h2 : l.length < 2
  · rw [if_pos h2] at h ⊢
    cases h
    rfl
  · rw [if_neg h2] at h ⊢
    have e : runO l.length (fun i j => pairLt ((l.map (sh d)).getD i (0, 0)) ((l.map (sh d)).getD j (0, 0))) (kas_sort l.length) = runO l.length (fun i j => pairLt (l.getD i (0, 0)) (l.getD j (0, 0))) (kas_sort l.length) :=
      runO_congr (fun i j hi hj => by rw [getD_sh hi, getD_sh hj, pairLt_sh]) _
    rw [e]
    split at h
    · cases h
    · rename_i p hp
      split at h
      · rename_i hall
        cases h
        rw [if_pos hall, List.map_map]
        congr 1
        refine List.map_congr_left fun i hi => ?_
        exact getD_sh (by simpa using List.all_eq_true.mp hall i hi)
      · cases h
theorem told_sh {P1 P2 P0 : Pile} {d : Int} {pl gr : List (Int × Int)} {ns0 : List Int} {last : Bool} {st1 x2 st3 : St} {so : List (Int × Int)} (h1 : Moved P1 P0 d) (h2 : Moved P2 P0 d) (t : Told P0 P0 pl gr ns0 last st1 x2 st3 so) :
    Told P1 P2 (pl.map (sh d)) (gr.map (sh d)) ns0 last (shS d st1) (shS d x2) (shS d st3) (so.map (sh d)) where
  run1 := by
    rw [putAll_sh h1]
    exact (run_sh h1 _ false 100 ⟨putAll P0 gr ns0, 0, gr, []⟩).trans (by rw [t.run1]; rfl)
  run2 := foldS_sh h2 gr ⟨ns0, 0, [], []⟩ x2 rfl t.run2
  so1 := sortO_sh t.so1
  so2 := sortO_sh t.so2
  lost := t.lost
  ns := t.ns
  most := t.most
  a1 := by show 1 ≤ (st1.gv.map (sh d)).length; rw [List.length_map]; exact t.a1
  a2 := by show (st1.gv.map (sh d)).length < 60; rw [List.length_map]; exact t.a2
  a3 := by show 1 ≤ (x2.gv.map (sh d)).length; rw [List.length_map]; exact t.a3
  a4 := by show (x2.gv.map (sh d)).length < 60; rw [List.length_map]; exact t.a4
  run3 := by
    show runF P1 (foldM P1 (pl.map (sh d)) (pl.map (sh d)) (st1.ns, 0)).1.sum last 100 ⟨(foldM P1 (pl.map (sh d)) (pl.map (sh d)) (st1.ns, 0)).1, 0, pl.map (sh d), []⟩ = _
    rw [foldM_sh h1]
    exact (run_sh h1 _ last 100 ⟨(foldM P0 pl pl (st1.ns, 0)).1, 0, pl, []⟩).trans (by rw [t.run3]; rfl)
  so3 := sortO_sh t.so3
  lost3 := by
    show st3.lost = (foldM P1 (pl.map (sh d)) (pl.map (sh d)) (st1.ns, 0)).2
    rw [foldM_sh h1]
    exact t.lost3
  ns3 := t.ns3
  a5 := by show 1 ≤ (st3.gv.map (sh d)).length; rw [List.length_map]; exact t.a5
  a6 := by show (st3.gv.map (sh d)).length < 60; rw [List.length_map]; exact t.a6
theorem told_of {P : Pile} {pl gr : List (Int × Int)} {ns0 : List Int} {S : List (List Int)} {last : Bool} (hA : chkA P ns0 S gr = true) (hB : ∀ ns ∈ S, chkB P pl ns last = true) : ∃ st1 x2 st3 so, Told P P pl gr ns0 last st1 x2 st3 so := by
  unfold chkA at hA
  split at hA
  · cases hA
  · rename_i st1 e1
    split at hA
    · cases hA
    · rename_i x2 e2
      split at hA
      · cases hA
      · rename_i so e3
        have q := of_decide_eq_true hA
        obtain ⟨q1, q2, q3, q4, q5, q6, q7, q8, q9⟩ := q
        have hb := hB _ q9
        unfold chkB at hb
        split at hb
        · cases hb
        · rename_i st3 e4
          have p := of_decide_eq_true hb
          exact ⟨st1, x2, st3, so, e1, e2, e3, q1, q2, q3, q4, q5, q6, q7, q8, e4, p.1, p.2.1, p.2.2.1, p.2.2.2.1, p.2.2.2.2⟩
theorem told_box {r c : Int} {S : List (List Int)} (hA : okA r c S = true) (hB : okB r c S = true) {f s g1 g2 : Nat} {last : Bool} (hf : f < (r * c).toNat) (hs : s < (r * c).toNat) (h1 : g1 = 1 ∨ g1 = 2) (h2 : g2 = 0 ∨ g2 = 1) :
    ∃ st1 x2 st3 so, Told (boxP r c) (boxP r c) (placesP r c 0) (List.replicate g1 ((placesP r c 0).getD f (0, 0)) ++ List.replicate g2 ((placesP r c 0).getD s (0, 0))) (List.replicate (r * c).toNat 3) last st1 x2 st3 so := by
  have a := List.all_eq_true.mp hA f (List.mem_range.mpr hf)
  have a := List.all_eq_true.mp a s (List.mem_range.mpr hs)
  have a := List.all_eq_true.mp a g1 (by rcases h1 with e | e <;> rw [e] <;> simp)
  have a := List.all_eq_true.mp a g2 (by rcases h2 with e | e <;> rw [e] <;> simp)
  refine told_of a fun ns hn => ?_
  have b := List.all_eq_true.mp hB ns hn
  rw [Bool.and_eq_true] at b
  cases last with
  | false => exact b.1
  | true => exact b.2
theorem box_all {r c : Int} (hr : r = 1 ∨ r = 2) (hc : c = 1 ∨ c = 2 ∨ c = 3) : ∃ S, okA r c S = true ∧ okB r c S = true := by
  rcases hr with rfl | rfl <;> rcases hc with rfl | rfl | rfl
  · exact ⟨_, okA11, okB11⟩
  · exact ⟨_, okA12, okB12⟩
  · exact ⟨_, okA13, okB13⟩
  · exact ⟨_, okA21, okB21⟩
  · exact ⟨_, okA22, okB22⟩
  · exact ⟨_, okA23, okB23⟩
theorem box_moved {P : Pile} {r c low : Int} (b : P.Box r c low) : Moved P (boxP r c) low := by
  obtain ⟨e1, e2, e3, e4⟩ := b
  intro x y
  unfold Pile.at
  rw [e1, e2, e3, e4]
  show (if low ≤ x + low ∧ x + low ≤ low + r - 1 ∧ 1 ≤ y ∧ y ≤ c then some ((x + low - low) * (c - 1 + 1) + (y - 1)).toNat else none) = (if 0 ≤ x ∧ x ≤ r - 1 ∧ 1 ≤ y ∧ y ≤ c then some ((x - 0) * (c - 1 + 1) + (y - 1)).toNat else none)
  rw [show x + low - low = x by omega, show x - 0 = x by omega]
  by_cases h : 0 ≤ x ∧ x ≤ r - 1 ∧ 1 ≤ y ∧ y ≤ c
  · rw [if_pos h, if_pos (by omega)]
  · rw [if_neg h, if_neg (by omega)]
theorem places_sh (r c low : Int) : placesP r c low = (placesP r c 0).map (sh low) := by
  unfold placesP
  rw [List.map_map]
  refine List.map_congr_left fun k _ => ?_
  show (low + Int.fdiv k c, 1 + Int.fmod k c) = (0 + Int.fdiv k c + low, 1 + Int.fmod k c)
  rw [show 0 + Int.fdiv k c + low = low + Int.fdiv k c by omega]
theorem plain_law {P1 P2 : Pile} {r c low f s z : Int} (b1 : P1.Box r c low) (b2 : P2.Box r c low) (hr : r = 1 ∨ r = 2) (hc : c = 1 ∨ c = 2 ∨ c = 3) (hf0 : 0 ≤ f) (hf1 : f < r * c) (hs0 : 0 ≤ s) (hs1 : s < r * c) :
    ∃ st1 x2 st3 so, Told P1 P2 (placesP r c low) (grainsP ((placesP r c low).getD f.toNat (0, 0)) ((placesP r c low).getD s.toNat (0, 0)) z) (List.replicate (r * c).toNat 3) ((z.fdiv 4).fmod 2 == 1) st1 x2 st3 so := by
  obtain ⟨S, hA, hB⟩ := box_all hr hc
  have z1 := Int.fmod_nonneg_of_pos z (b := 2) (by decide)
  have z2 := Int.fmod_lt_of_pos z (b := 2) (by decide)
  have z3 := Int.fmod_nonneg_of_pos (z.fdiv 2) (b := 2) (by decide)
  have z4 := Int.fmod_lt_of_pos (z.fdiv 2) (b := 2) (by decide)
  obtain ⟨st1, x2, st3, so, t⟩ := told_box hA hB (f := f.toNat) (s := s.toNat) (g1 := (1 + z.fmod 2).toNat) (g2 := ((z.fdiv 2).fmod 2).toNat) (last := (z.fdiv 4).fmod 2 == 1) (by omega) (by omega) (by omega) (by omega)
  refine ⟨shS low st1, shS low x2, shS low st3, so.map (sh low), ?_⟩
  · have t' := told_sh (box_moved b1) (box_moved b2) t
    rw [List.map_append, List.map_replicate, List.map_replicate] at t'
    rw [places_sh, getD_sh (by rw [placesP_len]; omega), getD_sh (by rw [placesP_len]; omega)]
    exact t'
end Mine
namespace Mine
/-- a turn's end of a loop over a list; the iterator is kept in sight -/
def TurnEnd (h₀ : Heap) (L I : Addr) (oI : Obj) (K : (Str → Option Value) → List (Addr × Obj) → Prop) (Q : Flow → Shared → Prop) (s₁ : Shared) (f : Flow) (s₂ : Shared) : Prop :=
  match f with
  | .ret v => Q (.ret v) s₂
  | .brk => Q .next s₂
  | _ => ∃ h' tk m nx, s₂ = { s₁ with heap := h', toks := tk } ∧ Fr h₀ L h' m ∧ News h₀ L h' ((I, oI) :: nx) ∧ (∀ q ∈ nx, @Ne Nat q.1 I) ∧ K m nx
section
variable {prog : Program} {w : World} {A : Around} {E : Value → Shared → Prop} {s : Shared} {env : Env} {h₀ : Heap} {x : Str} {body : List PySem.Stmt} {Q : Flow → Shared → Prop}
theorem list_turns {l : Addr} {vs : List Value} {nn : Nat} {m₀ : Str → Option Value} {news : List (Addr × Obj)} (J : Nat → (Str → Option Value) → List (Addr × Obj) → Prop)
    (hh : A.handled = none) (hl : (l, listOf vs.toArray nn) ∈ news) (F : Fr h₀ env.locals s.heap m₀) (N : News h₀ env.locals s.heap news) (hj : J 0 m₀ news)
    (turn : ∀ i v m₁ nx h tk I oI, vs[i]? = some v → Value.type "tuple" ≠ oI.cls → (∀ q ∈ nx, @Ne Nat q.1 I) → (l, listOf vs.toArray nn) ∈ nx → J i m₁ nx → Fr h₀ env.locals h (fun y => if y = x then some v else m₁ y) → News h₀ env.locals h ((I, oI) :: nx) →
      wpAny (model prog w) A (execs body env) (TurnEnd h₀ env.locals I oI (fun m nx => (l, listOf vs.toArray nn) ∈ nx ∧ J (i + 1) m nx) Q { s with heap := h, toks := tk }) E { s with heap := h, toks := tk })
    (done : ∀ m₁ nx h tk, J vs.length m₁ nx → Fr h₀ env.locals h m₁ → News h₀ env.locals h nx → Q .next { s with heap := h, toks := tk }) :
    wpAny (model prog w) A (pyIter (.ref l)) (fun it s₂ => LoopAtV prog w A h₀ env x body Q E it s₂) E s := by
  have here : s.heap.get? l = some (listOf vs.toArray nn) := (N _ hl).1
  have isl : s.heap.IsList l vs.toArray := ⟨_, here, rfl, nn, rfl⟩
  have old : l ≠ s.heap.objs.size := Nat.ne_of_lt (Heap.lt_size here)
  have new0 : h₀.get? s.heap.objs.size = none := next_is_new F
  have notL : env.locals ≠ s.heap.objs.size := Nat.ne_of_lt F.ns.lt
  refine wpAny_pyIter_list isl ⟨s.heap.objs.size, _, _, vs.toArray.size, _, _, m₀, news, fun i m nx => (l, listOf vs.toArray nn) ∈ nx ∧ J i m nx, rfl, Walks.list hh s.heap.objs.size l old vs.toArray, ?_, ?_, ?_, ?_, F.push _, ?_, ⟨hl, hj⟩, ?_, ?_⟩
  · simp only [List.mem_cons, List.not_mem_nil, or_false, not_or]
    exact ⟨notL, fun e => (N _ hl).2.1 e.symm⟩
  · exact fun b hb => by rw [List.mem_singleton.mp hb]; exact new0
  · exact fun p hp hI => Nat.ne_of_lt (Heap.lt_size (N p hp).1) (List.mem_singleton.mp hI)
  · exact ⟨⟨_, Heap.get?_push_size _ rfl, rfl, rfl⟩, ⟨_, Heap.get?_push_of_some _ here, rfl, nn, rfl⟩⟩
  · exact fun p hp => ⟨Heap.get?_push_of_some _ (N p hp).1, (N p hp).2⟩
  · rintro i v m₁ nx s₁ own ⟨h, tk, rfl⟩ hi hP ⟨hl1, hJ⟩ hoff hown hget hfp ⟨⟨oI, hoI, hcI, hdI⟩, -⟩ F₁ N₁
    have hI : (s.heap.objs.size, oI) ∈ own := hfp _ (.head _) new0 oI hoI
    have N₂ : News h₀ env.locals h ((s.heap.objs.size, oI) :: nx) := List.forall_mem_cons.mpr ⟨N₁ _ (List.mem_append.mpr (.inl hI)), fun p hp => N₁ p (List.mem_append.mpr (.inr hp))⟩
    have ne : ∀ q ∈ nx, @Ne Nat q.1 s.heap.objs.size := fun q hq e => hoff q hq (List.mem_singleton.mpr e)
    have hl2 : h.get? l = some (listOf vs.toArray nn) := (N₁ _ (List.mem_append.mpr (.inr hl1))).1
    refine wpAny_mono (turn i v m₁ nx h tk _ oI (by simpa using hP) (by rw [hcI]; decide) ne hl1 hJ F₁ N₂) (fun f s₂ p => ?_) fun _ _ e => e
    have back : (∃ h' tk' m nx', s₂ = { s with heap := h', toks := tk' } ∧ Fr h₀ env.locals h' m ∧ News h₀ env.locals h' ((s.heap.objs.size, oI) :: nx') ∧ (∀ q ∈ nx', @Ne Nat q.1 s.heap.objs.size) ∧ (l, listOf vs.toArray nn) ∈ nx' ∧ J (i + 1) m nx') →
        LoopStepU h₀ env.locals [s.heap.objs.size] own (fun m nx => (l, listOf vs.toArray nn) ∈ nx ∧ J (i + 1) m nx) { s with heap := h, toks := tk } .next s₂ := by
      rintro ⟨h', tk', m', nx', rfl, F', N', ne', hl', hJ'⟩
      refine LoopStepU.intro (s₁ := { s with heap := h, toks := tk }) F' (List.forall_mem_append.mpr ⟨fun p hp => ?_, fun p hp => N' p (.tail _ hp)⟩) (fun p hp hI => ne' p hp (List.mem_singleton.mp hI)) ⟨hl', hJ'⟩
      have g := hget p hp
      rcases List.mem_cons.mp (hown p hp) with e | e
      · rw [e] at g
        have g' : h.get? s.heap.objs.size = some p.2 := g
        rw [hoI] at g'
        rw [show p = (s.heap.objs.size, oI) from Prod.ext e (Option.some.inj g').symm]
        exact N' _ (.head _)
      · have e' := List.mem_singleton.mp e
        rw [e'] at g
        have g' : h.get? l = some p.2 := g
        rw [hl2] at g'
        rw [show p = (l, listOf vs.toArray nn) from Prod.ext e' (Option.some.inj g').symm]
        exact N' _ (.tail _ hl')
    cases f with
    | ret v => exact p
    | brk => exact p
    | next => exact LoopStepV.next (back p)
    | cont => exact LoopStepV.cont (back p)
  · rintro h tk m' nx F' N' - ⟨-, hJ⟩
    rw [List.size_toArray] at hJ
    exact done m' nx h tk hJ F' N'
end
end Mine
namespace Mine
theorem foldS_cons {P : Pile} {q : Int × Int} {r : List (Int × Int)} {x x2 : St} (h : foldS P (q :: r) x = some x2) :
    ∃ st, runF P (putNs P x.ns q.1 q.2 1).sum true 100 ⟨putNs P x.ns q.1 q.2 1, 0, [q], []⟩ = some st ∧ st.gv.length ≤ 100 ∧ foldS P r ⟨st.ns, x.lost + st.lost, [], x.gv ++ st.gv⟩ = some x2 := by
  simp only [foldS] at h
  split at h
  · cases h
  · rename_i st e
    split at h
    · rename_i hl
      exact ⟨st, e, hl, h⟩
    · cases h
theorem drop_at {gr : List (Int × Int)} {i : Nat} {q : Int × Int} (h : gr[i]? = some q) : gr.drop i = q :: gr.drop (i + 1) := by
  obtain ⟨hi, e⟩ := List.getElem?_eq_some_iff.mp h
  rw [List.drop_eq_getElem_cons hi, e]
/-- what stands between two turns of the loop that lets one grain fall after the other -/
structure GoJ (P1 P2 : Pile) (l1 : Addr × Obj) (nms : List (Str × Value)) (R2 : List (Addr × Obj)) (gr : List (Int × Int)) (x2 : St) (size : Nat) (i : Nat) (m : Str → Option Value) (nx : List (Addr × Obj))
    (vs : List Value) (k : Nat) (Rn : List (Addr × Obj)) (ga : Addr) (gan : Nat) (gavs : List Value) (lo : Int) (tl : Tok) (ns : List Int) (gv : List (Int × Int)) : Prop where
  led : nx = (P2.it, listOf vs.toArray k) :: l1 :: Rn
  sub : ∀ q ∈ R2, q ∈ Rn
  apart : Apart P1 P2 Rn
  names : ∀ q ∈ (Str.ofString "gave", Value.ref ga) :: (Str.ofString "lost", Value.int lo tl) :: nms, m q.1 = some q.2
  inum : IntsAre vs ns
  len : ns.length = size
  gave : (ga, listOf gavs.toArray gan) ∈ Rn
  dat : DatAll Rn gavs (gv.map pdat)
  run : foldS P2 (gr.drop i) ⟨ns, lo, [], gv⟩ = some x2
  glen : gv.length ≤ 100 * i
end Mine
namespace Mine
theorem pdat_inj {a b : Int × Int} (h : pdat a = pdat b) : a = b := by
  obtain ⟨a1, a2⟩ := a
  obtain ⟨b1, b2⟩ := b
  have e := Dat.tuple.inj h
  have e1 := (List.cons.inj e).1
  have e2 := (List.cons.inj (List.cons.inj e).2).1
  have f1 : a1 = b1 := Dat.int.inj e1
  have f2 : a2 = b2 := Dat.int.inj e2
  rw [f1, f2]
theorem pdat_mem {q : Int × Int} {ps : List (Int × Int)} : pdat q ∈ ps.map pdat ↔ q ∈ ps := by
  constructor
  · intro h
    obtain ⟨x, hx, e⟩ := List.mem_map.mp h
    rw [← pdat_inj e]
    exact hx
  · exact fun h => List.mem_map_of_mem h
section
variable {prog : Program} {w : World} {A : Around} {E : Value → Shared → Prop} {s : Shared} {h₀ : Heap} {L l a : Addr} {news pool pool2 : List (Addr × Obj)} {us : List Value} {ps : List (Int × Int)} {q : Int × Int} {n : Nat} {Q : Value → Shared → Prop}
theorem place_notin (N : News h₀ L s.heap news) (hm : (l, listOf us.toArray n) ∈ news) (hD : DatAll pool us (ps.map pdat)) (hp : ∀ p ∈ pool, p ∈ news) (hx : DatIn pool2 (.ref a) (pdat q)) (hp2 : ∀ p ∈ pool2, p ∈ news) (hu : A.units + 64 < cLine)
    (h : Q (.bool (!decide (q ∈ ps))) s) : wpAny (model prog w) A (compareOp .NotIn (.ref a) (.ref l)) Q E s := by
  classical
  refine kqd_notIn N hm rfl rfl hD hp hx hp2 (fun d hd => ?_) rfl hu ?_
  · obtain ⟨x, _, hx⟩ := List.mem_map.mp hd
    subst hx
    rfl
  · by_cases hq : q ∈ ps
    · rw [decide_eq_true (pdat_mem.mpr hq)]
      rw [decide_eq_true hq] at h
      exact h
    · rw [decide_eq_false (fun e => hq (pdat_mem.mp e))]
      rw [decide_eq_false hq] at h
      exact h
end
section
variable {prog : Program} {w : World} {A : Around} {E : Value → Shared → Prop} {s : Shared} {h₀ : Heap} {L l l' : Addr} {news pool pool2 : List (Addr × Obj)} {us ws : List Value} {ps : List (Int × Int)} {n k : Nat} {Q : Value → Shared → Prop}
theorem pdat_ok (ps : List (Int × Int)) : ∀ d ∈ ps.map pdat, kqdOk 8 d = true := fun d hd => by
  obtain ⟨x, _, hx⟩ := List.mem_map.mp hd
  subst hx
  rfl
theorem places_eq (N : News h₀ L s.heap news) (hm : (l, listOf us.toArray n) ∈ news) (hD : DatAll pool us (ps.map pdat)) (hp : ∀ p ∈ pool, p ∈ news) (hm2 : (l', listOf ws.toArray k) ∈ news) (hD2 : DatAll pool2 ws (ps.map pdat)) (hp2 : ∀ p ∈ pool2, p ∈ news) (hu : A.units + 64 < cLine)
    (h : Q (.bool true) s) : wpAny (model prog w) A (compareOp .Eq (.ref l) (.ref l')) Q E s := by
  classical
  refine kqd_eq N hm rfl rfl hD hp hm2 rfl rfl hD2 hp2 (pdat_ok ps) (pdat_ok ps) hu ?_
  rw [decide_eq_true rfl]
  exact h
theorem ints_dat : ∀ {us : List Value} {ns : List Int}, IntsAre us ns → DatAll [] us (ns.map Dat.int)
  | _, _, .nil => .nil
  | _, _, .cons n t h => .cons (.int n t) (ints_dat h)
theorem ints_eq {ns : List Int} (N : News h₀ L s.heap news) (hm : (l, listOf us.toArray n) ∈ news) (hI : IntsAre us ns) (hm2 : (l', listOf ws.toArray k) ∈ news) (hI2 : IntsAre ws ns) (hu : A.units + 64 < cLine)
    (h : Q (.bool true) s) : wpAny (model prog w) A (compareOp .Eq (.ref l) (.ref l')) Q E s := by
  classical
  have ok : ∀ d ∈ ns.map Dat.int, kqdOk 8 d = true := fun d hd => by
    obtain ⟨x, _, hx⟩ := List.mem_map.mp hd
    subst hx
    rfl
  refine kqd_eq N hm rfl rfl (ints_dat hI) (fun _ h => nomatch h) hm2 rfl rfl (ints_dat hI2) (fun _ h => nomatch h) ok ok hu ?_
  rw [decide_eq_true rfl]
  exact h
end
section
variable {prog : Program} {w : World} {A : Around} {h₀ : Heap} {L : Addr} {m : Str → Option Value} {env : Env} {ct elt : PySem.Expr} {x : Str} {scope : Scope} {cl : List (Str × Addr)} {s : Shared} {S : List (Addr × Obj) → Prop} {Fin : List Value → List (Addr × Obj) → Prop} {base pool : List (Addr × Obj)}
/-- a comprehension with a test over a list of pairs that hands the pairs on -/
theorem kct_pairs {vs : List Value} {qs : List (Int × Int)} (p : Int × Int → Bool) (hD : DatAll pool vs (qs.map pdat))
    (turn : ∀ q a I oI C oC D m₂ ys h tk (E' : Value → Shared → Prop), DatIn pool (.ref a) (pdat q) → LCg.NsObj oC m₂ → m₂ x = some (.ref a) → Fr h₀ L h m → News h₀ L h ((I, oI) :: (C, oC) :: (D, LCg.lst ys) :: base) → LCg.Off3 I C D base → ((@Ne Nat I C) ∧ (@Ne Nat I D) ∧ (@Ne Nat C D)) →
      wpAny (model prog w) A (isTrue ct (compEnvC scope cl C env) (eval ct (compEnvC scope cl C env))) (fun ok s' => if ok = true then
        wpAny (model prog w) A (eval elt (compEnvC scope cl C env)) (LCg.CompEnd h₀ L m { s with heap := h, toks := tk } I oI C oC D (LCg.lst ys) S (fun y news' => p q = true ∧ y = .ref a ∧ news' = base)) E' s'
        else LCg.CompEnd h₀ L m { s with heap := h, toks := tk } I oI C oC D (LCg.lst ys) S (fun _ news' => p q = false ∧ news' = base) Value.none s') E' { s with heap := h, toks := tk })
    (fin : ∀ ys, DatAll pool ys ((qs.filter p).map pdat) → Fin ys base) : LCt.CompRestT prog w A h₀ L m env ct elt x scope cl s S (fun i v => vs.toArray[i]? = some v) Fin vs.toArray.size 0 [] base := by
  have hlen : vs.length = qs.length := by rw [DatAll.length hD, List.length_map]
  have key : ∀ (j i : Nat) (ys : List Value), i + j = vs.length → DatAll pool ys (((qs.take i).filter p).map pdat) → LCt.CompRestT prog w A h₀ L m env ct elt x scope cl s S (fun i v => vs.toArray[i]? = some v) Fin j i ys base := by
    intro j
    induction j with
    | zero =>
      intro i ys hi hy
      rw [List.take_of_length_le (by omega)] at hy
      exact LCt.CompRestT.zero (fin ys hy)
    | succ j ih =>
      intro i ys hi hy
      refine LCt.CompRestT.succ ?_
      intro v I oI C oC D m₂ h tk E' hv hC hx F N off ne
      have hv' : vs[i]? = some v := by simpa using hv
      obtain ⟨q, hq, hd⟩ := dat_at hD hv'
      obtain ⟨a, t, u, n, rfl, -⟩ := dat_pair hd
      have hs : qs.take (i + 1) = qs.take i ++ [q] := by rw [List.take_add_one, hq]; rfl
      refine wpAny_mono (turn q a I oI C oC D m₂ ys h tk E' hd hC hx F N off ne) (fun ok s' hb => ?_) fun _ _ e => e
      cases ok with
      | true =>
        simp only [if_true] at hb ⊢
        refine wpAny_mono hb (fun y s₂ hq2 => ?_) fun _ _ e => e
        obtain ⟨h', tk', nw, e, F', N', off', hS, hp, hy', hn⟩ := hq2
        rw [hn] at N' off' hS
        refine ⟨h', tk', base, e, F', N', off', hS, ?_⟩
        rw [hy']
        refine ih (i + 1) _ (by omega) ?_
        rw [hs, List.filter_append, List.filter_cons_of_pos hp, List.filter_nil, List.map_append]
        exact DatAll.append hy (.one hd)
      | false =>
        simp only [Bool.false_eq_true, if_false] at hb ⊢
        obtain ⟨h', tk', nw, e, F', N', off', hS, hp, hn⟩ := hb
        rw [hn] at N' off' hS
        refine ⟨h', tk', base, e, F', N', off', hS, ?_⟩
        refine ih (i + 1) _ (by omega) ?_
        rw [hs, List.filter_append, List.filter_cons_of_neg (by rw [hp]; decide), List.filter_nil, List.append_nil]
        exact hy
  rw [List.size_toArray]
  exact key vs.length 0 [] (by omega) (by simp only [List.take_zero, List.filter_nil, List.map_nil]; exact .nil)
end
/-- what stands between two turns of the loop that puts as many grains as each place has open sides -/
structure ManyJ (P : Pile) (R : List (Addr × Obj)) (nms : List (Str × Value)) (pl : List (Int × Int)) (fin : List Int × Int) (size : Nat) (i : Nat) (m : Str → Option Value) (nx : List (Addr × Obj)) (vs : List Value) (k : Nat) (ns : List Int) (put : Int) (tp : Tok) : Prop where
  led : nx = (P.it, listOf vs.toArray k) :: R
  names : ∀ q ∈ (Str.ofString "put", Value.int put tp) :: nms, m q.1 = some q.2
  inum : IntsAre vs ns
  len : ns.length = size
  run : foldM P pl (pl.drop i) (ns, put) = fin
theorem foldM_len {P : Pile} {pl : List (Int × Int)} : ∀ (r : List (Int × Int)) (x : List Int × Int), (foldM P pl r x).1.length = x.1.length
  | [], _ => rfl
  | q :: r, x => by
    show (foldM P pl r (putNs P x.1 q.1 q.2 _, _)).1.length = _
    rw [foldM_len r]
    exact putNs_len ..
end Mine
namespace Mine
theorem two_ways (x : Int) : 1 + x.fmod 2 = 1 ∨ 1 + x.fmod 2 = 2 := by
  rw [Int.fmod_eq_emod_of_nonneg x (by decide)]; omega
theorem three_ways (x : Int) : 1 + x.fmod 3 = 1 ∨ 1 + x.fmod 3 = 2 ∨ 1 + x.fmod 3 = 3 := by
  rw [Int.fmod_eq_emod_of_nonneg x (by decide)]; omega
theorem five_ways (x : Int) : -2 ≤ x.fmod 5 - 2 ∧ x.fmod 5 - 2 ≤ 2 := by
  rw [Int.fmod_eq_emod_of_nonneg x (by decide)]; omega
theorem with_pass {M : Model} {A : Around} {env : Env} {st : PySem.Stmt} {Q : Flow → Shared → Prop} {E : Value → Shared → Prop} {s : Shared} (h : PassesOwn M A env E → wpAny M A (exec st env) Q E s) (hp : PassesOwn M A env E) : wpAny M A (exec st env) Q E s := h hp
/-- the order of the addresses made so far -/
structure Ord4 (a b c d e : Nat) : Prop where
  ab : a < b
  bc : b < c
  cd : c < d
  de : d < e
theorem fm_lo (x : Int) : 0 ≤ x.fmod 2 := Int.fmod_nonneg_of_pos x (by decide)
theorem fm_hi (x : Int) : x.fmod 2 < 2 := Int.fmod_lt_of_pos x (by decide)
local macro_rules | `(tactic| walk_at "mine places") => `(tactic| ((with_reducible show wpAny _ _ (exec (Stmt.Assign [PySem.Expr.Name _ _] (PySem.Expr.ListComp _ _ _ _) _) _) _ _ _); refine Stop.out ?_))
local macro_rules | `(tactic| walk_at "mine cut") => `(tactic| (k_here; (with_reducible show wpAny _ _ (subscriptTail _ (PySem.Expr.Slice (some _) none none _) (Value.ref _) (Value.ref _)) _ _ _); k_dflt (refine' kmk_slice_ints ?F ?N ?l ?p ?q ?i ?m ?c ?_ ?s ?t ?z; (case F => k_asm); (case N => k_asm); (case l => kmk_list); (case p => kmk_part); (case q => kmk_part); (case i => l_ints); (case m => exact kmk_from (by l_ints) (Int.natCast_nonneg _)); (case c => exact List.length_drop ..); (case s => with_unfolding_all rfl); (case t => kmk_pure); (case z => exact Nat.le_of_ble_eq_true rfl)); intro D' ws' h' F' N' l1 hI' hC' hL'; (try k_lt l1); (try k_sweep)))
local macro_rules | `(tactic| walk_at "mine exec") => `(tactic| ((with_reducible show wpAny _ _ (exec _ _) _ _ _); refine Stop.out ?_))
local macro_rules | `(tactic| walk_at "mine comp") => `(tactic| ((with_reducible show wpAny _ _ (eval (PySem.Expr.ListComp _ _ _ _) _) _ _ _); refine Stop.out ?_))
local macro_rules | `(tactic| walk_at "mine item") => `(tactic| ((with_reducible show wpAny _ _ (subscriptTail _ _ (Value.ref _) (Value.int (Int.fmod _ _) _)) _ _ _); k_here; (with_unfolding_all refine' place_item ?k1 ?k2 ?k3 ?k4 ?k5 ?k6 ?_ ?k7; (case k1 => k_asm); (case k2 => k_memK); (case k3 => assumption); (case k4 => exact Int.fmod_nonneg_of_pos _ (by omega)); (case k5 => exact Int.fmod_lt_of_pos _ (by omega)); (case k6 => omega); (case k7 => with_unfolding_all rfl)); intro a' hD'))
local macro_rules | `(tactic| walk_at "mine len") => `(tactic| ((with_reducible show wpAny _ _ (call (Value.builtin "len") [Value.ref _]) _ _ _); k_here; (with_unfolding_all refine' list_len ?k1 ?k2 ?k3 ?_; (case k1 => k_asm); (case k2 => k_memK); (case k3 => omega)); (try dsimp only)))
local macro_rules | `(tactic| walk_at "mine mul") => `(tactic| ((with_reducible show wpAny _ _ (binaryOp Operator.Mult (Value.ref _) (Value.int _ _)) _ _ _); k_here; (refine' list_mul ?F ?N ?m ?lo ?hi ?_; (case F => k_asm); (case N => k_asm); (case m => k_memK); (case lo => omega); (case hi => omega)); intro D' h' F' N' l1; (try simp only [AllLt, and_true] at l1); (try k_sweep)))
local macro_rules | `(tactic| walk_at "mine add5") => `(tactic| ((with_reducible show wpAny _ _ (binaryOp Operator.Add (Value.ref _) (Value.ref _)) _ _ _); k_here; (refine' list_add ?F ?N ?m ?m2 ?lo ?hi ?_; (case F => k_asm); (case N => k_asm); (case m => k_memK); (case m2 => k_memK); (case lo => (simp only [List.length_replicate]; omega)); (case hi => (simp only [List.length_replicate]; omega))); intro D' h' F' N' l1; (try simp only [AllLt, and_true] at l1); (try k_sweep)))
local macro_rules | `(tactic| walk_at "mine array stop") => `(tactic| ((with_reducible show wpAny _ _ (call (Value.ref 208) _) _ _ _); refine Stop.out ?_))
local macro_rules | `(tactic| walk_at "mine array") => `(tactic| ((with_reducible show wpAny _ _ (call (Value.ref 208) _) _ _ _); k_here; (refine' array_spec ?k1 ?k2 ?k3 ?k4 ?k5 ?kH ?kA ?kF ?kK ?ka ?kb ?kc ?kd ?ke ?kf ?kg ?kh ?ki ?kj ?kx ?ky ?n1; (case kH => exact rfl); (case kA => exact rfl); (case kF => exact rfl); (case kK => exact rfl); (case k1 => k_asm); (case k2 => k_asm); (case k3 => k_asm); (case k4 => k_asm); (case k5 => k_asm); (case ka => k_memK); (case kb => k_memK); (case kc => k_memK); (case kd => assumption); (case ke => omega); (case kf => omega); (case kg => omega); (case kh => omega); (case ki => omega); (case kj => omega); (case kx => first | decide | k_room | ktr_room); (case ky => first | decide | k_units | ktr_units))))
local macro_rules | `(tactic| walk_at "mine iter") => `(tactic| ((with_reducible show wpAny _ _ (pyIter (Value.ref _)) (fun it s₂ => LoopAtV _ _ _ _ _ _ _ _ _ it s₂) _ _); refine Stop.out ?_))
local macro_rules | `(tactic| walk_at "mine for") => `(tactic| ((with_reducible show wpAny _ _ (exec (Stmt.For _ _ _ _ _) _) _ _ _); k_here; (rename Fr _ _ _ _ => lF'); (with_unfolding_all refine' For_invVF lF' ?k1 ?k2 ?_ (hE := by assumption); (case k1 => exact rfl); (case k2 => exact rfl); k_whole)))
local macro_rules | `(tactic| walk_at "mine put") => `(tactic| ((with_reducible show wpAny _ _ (call (Value.ref 283) _) _ _ _); refine Stop.out ?_))
local macro_rules | `(tactic| walk_at "mine fallen") => `(tactic| ((with_reducible show wpAny _ _ (call (Value.ref 297) _) _ _ _); refine Stop.out ?_))
local macro_rules | `(tactic| walk_at "mine add") => `(tactic| ((with_reducible show wpAny _ _ (binaryOp Operator.Add (Value.ref _) (Value.ref _)) _ _ _); k_here; (refine' list_add ?F ?N ?m ?m2 ?lo ?hi ?_; (case F => k_asm); (case N => k_asm); (case m => k_memK); (case m2 => k_memK); (case lo => omega); (case hi => omega)); intro D' h' F' N' l1; (try simp only [AllLt, and_true] at l1); (try k_sweep)))
local macro_rules | `(tactic| walk_at "mine sorted") => `(tactic| ((with_reducible show wpAny _ _ (call (Value.builtin "sorted") [Value.ref _]) _ _ _); k_here; (refine' sort_pairs ?F ?N ?m ?D ?p ?a ?b ?c ?_; (case F => k_asm); (case N => k_asm); (case m => k_memK); (case D => with_reducible assumption); (case p => kcf_all); (case a => assumption); (case b => omega); (case c => assumption)); intro D' c' h' vs' F' N' hD' l1; (try dsimp only); (try simp only [AllLt, and_true] at l1); (try k_sweep)))
local macro_rules | `(tactic| walk_at "mine call") => `(tactic| ((with_reducible show wpAny _ _ (call (Value.builtin _) _) _ _ _); refine Stop.out ?_))
local macro_rules | `(tactic| walk_at "mine forstop") => `(tactic| ((with_reducible show wpAny _ _ (exec (Stmt.For _ _ _ _ _) _) _ _ _); refine Stop.out ?_))
local macro_rules | `(tactic| walk_at "mine beside") => `(tactic| ((with_reducible show wpAny _ _ (call (Value.ref 290) _) _ _ _); refine Stop.out ?_))
local macro_rules | `(tactic| walk_at "mine notin") => `(tactic| ((with_reducible show wpAny _ _ (compareOp CmpOp.NotIn (Value.ref _) (Value.ref _)) _ _ _); refine Stop.out ?_))
local macro_rules | `(tactic| walk_at "mine cmp") => `(tactic| ((with_reducible show wpAny _ _ (compareOp CmpOp.Eq (Value.ref _) (Value.ref _)) _ _ _); refine Stop.out ?_))
set_option maxRecDepth 100000 in
set_option maxHeartbeats 0 in
theorem whole : PySem.Challenge.rw_xm0932_01.Holds := hd (by
  k_go0
  all_goals try k_fold
  repeat' (first
    | walk_at "mine places"
    | walk_at "mine cut"
    | (k_unfold; (try dsimp only)) | walk1 | (dsimp only; walk1) | fail "no step")
  refine Stop.mk ?_
  rename Shared => s₁
  rename (Shared.gens _ = #[]) => hg
  rename Flow → Shared → Prop => qk
  rename Value → Shared → Prop => ek
  rename Below callerA _ [] _ => K0
  rename Frag.In _ _ => KX
  rename Top _ _ _ _ _ _ => T
  rename News _ _ _ _ => N9
  rename Fr _ _ _ _ => F9
  rename IntsAre _ (List.map _ (List.take 6 _) ++ List.drop _ _) => hCI9
  have hq : ∀ (h' : Heap) (tk' : Nat) (m' : Str → Option Value), Fr s₁.heap s₁.heap.objs.size h' m' → qk (.ret (.bool true)) { heap := h', gens := s₁.gens, drawn := s₁.drawn, toks := tk', os := s₁.os } :=
    fun h' tk' m' F' => goodW_bool F' hg (raisesW_false (by wrow_none_raised)) (by wrow_post)
  refine with_pass (fun hpo => ?_) (by passes_own)
  clear_value qk ek
  repeat (rename CellsAre _ _ _ => hz; clear hz)
  repeat (rename Dflts _ _ _ _ _ _ => hz; clear hz)
  repeat (rename Heap.CodeRec _ _ _ => hz; clear hz)
  repeat (rename (Heap.get? _ _ = some _) => hz; clear hz)
  have ⟨C, cvs, r, c, low, t1, t2, t3, t4, t5, t6, t7, n0, n1, n2, n3, cl, bl, b0, b1, o1, o2, o3, v3, m9, hC, hCI, hr, hc, hlow, hm9, F8, N8, ho1, ho2, ho3, hord⟩ : ∃ (C : List Int) (cvs : List Value) (r c low : Int) (t1 t2 t3 t4 t5 t6 t7 : Tok) (n0 n1 n2 n3 : Nat) (cl bl b0 b1 : Addr) (o1 o2 o3 : Obj) (v3 : Option Value) (m9 : Str → Option Value),
      C = _ ∧ IntsAre cvs C ∧ r = 1 + (C.getD 0 0).fmod 2 ∧ c = 1 + (C.getD 1 0).fmod 3 ∧ low = (C.getD 2 0).fmod 5 - 2 ∧
      (∀ q ∈ [(Str.ofString "bounds", Value.ref bl), (Str.ofString "rows", Value.int r t7), (Str.ofString "cells", Value.ref cl)], m9 q.1 = some q.2) ∧ Fr s₁.heap s₁.heap.objs.size _ m9 ∧
      News s₁.heap s₁.heap.objs.size _ [(bl, listOf [Value.ref b0, Value.ref b1].toArray n0), (b0, tup2 low t1 (low + r - 1) t2 n1), (b1, tup2 1 t3 c t4 n2), (cl, listOf cvs.toArray n3), (s₁.heap.objs.size + 1 + 1 + 1, o3), (s₁.heap.objs.size + 1 + 1, o2), (s₁.heap.objs.size + 1, o1)] ∧
      o1.data = Data.cell (some (Value.int c t5)) ∧ o2.data = Data.cell (some (Value.int low t6)) ∧ o3.data = Data.cell v3 ∧
      Ord4 (s₁.heap.objs.size + 1 + 1 + 1) cl b0 b1 bl :=
    ⟨_, _, _, _, _, _, _, _, _, _, _, _, _, _, _, _, _, _, _, _, _, _, _, _, _, rfl, hCI9, rfl, rfl, rfl, by kst_all, F9, news_sub N9 (by kst_allIn), by assumption, by assumption, by assumption, by constructor <;> omega⟩
  have hr2 : r = 1 ∨ r = 2 := by rw [hr]; exact two_ways _
  have hc3 : c = 1 ∨ c = 2 ∨ c = 3 := by rw [hc]; exact three_ways _
  have hC6 : 6 ≤ C.length := by
    rw [hC, List.length_append, List.length_map, List.length_take, List.length_drop]
    simp only [Int.toNat_natCast, List.length_cons, List.length_nil]
    omega
  have hl5' := five_ways (C.getD 2 0)
  rw [← hlow] at hl5'
  clear N9 F9 hCI9 hr hc hlow hC
  repeat (rename (_ = Data.cell (bindC _ _ _ _)) => hz; clear hz)
  have hlo := hl5'.1
  have hhi := hl5'.2
  repeat (rename _ ∧ _ => hz; clear hz)
  repeat (rename IntsAre _ (List.take 6 _) => hz; clear hz)
  repeat (rename IntsAre _ (List.map _ _) => hz; clear hz)
  repeat (rename IntsAre _ (List.map _ _ ++ _) => hz; clear hz)
  repeat (rename IntsAre _ (List.drop _ _) => hz; clear hz)
  repeat (rename List.length _ = _ => hz; clear hz)
  repeat (rename List.length _ ≤ _ => hz; clear hz)
  refine Stop.out ?_
  refine Stop.mk ?_
  refine wpAny_mono (Q := fun f s' => Stop (∃ (h' : Heap) (tk' : Nat) (pls : Addr) (pn : Nat) (pvs : List Value) (o3' : Obj) (pool : List (Addr × Obj)) (m8 : Str → Option Value), f = .next ∧ s' = { heap := h', gens := s₁.gens, drawn := s₁.drawn, toks := tk', os := s₁.os } ∧ (∀ q ∈ [(Str.ofString "bounds", Value.ref bl), (Str.ofString "cells", Value.ref cl)], m8 q.1 = some q.2) ∧ Fr s₁.heap s₁.heap.objs.size h' m8 ∧
    News s₁.heap s₁.heap.objs.size h' ((bl, listOf [Value.ref b0, Value.ref b1].toArray n0) :: (b0, tup2 low t1 (low + r - 1) t2 n1) :: (b1, tup2 1 t3 c t4 n2) :: (cl, listOf cvs.toArray n3) :: (pls, listOf pvs.toArray pn) :: (s₁.heap.objs.size + 1 + 1 + 1, o3') :: pool) ∧
    o3'.data = Data.cell (some (Value.ref pls)) ∧ Tups pool ∧ DatAll pool pvs ((placesP r c low).map pdat))) ?mids3 ?afts3 (fun _ _ x => x)
  case mids3 =>
    have F7 := fr_named hm9 F8
    clear F8
    have hz1 : 0 ≤ r * c ∧ r * c ≤ 6 := by rcases hr2 with e | e <;> rcases hc3 with e' | e' | e' <;> rw [e, e'] <;> decide
    obtain ⟨hz1, hz2⟩ := hz1
    repeat' (first
      | walk_at "mine comp"
      | (k_unfold; (try dsimp only)) | walk1 | (dsimp only; walk1) | fail "no step")
    refine Stop.mk ?_
    refine LCg.ListComp_U (F₀ := F7) (by with_unfolding_all rfl) (by decide) (by rfl) (by decide) (by rfl) ?_
    repeat' (first
      | (with_reducible show LCg.CompSrc _ _ _ _ _ _ _ _ _ _ _ _ _ _; refine Stop.out ?_)
      | (k_unfold; (try dsimp only)) | walk1 | (dsimp only; walk1) | fail "no step")
    refine Stop.mk ?_
    rename IsRange _ _ _ _ _ _ _ _ => hR
    rename News _ _ _ _ => N7
    rename Fr _ _ _ _ => F6
    refine LCg.CompSrc.range rfl F6 N7 hR (small_one (by omega) (by omega) (by omega) (by omega)) (rangeSize_nat _ _) (by rw [sizeLine_eq]; omega) ?_
    intro g
    refine kcp_range (fun k : Int => (low + Int.fdiv k c, 1 + Int.fmod k c)) ?turns3 ?fins3
    case turns3 =>
      clear F6 N7
      intro k t I oI C' oC D m₂ ys h tk tl E' hk1 hk2 hC hx F5 N5 off ne
      have hcn : 1 ≤ c ∧ c ≤ 3 := by rcases hc3 with e | e | e <;> rw [e] <;> decide
      obtain ⟨hcn1, hcn2⟩ := hcn
      have N5' : News s₁.heap s₁.heap.objs.size h ((I, oI) :: (C', oC) :: (D, LCg.lst ys) :: (bl, listOf [Value.ref b0, Value.ref b1].toArray n0) :: (b0, tup2 low t1 (low + r - 1) t2 n1) :: (b1, tup2 1 t3 c t4 n2) :: (cl, listOf cvs.toArray n3) :: (s₁.heap.objs.size + 1 + 1 + 1, o3) :: (s₁.heap.objs.size + 1 + 1, o2) :: (s₁.heap.objs.size + 1, o1) :: tl) := news_sub N5 (by kcf_all)
      clear N5
      repeat' (first
        | (k_unfold; (try dsimp only)) | walk1 | (dsimp only; walk1) | fail "no step")
      rename News _ _ _ ((_, _) :: (I, oI) :: _) => nE
      rename Fr _ _ _ _ => fE
      rename _ ∧ _ => l1
      refine' LCg.CompEnd.intro fE nE _ ?subs3 ?offs3 trivial ⟨_, _, _, _, rfl, rfl, ?lts3⟩
      case subs3 => kcf_all
      case offs3 => exact ⟨⟨by k_ne, by k_ne, by k_ne⟩, off⟩
      case lts3 =>
        refine List.forall_mem_append.mpr ⟨fun o ho => tb_ltOf l1.2.2.2.2.2.2.2.2.2.2 o ho, ?_⟩
        repeat' (first | exact List.forall_mem_nil _ | refine List.forall_mem_cons.mpr ⟨by dsimp only; omega, ?_⟩)
    case fins3 =>
      intro ys tl hT hlt hD
      rw [Int.sub_zero] at hD
      unfold LCg.FinE
      intro D h tk F5 N5 o5
      have N5' : News s₁.heap s₁.heap.objs.size h ((s₁.heap.objs.size + 1 + 1 + 1, o3) :: (D, LCg.lst ys) :: (bl, listOf [Value.ref b0, Value.ref b1].toArray n0) :: (b0, tup2 low t1 (low + r - 1) t2 n1) :: (b1, tup2 1 t3 c t4 n2) :: (cl, listOf cvs.toArray n3) :: (s₁.heap.objs.size + 1 + 1, o2) :: (s₁.heap.objs.size + 1, o1) :: tl) := news_sub N5 (by kcf_all)
      clear N5
      have o5' := off1_mem o5
      have oD : @Ne Nat D (s₁.heap.objs.size + 1 + 1 + 1) := Ne.symm (o5' (s₁.heap.objs.size + 1 + 1 + 1, o3) (by kcf_m))
      have oT : OwnOff tl [s₁.heap.objs.size + 1 + 1 + 1] := fun q hq b hb => by
        rw [List.mem_singleton.mp hb]
        exact Nat.ne_of_gt (hlt q hq (s₁.heap.objs.size + 1 + 1 + 1, o3) (by kcf_m))
      obtain ⟨ord1, ord2, ord3, ord4⟩ := hord
      (try dsimp only)
      repeat' (first
        | (k_unfold; (try dsimp only)) | walk1 | (dsimp only; walk1) | fail "no step")
      rename News _ _ _ ((_, _) :: (D, _) :: _) => nE
      rename Fr _ _ _ _ => fE
      have ⟨m8, hm8, fE'⟩ : ∃ m8, (∀ q ∈ [(Str.ofString "bounds", Value.ref bl), (Str.ofString "cells", Value.ref cl)], m8 q.1 = some q.2) ∧ Fr s₁.heap s₁.heap.objs.size _ m8 := ⟨_, by kst_all, fE⟩
      exact Stop.mk ⟨_, _, D, _, ys, _, tl, m8, by first | trivial | rfl, rfl, hm8, fE', news_sub nE (by kcf_all), by assumption, hT, hD⟩
  clear hm9 F8 N8 ho1 ho2 ho3
  rintro f s' ⟨h8, tk8, pls, pn, pvs, o3', pool, m8, rfl, rfl, hm8, F7, N7, ho3, hT, hD⟩
  (try dsimp only)
  repeat' (first
    | walk_at "mine exec"
    | (k_unfold; (try dsimp only)) | walk1 | (dsimp only; walk1) | fail "no step")
  refine Stop.mk ?_
  have hpn : pvs.length = (r * c).toNat := by rw [DatAll.length hD, List.length_map, placesP_len]
  have hrc : 1 ≤ r * c ∧ r * c ≤ 6 := by rcases hr2 with e | e <;> rcases hc3 with e' | e' | e' <;> rw [e, e'] <;> decide
  have hpn1 : 1 ≤ pvs.length := by omega
  have hpn2 : pvs.length ≤ 6 := by omega
  refine wpAny_mono (Q := fun f s' => Stop (∃ (h' : Heap) (tk' : Nat) (m8 : Str → Option Value) (a1 a2 : Addr), f = .next ∧ s' = { heap := h', gens := s₁.gens, drawn := s₁.drawn, toks := tk', os := s₁.os } ∧
    (∀ q ∈ [(Str.ofString "bounds", Value.ref bl), (Str.ofString "cells", Value.ref cl), (Str.ofString "first", Value.ref a1), (Str.ofString "second", Value.ref a2)], m8 q.1 = some q.2) ∧ Fr s₁.heap s₁.heap.objs.size h' m8 ∧
    News s₁.heap s₁.heap.objs.size h' ((bl, listOf [Value.ref b0, Value.ref b1].toArray n0) :: (b0, tup2 low t1 (low + r - 1) t2 n1) :: (b1, tup2 1 t3 c t4 n2) :: (cl, listOf cvs.toArray n3) :: (pls, listOf pvs.toArray pn) :: (s₁.heap.objs.size + 1 + 1 + 1, o3') :: pool) ∧
    DatIn pool (.ref a1) (pdat ((placesP r c low).getD ((C.getD 3 0).fmod (pvs.length : Int)).toNat (0, 0))) ∧ DatIn pool (.ref a2) (pdat ((placesP r c low).getD ((C.getD 4 0).fmod (pvs.length : Int)).toNat (0, 0))))) ?mids4 ?afts4 (fun _ _ x => x)
  case mids4 =>
    have F8 := fr_named hm8 F7
    clear F7
    repeat' (first
      | walk_at "mine item"
      | walk_at "mine len"
      | (k_unfold; (try dsimp only)) | walk1 | (dsimp only; walk1) | fail "no step")
    rename News _ _ _ _ => nE
    rename Fr _ _ _ _ => fE
    rename DatIn _ _ (pdat (List.getD _ (Int.toNat (Int.fmod (List.getD _ (Int.toNat 3) _) _)) _)) => hDa
    rename DatIn _ _ (pdat (List.getD _ (Int.toNat (Int.fmod (List.getD _ (Int.toNat 4) _) _)) _)) => hDb
    refine' Stop.mk ⟨_, _, _, _, _, ?_, rfl, ?_, fE, news_sub nE (by kcf_all), hDa, hDb⟩
    · first | trivial | rfl
    · kst_all
  clear hm8 F7 N7
  rintro f s' ⟨h7, tk7, m7, a1, a2, rfl, rfl, hm7, F7, N7, hA1, hA2⟩
  (try dsimp only)
  repeat' (first
    | walk_at "mine exec"
    | (k_unfold; (try dsimp only)) | walk1 | (dsimp only; walk1) | fail "no step")
  refine Stop.mk ?_
  have hz1 := fm_lo (C.getD (Int.toNat 5) 0)
  have hz2 := fm_hi (C.getD (Int.toNat 5) 0)
  have hz3 := fm_lo ((C.getD (Int.toNat 5) 0).fdiv 2)
  have hz4 := fm_hi ((C.getD (Int.toNat 5) 0).fdiv 2)
  refine wpAny_mono (Q := fun f s' => Stop (∃ (h' : Heap) (tk' : Nat) (m8 : Str → Option Value) (grl : Addr) (grn : Nat) (gvs : List Value), f = .next ∧ s' = { heap := h', gens := s₁.gens, drawn := s₁.drawn, toks := tk', os := s₁.os } ∧
    (∀ q ∈ [(Str.ofString "bounds", Value.ref bl), (Str.ofString "cells", Value.ref cl), (Str.ofString "grains", Value.ref grl)], m8 q.1 = some q.2) ∧ Fr s₁.heap s₁.heap.objs.size h' m8 ∧
    News s₁.heap s₁.heap.objs.size h' ((grl, listOf gvs.toArray grn) :: (bl, listOf [Value.ref b0, Value.ref b1].toArray n0) :: (b0, tup2 low t1 (low + r - 1) t2 n1) :: (b1, tup2 1 t3 c t4 n2) :: (cl, listOf cvs.toArray n3) :: (pls, listOf pvs.toArray pn) :: (s₁.heap.objs.size + 1 + 1 + 1, o3') :: pool) ∧
    DatAll pool gvs ((grainsP ((placesP r c low).getD ((C.getD 3 0).fmod (pvs.length : Int)).toNat (0, 0)) ((placesP r c low).getD ((C.getD 4 0).fmod (pvs.length : Int)).toNat (0, 0)) (C.getD 5 0)).map pdat))) ?mids5 ?afts5 (fun _ _ x => x)
  case mids5 =>
    have F8 := fr_named hm7 F7
    clear F7
    repeat' (first
      | walk_at "mine mul"
      | walk_at "mine add5"
      | (k_unfold; (try dsimp only)) | walk1 | (dsimp only; walk1) | fail "no step")
    rename News _ _ _ _ => nE
    rename Fr _ _ _ _ => fE
    refine' Stop.mk ⟨_, _, _, _, _, _, ?_, rfl, ?_, fE, news_sub nE (by kcf_all), ?_⟩
    rotate_left 3
    · first | trivial | rfl
    · kst_all
    · unfold grainsP
      rw [List.map_append, List.map_replicate, List.map_replicate]
      exact DatAll.append (dat_rep hA1 _) (dat_rep hA2 _)
  clear hm7 F7 N7
  rintro f s' ⟨h6, tk6, m6, grl, grn, gvs, rfl, rfl, hm6, F6, N6, hG⟩
  (try dsimp only)
  repeat' (first
    | walk_at "mine exec"
    | (k_unfold; (try dsimp only)) | walk1 | (dsimp only; walk1) | fail "no step")
  refine Stop.mk ?_
  have hrc' : 0 ≤ r * c ∧ r * c ≤ 6 := ⟨by omega, hrc.2⟩
  refine wpAny_mono (Q := fun f s' => Stop (∃ (h' : Heap) (tk' : Nat) (m8 : Str → Option Value) (P1 P2 : Pile) (k1 k2 : Nat) (vs1 vs2 : List Value), f = .next ∧ s' = { heap := h', gens := s₁.gens, drawn := s₁.drawn, toks := tk', os := s₁.os } ∧
    (∀ q ∈ [(Str.ofString "cells", Value.ref cl), (Str.ofString "grains", Value.ref grl), (Str.ofString "pile", Value.ref P1.pi), (Str.ofString "other", Value.ref P2.pi)], m8 q.1 = some q.2) ∧ Fr s₁.heap s₁.heap.objs.size h' m8 ∧
    News s₁.heap s₁.heap.objs.size h' ((P1.it, listOf vs1.toArray k1) :: (P2.it, listOf vs2.toArray k2) :: rst P1 P2 grl grn gvs cl n3 cvs pls pn pvs (s₁.heap.objs.size + 1 + 1 + 1) o3' pool) ∧
    Apart P1 P2 (rst P1 P2 grl grn gvs cl n3 cvs pls pn pvs (s₁.heap.objs.size + 1 + 1 + 1) o3' pool) ∧ P1.Box r c low ∧ P2.Box r c low ∧
    IntsAre vs1 (List.replicate (r * c).toNat 3) ∧ IntsAre vs2 (List.replicate (r * c).toNat 3))) ?mids6 ?afts6 (fun _ _ x => x)
  case mids6 =>
    have F8 := fr_named hm6 F6
    clear F6
    repeat' (first
      | walk_at "mine array stop"
      | (k_unfold; (try dsimp only)) | walk1 | (dsimp only; walk1) | fail "no step")
    refine Stop.mk ?_
    walk_at "mine array"
    intro h5 tk5 P1 F5 N5 e1 e2 e3 e4 e5 l1
    (try dsimp only)
    simp only [Pile.led, List.cons_append, List.nil_append] at N5
    k_fold
    repeat' (first
      | walk_at "mine array stop"
      | (k_unfold; (try dsimp only)) | walk1 | (dsimp only; walk1) | fail "no step")
    refine Stop.mk ?_
    walk_at "mine array"
    intro h4 tk4 P2 F4 N4 f1 f2 f3 f4 f5 l2
    (try dsimp only)
    simp only [Pile.led, List.cons_append, List.nil_append] at N4
    k_fold
    repeat' (first
      | (k_unfold; (try dsimp only)) | walk1 | (dsimp only; walk1) | fail "no step")
    rename News _ _ _ _ => nE
    rename Fr _ _ _ _ => fE
    refine' Stop.mk ⟨_, _, _, P1, P2, 0, 0, List.replicate (r * c).toNat (Value.int 3 _), List.replicate (r * c).toNat (Value.int 3 _), ?trs6, rfl, ?nmss6, fE, news_sub nE ?subs6, ?aps6, ⟨e2, e3, e4, e5⟩, ⟨f2, f3, f4, f5⟩, ints_rep _, ints_rep _⟩
    case trs6 => first | trivial | rfl
    case nmss6 => kst_all
    case subs6 => kcf_all
    case aps6 =>
      refine' apart_make (news_sub nE ?s9s6) ?c1s6 ?c2s6 l1 ?l2s6 (.tail _ (.head _)) e1 f1 (by kcf_all) (by kcf_all) ?ors6
      case l2s6 => exact l2
      case s9s6 => kcf_all
      case c1s6 => rfl
      case c2s6 => rfl
      case ors6 =>
        refine List.forall_mem_cons.mpr ⟨.inl (by kcf_m), ?_⟩
        refine List.forall_mem_cons.mpr ⟨.inl (by kcf_m), ?_⟩
        refine List.forall_mem_cons.mpr ⟨.inl (by kcf_m), ?_⟩
        refine List.forall_mem_cons.mpr ⟨.inl (by kcf_m), ?_⟩
        refine List.forall_mem_cons.mpr ⟨.inl (by kcf_m), ?_⟩
        refine List.forall_mem_cons.mpr ⟨.inr (.inl (by kcf_m)), ?_⟩
        refine List.forall_mem_cons.mpr ⟨.inr (.inl (by kcf_m)), ?_⟩
        refine List.forall_mem_cons.mpr ⟨.inr (.inl (by kcf_m)), ?_⟩
        refine List.forall_mem_cons.mpr ⟨.inr (.inl (by kcf_m)), ?_⟩
        refine List.forall_mem_cons.mpr ⟨.inr (.inl (by kcf_m)), ?_⟩
        exact fun q hq => .inr (.inr ((by kcf_all : ∀ q ∈ (grl, listOf gvs.toArray grn) :: (cl, listOf cvs.toArray n3) :: (pls, listOf pvs.toArray pn) :: (s₁.heap.objs.size + 1 + 1 + 1, o3') :: pool, q ∈ (grl, listOf gvs.toArray grn) :: (bl, listOf [Value.ref b0, Value.ref b1].toArray n0) :: (b0, tup2 low t1 (low + r - 1) t2 n1) :: (b1, tup2 1 t3 c t4 n2) :: (cl, listOf cvs.toArray n3) :: (pls, listOf pvs.toArray pn) :: (s₁.heap.objs.size + 1 + 1 + 1, o3') :: pool) q hq))
  clear hm6 F6 N6
  rintro f s' ⟨h5, tk5, m5, P1, P2, k1, k2, vs1, vs2, rfl, rfl, hm5, F5, N5, hap, hB1, hB2, hI1, hI2⟩
  (try dsimp only)
  repeat' (first
    | walk_at "mine exec"
    | (k_unfold; (try dsimp only)) | walk1 | (dsimp only; walk1) | fail "no step")
  refine Stop.mk ?_
  have hr1' : 1 ≤ r ∧ r ≤ 2 := by omega
  have hc1' : 1 ≤ c ∧ c ≤ 3 := by omega
  have hf1 := hB1.fit hr1'.1 hr1'.2 hc1'.1 hc1'.2 hlo hhi
  have hf2 := hB2.fit hr1'.1 hr1'.2 hc1'.1 hc1'.2 hlo hhi
  generalize hgr : grainsP _ _ _ = gr at hG
  generalize hR : rst P1 P2 grl grn gvs cl n3 cvs pls pn pvs (s₁.heap.objs.size + 1 + 1 + 1) o3' pool = R at hap N5
  have mG : (grl, listOf gvs.toArray grn) ∈ R := by rw [← hR]; kcf_m
  have mP : ∀ q ∈ pool, q ∈ R := by rw [← hR]; kcf_all
  have F8 := fr_named hm5 F5
  clear F5
  refine wpAny_mono (Q := fun f s' => Stop (∃ (h' : Heap) (tk' : Nat) (m8 : Str → Option Value) (k1 : Nat) (vs1 : List Value), f = .next ∧ s' = { heap := h', gens := s₁.gens, drawn := s₁.drawn, toks := tk', os := s₁.os } ∧
    (∀ q ∈ [(Str.ofString "cells", Value.ref cl), (Str.ofString "grains", Value.ref grl), (Str.ofString "pile", Value.ref P1.pi), (Str.ofString "other", Value.ref P2.pi)], m8 q.1 = some q.2) ∧ Fr s₁.heap s₁.heap.objs.size h' m8 ∧
    News s₁.heap s₁.heap.objs.size h' ((P1.it, listOf vs1.toArray k1) :: (P2.it, listOf vs2.toArray k2) :: R) ∧
    IntsAre vs1 (putAll P1 gr (List.replicate (r * c).toNat 3)))) ?mids7 ?afts7 (fun _ _ x => x)
  case mids7 =>
    walk_at "mine for"
    repeat' (first
        | walk_at "mine iter"
        | (k_unfold; (try dsimp only)) | walk1 | (dsimp only; walk1) | fail "no step")
    refine Stop.mk ?_
    rename Fr _ _ _ _ => F8
    refine kdl_iter (nn := grn) (vs := gvs) (news := (P1.it, listOf vs1.toArray k1) :: (P2.it, listOf vs2.toArray k2) :: R)
      (fun i m nx => ∃ vs k, PutJ P1 ((P2.it, listOf vs2.toArray k2) :: R) [(Str.ofString "cells", Value.ref cl), (Str.ofString "grains", Value.ref grl), (Str.ofString "pile", Value.ref P1.pi), (Str.ofString "other", Value.ref P2.pi)] gr (List.replicate (r * c).toNat 3) i m nx vs k)
      rfl (.tail _ (.tail _ mG)) F8 N5 ⟨vs1, k1, rfl, by kst_all, hI1⟩ ?turns7 ?dones7
    case turns7 =>
      clear F8 N5 hI1
      rintro i v m₁ nx h tk own hv hown hl ⟨vs, k, rfl, jnames, jint⟩ F₁ N₁
      obtain ⟨q, hq, jv⟩ := dat_at hG hv
      obtain ⟨a, t, u, n, rfl, ha⟩ := dat_pair jv
      have F₂ := fr_named (names_more (x := Str.ofString "place") (v := Value.ref a) jnames (by rfl)) F₁
      have N₂ : News s₁.heap s₁.heap.objs.size h ((P1.it, listOf vs.toArray k) :: ((P2.it, listOf vs2.toArray k2) :: R ++ own)) := N₁
      clear F₁ N₁
      repeat' (first
        | walk_at "mine put"
        | (k_unfold; (try dsimp only)) | walk1 | (dsimp only; walk1) | fail "no step")
      refine Stop.mk ?_
      refine put_any K0 F₂ KX N₂ (own_off hown (List.forall_mem_cons.mpr ⟨Ne.symm hap.ne, hap.one⟩)) T rfl rfl rfl rfl jint (hB1.len hrc'.1 hrc'.2 (by rw [putAll_len, List.length_replicate])) (List.mem_append.mpr (.inl (.tail _ (mP _ ha)))) (fun q hq => List.mem_append.mpr (.inl (.tail _ (hap.led1 q hq)))) hf1 (by first | decide | k_room | ktr_room) (by first | decide | k_units | ktr_units) ?rets7
      intro h3 tk3 v vs' nn' F3 N3 hi3
      clear F₂ N₂
      (try dsimp only)
      (try k_fold)
      repeat' (first
        | (k_unfold; (try dsimp only)) | walk1 | (dsimp only; walk1) | fail "no step")
      exact InvEndG.intro (nx := (P1.it, listOf vs'.toArray nn') :: (P2.it, listOf vs2.toArray k2) :: R) F3 N3 ⟨.tail _ (.tail _ mG), vs', nn', rfl, by kst_all, by rw [putAll_step hq]; exact hi3⟩ hown
        (fun x hx => by rcases List.mem_cons.mp hx with rfl | hx; exact .head _; exact .tail _ (List.mem_append.mpr (.inl hx))) (fun x hx => .tail _ (List.mem_append.mpr (.inr hx)))
    case dones7 =>
      clear F8 N5 hI1
      rintro m₁ nx h tk ⟨vs, k, rfl, jnames, jint⟩ F₁ N₁
      have jl : gvs.length = gr.length := by rw [DatAll.length hG, List.length_map]
      rw [jl, List.take_length] at jint
      exact Stop.mk ⟨h, tk, m₁, k, vs, rfl, rfl, jnames, F₁, N₁, jint⟩
  clear hm5 F8 N5 hI1
  rintro f s' ⟨h4, tk4, m4, k1, vs1, rfl, rfl, hm4, F4, N4, hI1⟩
  (try dsimp only)
  repeat' (first
    | walk_at "mine exec"
    | (k_unfold; (try dsimp only)) | walk1 | (dsimp only; walk1) | fail "no step")
  refine Stop.mk ?_
  obtain ⟨st1, x2, st3, so, tell⟩ := plain_law (z := C.getD 5 0) (f := (C.getD 3 0).fmod (pvs.length : Int)) (s := (C.getD 4 0).fmod (pvs.length : Int)) hB1 hB2 hr2 hc3 (Int.fmod_nonneg_of_pos _ (by omega)) (by have := Int.fmod_lt_of_pos (C.getD 3 0) (b := (pvs.length : Int)) (by omega); omega) (Int.fmod_nonneg_of_pos _ (by omega)) (by have := Int.fmod_lt_of_pos (C.getD 4 0) (b := (pvs.length : Int)) (by omega); omega)
  rw [hgr] at tell
  have hgl : gr.length ≤ 10 := by
    rw [← hgr]
    unfold grainsP
    rw [List.length_append, List.length_replicate, List.length_replicate]
    have q1 : (1 + (C.getD 5 0).fmod 2).toNat ≤ 3 := by have := fm_hi (C.getD 5 0); omega
    have q2 : (((C.getD 5 0).fdiv 2).fmod 2).toNat ≤ 3 := by have := fm_hi ((C.getD 5 0).fdiv 2); omega
    omega
  refine wpAny_mono (Q := fun f s' => Stop (∃ (h' : Heap) (tk' : Nat) (m8 : Str → Option Value) (k1 rn gn1 : Nat) (vs1 g1vs : List Value) (rt gl1 : Addr) (tr : Tok) (R1 : List (Addr × Obj)), f = .next ∧ s' = { heap := h', gens := s₁.gens, drawn := s₁.drawn, toks := tk', os := s₁.os } ∧
    (∀ q ∈ [(Str.ofString "cells", Value.ref cl), (Str.ofString "grains", Value.ref grl), (Str.ofString "pile", Value.ref P1.pi), (Str.ofString "other", Value.ref P2.pi), (Str.ofString "one", Value.ref rt)], m8 q.1 = some q.2) ∧ Fr s₁.heap s₁.heap.objs.size h' m8 ∧
    News s₁.heap s₁.heap.objs.size h' ((P1.it, listOf vs1.toArray k1) :: (P2.it, listOf vs2.toArray k2) :: R1) ∧ (∀ q ∈ R, q ∈ R1) ∧ Apart P1 P2 R1 ∧ (rt, pairOf gl1 st1.lost tr rn) ∈ R1 ∧ (gl1, listOf g1vs.toArray gn1) ∈ R1 ∧ DatAll R1 g1vs (st1.gv.map pdat) ∧
    IntsAre vs1 st1.ns ∧ st1.ns.length = (r * c).toNat)) ?mids8 ?afts8 (fun _ _ x => x)
  case mids8 =>
    have F8 := fr_named hm4 F4
    clear F4
    repeat' (first
        | walk_at "mine fallen"
        | (k_unfold; (try dsimp only)) | walk1 | (dsimp only; walk1) | fail "no step")
    refine Stop.mk ?_
    refine fallen_call (rest := (P2.it, listOf vs2.toArray k2) :: R) K0 F8 KX N4 (List.forall_mem_cons.mpr ⟨Ne.symm hap.ne, hap.one⟩) T rfl rfl rfl rfl hI1 (hB1.len hrc'.1 hrc'.2 (by rw [putAll_len, List.length_replicate])) (.tail _ mG) (fun q hq => .tail _ (hap.led1 q hq)) hf1
      (by first | decide | k_room | ktr_room) (by first | decide | k_units | ktr_units) hG (fun q hq => .tail _ (mP q hq)) (by omega) tell.run1 ?rets8
    intro h3 tk3 rt gl1 g1vs vs' gn1 nn' rn tr pool1 F3 N3 hi3 hl3 hT1 hD1 lt1 lt2 lt3 lt4
    clear F8 N4
    (try dsimp only)
    (try k_fold)
    repeat' (first
      | (k_unfold; (try dsimp only)) | walk1 | (dsimp only; walk1) | fail "no step")
    rename News _ _ _ _ => nE
    rename Fr _ _ _ _ => fE
    have n1 : (P1.it, listOf vs'.toArray nn') ∈ (P1.it, listOf vs'.toArray nn') :: (rt, pairOf gl1 st1.lost tr rn) :: (gl1, listOf g1vs.toArray gn1) :: (pool1 ++ (P2.it, listOf vs2.toArray k2) :: R) := .head _
    have n2 : (P2.it, listOf vs2.toArray k2) ∈ (P1.it, listOf vs'.toArray nn') :: (rt, pairOf gl1 st1.lost tr rn) :: (gl1, listOf g1vs.toArray gn1) :: (pool1 ++ (P2.it, listOf vs2.toArray k2) :: R) := .tail _ (.tail _ (.tail _ (List.mem_append.mpr (.inr (.head _)))))
    have np : ∀ q ∈ pool1, q ∈ (P1.it, listOf vs'.toArray nn') :: (rt, pairOf gl1 st1.lost tr rn) :: (gl1, listOf g1vs.toArray gn1) :: (pool1 ++ (P2.it, listOf vs2.toArray k2) :: R) := fun q hq => .tail _ (.tail _ (.tail _ (List.mem_append.mpr (.inl hq))))
    refine Stop.mk ⟨_, _, _, nn', rn, gn1, vs', g1vs, rt, gl1, tr, (rt, pairOf gl1 st1.lost tr rn) :: (gl1, listOf g1vs.toArray gn1) :: pool1 ++ R, ?trs8, rfl, ?nmss8, fE, news_sub nE ?subs8, ?RRs8, ?aps8, .head _, .tail _ (.head _), ?dds8, hi3, ?lns8⟩
    case trs8 => first | trivial | rfl
    case nmss8 => kst_all
    case subs8 => 
      refine List.forall_mem_cons.mpr ⟨n1, List.forall_mem_cons.mpr ⟨n2, List.forall_mem_cons.mpr ⟨.tail _ (.head _), List.forall_mem_cons.mpr ⟨.tail _ (.tail _ (.head _)), List.forall_mem_append.mpr ⟨np, fun q hq => .tail _ (.tail _ (.tail _ (List.mem_append.mpr (.inr (.tail _ hq)))))⟩⟩⟩⟩⟩
    case RRs8 => exact fun q hq => List.mem_append.mpr (.inr hq)
    case aps8 =>
      refine apart_more hap ?x1s8 ?x2s8
      · exact List.forall_mem_cons.mpr ⟨Nat.ne_of_gt lt3, List.forall_mem_cons.mpr ⟨Nat.ne_of_gt lt4, Tups.off nE np hT1 n1 tuple_list⟩⟩
      · exact List.forall_mem_cons.mpr ⟨Nat.ne_of_gt (lt1 _ (.head _)), List.forall_mem_cons.mpr ⟨Nat.ne_of_gt (lt2 _ (.head _)), Tups.off nE np hT1 n2 tuple_list⟩⟩
    case dds8 => exact hD1.mono fun q hq => .tail _ (.tail _ (List.mem_append.mpr (.inl hq)))
    case lns8 => rw [hl3, putAll_len, List.length_replicate]
  clear hm4 F4 N4 hI1
  rintro f s' ⟨h3, tk3, m3, kA, rn, gn1, vsA, g1vs, rt, gl1, tr, R1, rfl, rfl, hm3, F3, N3, hRR, hap1, mOne, mGl1, hD1, hI1, hn1⟩
  clear hap
  (try dsimp only)
  repeat' (first
    | walk_at "mine exec"
    | (k_unfold; (try dsimp only)) | walk1 | (dsimp only; walk1) | fail "no step")
  refine Stop.mk ?_
  refine wpAny_mono (Q := fun f s' => Stop (∃ (h' : Heap) (tk' : Nat) (m8 : Str → Option Value) (ga : Addr) (tl : Tok) (R2 : List (Addr × Obj)), f = .next ∧ s' = { heap := h', gens := s₁.gens, drawn := s₁.drawn, toks := tk', os := s₁.os } ∧
    (∀ q ∈ [(Str.ofString "cells", Value.ref cl), (Str.ofString "grains", Value.ref grl), (Str.ofString "pile", Value.ref P1.pi), (Str.ofString "other", Value.ref P2.pi), (Str.ofString "one", Value.ref rt), (Str.ofString "gave", Value.ref ga), (Str.ofString "lost", Value.int 0 tl)], m8 q.1 = some q.2) ∧ Fr s₁.heap s₁.heap.objs.size h' m8 ∧
    News s₁.heap s₁.heap.objs.size h' ((P1.it, listOf vsA.toArray kA) :: (P2.it, listOf vs2.toArray k2) :: R2) ∧ (∀ q ∈ R1, q ∈ R2) ∧ Apart P1 P2 R2 ∧ (ga, listOf ([] : List Value).toArray 0) ∈ R2)) ?mids9 ?afts9 (fun _ _ x => x)
  case mids9 =>
    have F8 := fr_named hm3 F3
    clear F3
    repeat' (first
        | (k_unfold; (try dsimp only)) | walk1 | (dsimp only; walk1) | fail "no step")
    rename News _ _ _ _ => nE
    rename Fr _ _ _ _ => fE
    rename _ ∧ _ => lx
    clear lx
    rename _ ∧ _ => lx
    refine' Stop.mk ⟨_, _, _, _, tk3, [_] ++ R1, ?trs9, rfl, ?nmss9, fE, news_sub nE ?subs9, ?RRs9, ?aps9, .head _⟩
    rotate_left 1
    case trs9 => first | trivial | rfl
    case nmss9 => kst_all
    case subs9 => exact List.forall_mem_cons.mpr ⟨.tail _ (.tail _ (.head _)), List.forall_mem_cons.mpr ⟨.tail _ (.tail _ (.tail _ (.head _))), List.forall_mem_append.mpr ⟨List.forall_mem_cons.mpr ⟨.tail _ (.head _), fun _ h => nomatch h⟩, fun q hq => .tail _ (.tail _ (.tail _ (.tail _ hq)))⟩⟩⟩
    case RRs9 => exact fun q hq => List.mem_append.mpr (.inr hq)
    case aps9 =>
      refine apart_more hap1 ?x1s9 ?x2s9
      · exact List.forall_mem_cons.mpr ⟨Nat.ne_of_gt lx.1, fun _ h => nomatch h⟩
      · exact List.forall_mem_cons.mpr ⟨Nat.ne_of_gt lx.2.1, fun _ h => nomatch h⟩
  clear hm3 F3 N3
  rintro f s' ⟨h2, tk2, m2, ga, tl, R2, rfl, rfl, hm2, F2, N2, hRR2, hap2, mGa⟩
  have mOne2 := hRR2 _ mOne
  have mGl2 := hRR2 _ mGl1
  have hD2 := hD1.mono hRR2
  have hRR' : ∀ q ∈ R, q ∈ R2 := fun q hq => hRR2 q (hRR q hq)
  clear hap1 mOne mGl1 hD1 hRR2 hRR
  clear R1
  (try dsimp only)
  repeat' (first
    | walk_at "mine exec"
    | (k_unfold; (try dsimp only)) | walk1 | (dsimp only; walk1) | fail "no step")
  refine Stop.mk ?_
  have mG2 := hRR' _ mG
  have mP2 : ∀ q ∈ pool, q ∈ R2 := fun q hq => hRR' q (mP q hq)
  refine wpAny_mono (Q := fun f s' => Stop (∃ (h' : Heap) (tk' : Nat) (m8 : Str → Option Value) (kB gan : Nat) (vsB gavs : List Value) (ga : Addr) (tl : Tok) (R3 : List (Addr × Obj)), f = .next ∧ s' = { heap := h', gens := s₁.gens, drawn := s₁.drawn, toks := tk', os := s₁.os } ∧
    (∀ q ∈ [(Str.ofString "gave", Value.ref ga), (Str.ofString "lost", Value.int x2.lost tl), (Str.ofString "cells", Value.ref cl), (Str.ofString "pile", Value.ref P1.pi), (Str.ofString "other", Value.ref P2.pi), (Str.ofString "one", Value.ref rt)], m8 q.1 = some q.2) ∧ Fr s₁.heap s₁.heap.objs.size h' m8 ∧
    News s₁.heap s₁.heap.objs.size h' ((P2.it, listOf vsB.toArray kB) :: (P1.it, listOf vsA.toArray kA) :: R3) ∧ (∀ q ∈ R2, q ∈ R3) ∧ Apart P1 P2 R3 ∧ (ga, listOf gavs.toArray gan) ∈ R3 ∧ DatAll R3 gavs (x2.gv.map pdat) ∧ IntsAre vsB x2.ns)) ?mids10 ?afts10 (fun _ _ x => x)
  case mids10 =>
    have F8 := fr_named hm2 F2
    clear F2
    walk_at "mine for"
    repeat' (first
        | walk_at "mine iter"
        | (k_unfold; (try dsimp only)) | walk1 | (dsimp only; walk1) | fail "no step")
    refine Stop.mk ?_
    rename Fr _ _ _ _ => F8
    have N2' : News s₁.heap s₁.heap.objs.size h2 ((P2.it, listOf vs2.toArray k2) :: (P1.it, listOf vsA.toArray kA) :: R2) := news_sub N2 (by kcf_all)
    refine list_turns (nn := grn) (vs := gvs)
      (fun i m nx => ∃ vs k Rn ga gan gavs lo tl ns gv, GoJ P1 P2 (P1.it, listOf vsA.toArray kA) [(Str.ofString "cells", Value.ref cl), (Str.ofString "pile", Value.ref P1.pi), (Str.ofString "other", Value.ref P2.pi), (Str.ofString "one", Value.ref rt)] R2 gr x2 (r * c).toNat i m nx vs k Rn ga gan gavs lo tl ns gv)
      rfl (.tail _ (.tail _ mG2)) F8 N2' ⟨vs2, k2, R2, ga, 0, [], 0, tl, List.replicate (r * c).toNat 3, [], rfl, fun _ h => h, hap2, by kst_all, hI2, List.length_replicate, mGa, .nil, tell.run2, Nat.zero_le _⟩ ?turns10 ?dones10
    case dones10 =>
      rintro m₁ nx h tk ⟨vs, k, Rn, gb, gan, gavs, lo, tb, ns, gv, rfl, jsub, japart, jnames, jint, jlen, jgave, jdat, jrun, jgl⟩ F₁ N₁
      have jl : gvs.length = gr.length := by rw [DatAll.length hG, List.length_map]
      rw [jl, List.drop_length] at jrun
      have je : (⟨ns, lo, [], gv⟩ : St) = x2 := Option.some.inj jrun
      subst je
      exact Stop.mk ⟨h, tk, m₁, k, gan, vs, gavs, gb, tb, Rn, rfl, rfl, jnames, F₁, N₁, jsub, japart, jgave, jdat, jint⟩
    case turns10 =>
      clear F8 N2 N2'
      rintro i v m₁ nx h tk I oI hv hoI hne hl ⟨vs, k, Rn, gb, gan, gavs, lo, tb, ns, gv, rfl, jsub, japart, jnames, jint, jlen, jgave, jdat, jrun, jgl⟩ F₁ N₁
      obtain ⟨q, hq, jv⟩ := dat_at hG hv
      have jv9 := jv
      obtain ⟨a, t, u, n, rfl, ha⟩ := dat_pair jv
      have ha2 : (a, tup2 q.1 t q.2 u n) ∈ Rn := jsub _ (mP2 _ ha)
      rw [drop_at hq] at jrun
      obtain ⟨st, jr1, jr2, jr3⟩ := foldS_cons jrun
      dsimp only at jr1 jr3
      clear jrun
      have F₂ := fr_named (names_more (x := Str.ofString "place") (v := Value.ref a) jnames (by rfl)) F₁
      have N₂ : News s₁.heap s₁.heap.objs.size h ((P2.it, listOf vs.toArray k) :: (P1.it, listOf vsA.toArray kA) :: (I, oI) :: Rn) := news_sub N₁ (by kcf_all)
      have hn1 : ∀ x ∈ (P1.it, listOf vsA.toArray kA) :: (I, oI) :: Rn, @Ne Nat x.1 P2.it := List.forall_mem_cons.mpr ⟨japart.ne, List.forall_mem_cons.mpr ⟨Ne.symm (hne _ (.head _)), japart.two⟩⟩
      clear F₁ N₁
      repeat' (first
        | walk_at "mine put"
        | (k_unfold; (try dsimp only)) | walk1 | (dsimp only; walk1) | fail "no step")
      refine Stop.mk ?_
      refine put_any K0 F₂ KX N₂ hn1 T rfl rfl rfl rfl jint (hB2.len hrc'.1 hrc'.2 jlen) (.tail _ (.tail _ ha2)) (fun q hq => .tail _ (.tail _ (japart.led2 q hq))) hf2 (by first | decide | k_room | ktr_room) (by first | decide | k_units | ktr_units) ?rets10
      intro h3 tk3 v vs' nn' F3 N3 hi3
      clear F₂ N₂
      (try dsimp only)
      (try k_fold)
      repeat' (first
        | walk_at "mine fallen"
        | (k_unfold; (try dsimp only)) | walk1 | (dsimp only; walk1) | fail "no step")
      refine Stop.mk ?_
      rename _ ∧ _ => lx
      rename Fr _ _ _ _ => F5
      rename News _ _ _ ((_, _) :: _) => N5
      rename_i lp h5
      have N6 : News s₁.heap s₁.heap.objs.size h5 ((P2.it, listOf vs'.toArray nn') :: (lp, listOf [Value.ref a].toArray 0) :: (P1.it, listOf vsA.toArray kA) :: (I, oI) :: Rn) := news_sub N5 (by kcf_all)
      clear N5
      refine fallen_call (rest := (lp, listOf [Value.ref a].toArray 0) :: (P1.it, listOf vsA.toArray kA) :: (I, oI) :: Rn) (pool := Rn) (ps := [q]) K0 F5 KX N6 (List.forall_mem_cons.mpr ⟨Nat.ne_of_gt lx.1, hn1⟩) T rfl rfl rfl rfl hi3 (hB2.len hrc'.1 hrc'.2 (by rw [putNs_len]; exact jlen)) (.head _) (fun q hq => .tail _ (.tail _ (.tail _ (japart.led2 q hq)))) hf2
        (by first | decide | k_room | ktr_room) (by first | decide | k_units | ktr_units) (.cons (.tuple ha2 (.cons (.int _ _) (.cons (.int _ _) .nil))) .nil) (fun q hq => .tail _ (.tail _ (.tail _ hq))) (by rw [List.length_singleton]; omega) jr1 ?ret2s10
      intro h6 tk6 rt2 g2 g2vs vs3 g2n nn3 rn2 tr2 pool2 F6 N7 hi6 hl6 hT6 hD6 lt1 lt2 lt3 lt4
      have N8 : News s₁.heap s₁.heap.objs.size h6 ((P2.it, listOf vs3.toArray nn3) :: (rt2, pairOf g2 st.lost tr2 rn2) :: (g2, listOf g2vs.toArray g2n) :: (gb, listOf gavs.toArray gan) :: (P1.it, listOf vsA.toArray kA) :: (I, oI) :: (pool2 ++ Rn)) := news_sub N7 (by kcf_all)
      clear F5 N6 N7
      have z1 : gavs.length = gv.length := by rw [DatAll.length jdat, List.length_map]
      have z2 : g2vs.length = st.gv.length := by rw [DatAll.length hD6, List.length_map]
      have z3 : i < gr.length := (List.getElem?_eq_some_iff.mp hq).1
      (try dsimp only)
      (try k_fold)
      repeat' (first
        | walk_at "mine add"
        | (k_unfold; (try dsimp only)) | walk1 | (dsimp only; walk1) | fail "no step")
      rename _ ∧ _ => lz
      clear lz
      rename _ ∧ _ => ly
      rename News _ _ _ _ => nE
      rename Fr _ _ _ _ => fE
      unfold TurnEnd
      dsimp only
      refine' ⟨_, _, _, (P2.it, listOf vs3.toArray nn3) :: (P1.it, listOf vsA.toArray kA) :: ((_, listOf (gavs ++ g2vs).toArray 0) :: pool2 ++ Rn), rfl, fE, news_sub nE ?subs10, ?nes10, .tail _ (.tail _ (.tail _ (List.mem_append.mpr (.inr (jsub _ mG2))))), vs3, nn3, (_, listOf (gavs ++ g2vs).toArray 0) :: pool2 ++ Rn, _, 0, gavs ++ g2vs, lo + st.lost, _, st.ns, gv ++ st.gv, ?Js10⟩
      case subs10 => kcf_all
      case nes10 =>
        refine List.forall_mem_cons.mpr ⟨hne (P2.it, listOf vs.toArray k) (.head _), List.forall_mem_cons.mpr ⟨hne _ (.tail _ (.head _)), List.forall_mem_append.mpr ⟨List.forall_mem_cons.mpr ⟨Nat.ne_of_gt ly.2.2.2.2.2.1, ?_⟩, fun x hx => hne x (.tail _ (.tail _ hx))⟩⟩⟩
        exact Tups.off nE (by kcf_all) hT6 (a := I) (o := oI) (by kcf_m) hoI
      case Js10 =>
        constructor
        · rfl
        · exact fun x hx => List.mem_append.mpr (.inr (jsub x hx))
        · refine apart_more japart (List.forall_mem_cons.mpr ⟨Nat.ne_of_gt ly.2.2.2.2.1, ?_⟩) (List.forall_mem_cons.mpr ⟨Nat.ne_of_gt ly.1, ?_⟩)
          · exact Tups.off nE (by kcf_all) hT6 (a := P1.it) (o := listOf vsA.toArray kA) (by kcf_m) tuple_list
          · exact Tups.off nE (by kcf_all) hT6 (a := P2.it) (o := listOf vs3.toArray nn3) (by kcf_m) tuple_list
        · kst_all
        · exact hi6
        · rw [hl6, putNs_len]; exact jlen
        · exact .head _
        · rw [List.map_append]
          exact DatAll.append (jdat.mono fun x hx => List.mem_append.mpr (.inr hx)) (hD6.mono fun x hx => List.mem_append.mpr (.inl (.tail _ hx)))
        · exact jr3
        · rw [List.length_append]; omega
  clear hm2 F2 N2
  rintro f s' ⟨hB, tkB, mB, kB, gan, vsB, gavs, gb, tb, R3, rfl, rfl, hmB, FB, NB, hRR3, hap3, mGa3, hDB, hIB⟩
  have mOne3 := hRR3 _ mOne2
  have mGl3 := hRR3 _ mGl2
  have hD3 := hD2.mono hRR3
  have hRR4 : ∀ q ∈ R, q ∈ R3 := fun q hq => hRR3 q (hRR' q hq)
  clear hap2 mOne2 mGl2 hD2 hRR3 hRR' mGa mG2 mP2
  clear R2
  (try dsimp only)
  repeat' (first
    | walk_at "mine exec"
    | (k_unfold; (try dsimp only)) | walk1 | (dsimp only; walk1) | fail "no step")
  refine Stop.mk ?_
  rw [← tell.lost] at hmB
  rw [← tell.ns] at hIB
  have N9 : News s₁.heap s₁.heap.objs.size hB ((P1.it, listOf vsA.toArray kA) :: (P2.it, listOf vsB.toArray kB) :: (rt, pairOf gl1 st1.lost tr rn) :: (gl1, listOf g1vs.toArray gn1) :: (gb, listOf gavs.toArray gan) ::
    (P1.pi, instObj 208 P1.pd) :: (P1.pd, P1.dict) :: (P2.pi, instObj 208 P2.pd) :: (P2.pd, P2.dict) :: R3) := by
    refine news_sub NB ?_
    refine List.forall_mem_cons.mpr ⟨by kcf_m, List.forall_mem_cons.mpr ⟨by kcf_m, List.forall_mem_cons.mpr ⟨by kcf_m, List.forall_mem_cons.mpr ⟨by kcf_m, List.forall_mem_cons.mpr ⟨by kcf_m, ?_⟩⟩⟩⟩⟩
    refine List.forall_mem_cons.mpr ⟨.tail _ (.tail _ (hap3.led1 _ (.head _))), List.forall_mem_cons.mpr ⟨.tail _ (.tail _ (hap3.led1 _ (.tail _ (.head _)))), List.forall_mem_cons.mpr ⟨.tail _ (.tail _ (hap3.led2 _ (.head _))), List.forall_mem_cons.mpr ⟨.tail _ (.tail _ (hap3.led2 _ (.tail _ (.head _)))), ?_⟩⟩⟩⟩
    exact fun q hq => .tail _ (.tail _ hq)
  refine wpAny_mono (Q := fun f s' => Stop (∃ (h' : Heap) (tk' : Nat) (m8 : Str → Option Value), f = .next ∧ s' = { heap := h', gens := s₁.gens, drawn := s₁.drawn, toks := tk', os := s₁.os } ∧
    (∀ q ∈ [(Str.ofString "cells", Value.ref cl), (Str.ofString "pile", Value.ref P1.pi)], m8 q.1 = some q.2) ∧ Fr s₁.heap s₁.heap.objs.size h' m8 ∧
    News s₁.heap s₁.heap.objs.size h' ((P1.it, listOf vsA.toArray kA) :: R3))) ?mids11 ?afts11 (fun _ _ x => x)
  case mids11 =>
    have F8 := fr_named hmB FB
    clear FB NB
    have q1 := tell.so1
    have q2 := tell.so2
    have q3 := tell.a1
    have q4 := tell.a2
    have q5 := tell.a3
    have q6 := tell.a4
    repeat' (first
        | walk_at "mine sorted"
        | (rename _ ≠ _ => hx; exact absurd rfl hx)
        | (k_unfold; (try dsimp only)) | walk1 | (dsimp only; walk1) | fail "no step")
    rename News _ _ _ _ => nE
    rename Fr _ _ _ _ => fE
    refine' Stop.mk ⟨_, _, _, ?trs11, rfl, ?nmss11, fE, news_sub nE ?subs11⟩
    case trs11 => first | trivial | rfl
    case nmss11 => kst_all
    case subs11 => kcf_all
  clear hmB FB NB N9
  rintro f s' ⟨hC, tkC, mC, rfl, rfl, hmC, FC, NC⟩
  clear mGa3 hDB hIB mOne3 mGl3 hD3
  (try dsimp only)
  repeat' (first
    | walk_at "mine exec"
    | (k_unfold; (try dsimp only)) | walk1 | (dsimp only; walk1) | fail "no step")
  refine Stop.mk ?_
  have F8 := fr_named hmC FC
  have N9 : News s₁.heap s₁.heap.objs.size hC ((P1.it, listOf vsA.toArray kA) :: (P1.pi, instObj 208 P1.pd) :: (P1.pd, P1.dict) :: R3) := by
    refine news_sub NC ?_
    refine List.forall_mem_cons.mpr ⟨by kcf_m, ?_⟩
    refine List.forall_mem_cons.mpr ⟨.tail _ (hap3.led1 _ (.head _)), List.forall_mem_cons.mpr ⟨.tail _ (hap3.led1 _ (.tail _ (.head _))), ?_⟩⟩
    exact fun q hq => .tail _ hq
  clear FC NC
  repeat' (first
        | walk_at "mine call"
        | (k_unfold; (try dsimp only)) | walk1 | (dsimp only; walk1) | fail "no step")
  refine Stop.mk ?_
  rename News _ _ _ _ => nE
  rename Fr _ _ _ _ => fE
  refine kso_max fE nE ⟨_, (nE _ (.head _)).1, rfl, _, rfl⟩ hI1 (by rw [hn1]; omega) rfl ?mxs12
  clear nE fE
  intro hM M tM tkM FM NM hMm hMx
  have hM3 : M ≤ 3 := tell.most M hMm
  clear hMx hMm
  have hsz : vsA.toArray.size ≤ sizeLine := by
    have := IntsAre.length hI1
    rw [List.size_toArray, sizeLine_eq]
    omega
  (try dsimp only)
  repeat' (first
        | walk_at "mine forstop"
        | (k_unfold; (try dsimp only)) | walk1 | (dsimp only; walk1) | fail "no step")
  refine Stop.mk ?_
  rename _ ∧ _ => lz
  clear lz
  rename _ ∧ _ => ly
  rename News _ _ _ _ => nE
  rename Fr _ _ _ _ => fE
  have ⟨al, an, tp, R4, mD, hmD, FD, ND, hRR5, hoff4, mAl⟩ : ∃ (al : Addr) (an : Nat) (tp : Tok) (R4 : List (Addr × Obj)) (mD : Str → Option Value), (∀ q ∈ [(Str.ofString "put", Value.int 0 tp), (Str.ofString "cells", Value.ref cl), (Str.ofString "pile", Value.ref P1.pi), (Str.ofString "ahead", Value.ref al)], mD q.1 = some q.2) ∧ Fr s₁.heap s₁.heap.objs.size _ mD ∧
      News s₁.heap s₁.heap.objs.size _ ((P1.it, listOf vsA.toArray kA) :: R4) ∧ (∀ q ∈ R3, q ∈ R4) ∧ (∀ q ∈ R4, @Ne Nat q.1 P1.it) ∧ (al, listOf vsA.toArray an) ∈ R4 :=
    ⟨_, _, _, (_, listOf vsA.toArray _) :: R3, _, by kst_all, fE, news_sub nE (by kcf_all), fun q hq => .tail _ hq, List.forall_mem_cons.mpr ⟨Nat.ne_of_gt ly.1, hap3.one⟩, .head _⟩
  have hRR6 : ∀ q ∈ R, q ∈ R4 := fun q hq => hRR5 q (hRR4 q hq)
  have hled4 : ∀ q ∈ P1.led, q ∈ R4 := fun q hq => hRR5 q (hap3.led1 q hq)
  clear nE fE ly hap3 hRR5 hRR4
  refine Stop.out ?_
  refine Stop.mk ?_
  have mPl : (pls, listOf pvs.toArray pn) ∈ R4 := hRR6 _ (by rw [← hR]; kcf_m)
  have mCe : (s₁.heap.objs.size + 1 + 1 + 1, o3') ∈ R4 := hRR6 _ (by rw [← hR]; kcf_m)
  have mP4 : ∀ q ∈ pool, q ∈ R4 := fun q hq => hRR6 q (mP q hq)
  generalize hpl : placesP r c low = pl at tell hD
  have hpl6 : pl.length ≤ 6 := by rw [← hpl, placesP_len]; omega
  refine wpAny_mono (Q := fun f s' => Stop (∃ (h' : Heap) (tk' : Nat) (m8 : Str → Option Value) (kE : Nat) (vsE : List Value) (tE : Tok), f = .next ∧ s' = { heap := h', gens := s₁.gens, drawn := s₁.drawn, toks := tk', os := s₁.os } ∧
    (∀ q ∈ [(Str.ofString "put", Value.int (foldM P1 pl pl (st1.ns, 0)).2 tE), (Str.ofString "cells", Value.ref cl), (Str.ofString "pile", Value.ref P1.pi), (Str.ofString "ahead", Value.ref al)], m8 q.1 = some q.2) ∧ Fr s₁.heap s₁.heap.objs.size h' m8 ∧
    News s₁.heap s₁.heap.objs.size h' ((P1.it, listOf vsE.toArray kE) :: R4) ∧ IntsAre vsE (foldM P1 pl pl (st1.ns, 0)).1)) ?mids13 ?afts13 (fun _ _ x => x)
  case mids13 =>
    have F8 := fr_named hmD FD
    have N8 : News s₁.heap s₁.heap.objs.size _ ((P1.it, listOf vsA.toArray kA) :: (s₁.heap.objs.size + 1 + 1 + 1, o3') :: (pls, listOf pvs.toArray pn) :: R4) := news_sub ND (by kcf_all)
    have hoff5 : ∀ x ∈ (s₁.heap.objs.size + 1 + 1 + 1, o3') :: (pls, listOf pvs.toArray pn) :: R4, @Ne Nat x.1 P1.it := List.forall_mem_cons.mpr ⟨hoff4 _ mCe, List.forall_mem_cons.mpr ⟨hoff4 _ mPl, hoff4⟩⟩
    clear FD ND
    walk_at "mine for"
    repeat' (first
        | walk_at "mine iter"
        | (k_unfold; (try dsimp only)) | walk1 | (dsimp only; walk1) | fail "no step")
    refine Stop.mk ?_
    rename Fr _ _ _ _ => F8
    refine list_turns (nn := pn) (vs := pvs)
      (fun i m nx => ∃ vs k ns put tp, ManyJ P1 ((s₁.heap.objs.size + 1 + 1 + 1, o3') :: (pls, listOf pvs.toArray pn) :: R4) [(Str.ofString "cells", Value.ref cl), (Str.ofString "pile", Value.ref P1.pi), (Str.ofString "ahead", Value.ref al)] pl (foldM P1 pl pl (st1.ns, 0)) (r * c).toNat i m nx vs k ns put tp)
      rfl (.tail _ (.tail _ (.head _))) F8 N8 ⟨vsA, kA, st1.ns, 0, tp, rfl, by kst_all, hI1, hn1, rfl⟩ ?turns13 ?dones13
    case dones13 =>
      rintro m₁ nx h tk ⟨vs, k, ns, put, tq, rfl, jnames, jint, jlen, jrun⟩ F₁ N₁
      have jl : pvs.length = pl.length := by rw [DatAll.length hD, List.length_map]
      rw [jl, List.drop_length] at jrun
      rw [← jrun]
      exact Stop.mk ⟨h, tk, m₁, k, vs, tq, rfl, rfl, jnames, F₁, news_sub N₁ (by kcf_all), jint⟩
    case turns13 =>
      clear F8 N8
      rintro i v m₁ nx h tk I oI hv hoI hne hl ⟨vs, k, ns, put, tq, rfl, jnames, jint, jlen, jrun⟩ F₁ N₁
      obtain ⟨q, hq, jv⟩ := dat_at hD hv
      obtain ⟨a, t, u, n, rfl, ha⟩ := dat_pair jv
      rw [drop_at hq] at jrun
      have F₂ := fr_named (names_more (x := Str.ofString "place") (v := Value.ref a) jnames (by rfl)) F₁
      clear F₁
      repeat' (first
        | walk_at "mine comp"
        | (k_unfold; (try dsimp only)) | walk1 | (dsimp only; walk1) | fail "no step")
      refine Stop.mk ?_
      rename Fr _ _ _ _ => F₂
      refine LCt.ListComp_T (F₀ := F₂) (by with_unfolding_all rfl) (by decide) (by rfl) (by decide) (by rfl) ?_
      repeat' (first
        | walk_at "mine beside"
        | (k_unfold; (try dsimp only)) | walk1 | (dsimp only; walk1) | fail "no step")
      refine Stop.mk ?_
      rename Fr _ _ _ _ => F₂
      refine beside_spec (news := (I, oI) :: (P1.it, listOf vs.toArray k) :: (s₁.heap.objs.size + 1 + 1 + 1, o3') :: (pls, listOf pvs.toArray pn) :: R4) K0 F₂ KX N₁ T rfl rfl rfl rfl (.tail _ (.tail _ (.tail _ (.tail _ (mP4 _ ha))))) (by first | decide | k_room | ktr_room) (by first | decide | k_units | ktr_units) ?rets13
      intro h3 tk3 bl4 bn4 bvs T4 F3 N3 hD4 lt1 lt2
      have N4 : News s₁.heap s₁.heap.objs.size h3 ((bl4, listOf bvs.toArray bn4) :: (P1.it, listOf vs.toArray k) :: (I, oI) :: (s₁.heap.objs.size + 1 + 1 + 1, o3') :: (pls, listOf pvs.toArray pn) :: (T4 ++ R4)) := news_sub N3 (by kcf_all)
      have hbl4 : bvs.length = 4 := by rw [DatAll.length hD4]; rfl
      clear F₂ N₁ N3
      refine LCt.CompSrcT.ledger rfl F3 N4 (.head _) (by rw [List.size_toArray, hbl4, sizeLine_eq]; omega) ?_
      intro g
      refine kct_pairs (pool := T4) (fun b => !decide (b ∈ pl)) hD4 ?turn2s13 ?fin2s13
      case turn2s13 =>
        clear F3 N4
        intro q2 a2 I2 oI2 C2 oC2 D2 m2' ys h4 tk4 E' hd2 hC2 hx2 F4 N5 off ne2
        repeat' (first
          | walk_at "mine notin"
          | (k_unfold; (try dsimp only)) | walk1 | (dsimp only; walk1) | fail "no step")
        refine Stop.mk ?_
        refine place_notin N5 (by kcf_m) hD (fun x hx => ?_) hd2 (fun x hx => ?_) ?us13 ?_
        · have := mP4 x hx
          kcf_m
        · kcf_m
        case us13 => first | decide | k_units | ktr_units | ke_room
        repeat' (first
          | (k_unfold; (try dsimp only)) | walk1 | (dsimp only; walk1) | fail "no step")
        · rename q2 ∈ pl => hx
          refine LCg.CompEnd.intro F4 N5 _ (fun p hp => hp) off (Or.inr ⟨_, .head _, rfl, _, rfl⟩) ⟨?_, rfl⟩
          show (!decide (q2 ∈ pl)) = false
          rw [decide_eq_true hx]; rfl
        · rename ¬ (q2 ∈ pl) => hx
          refine LCg.CompEnd.intro F4 N5 _ (fun p hp => hp) off (Or.inr ⟨_, .head _, rfl, _, rfl⟩) ⟨?_, rfl, rfl⟩
          show (!decide (q2 ∈ pl)) = true
          rw [decide_eq_false hx]; rfl
      case fin2s13 =>
        intro ys hy
        unfold LCg.FinE
        intro D h4 tk4 F4 N5 o5
        have hyl : ys.length = (manyP pl q).length := by rw [DatAll.length hy, List.length_map]; rfl
        have hy4 : ys.length ≤ 4 := by
          rw [hyl]
          exact Nat.le_trans (List.length_filter_le _ _) (Nat.le_refl 4)
        (try dsimp only)
        repeat' (first
          | walk_at "mine len"
          | walk_at "mine put"
          | (k_unfold; (try dsimp only)) | walk1 | (dsimp only; walk1) | fail "no step")
        refine Stop.mk ?_
        rename News _ _ _ _ => nE
        rename Fr _ _ _ _ => fE
        have N6 : News s₁.heap s₁.heap.objs.size _ ((P1.it, listOf vs.toArray k) :: (I, oI) :: (s₁.heap.objs.size + 1 + 1 + 1, o3') :: (pls, listOf pvs.toArray pn) :: R4) := news_sub nE (by kcf_all)
        refine put_any K0 fE KX N6 (List.forall_mem_cons.mpr ⟨Ne.symm (hne _ (.head _)), hoff5⟩) T rfl rfl rfl rfl jint (hB1.len hrc'.1 hrc'.2 jlen) (.tail _ (.tail _ (.tail _ (mP4 _ ha)))) (fun q hq => .tail _ (.tail _ (.tail _ (hled4 q hq)))) hf1 (by first | decide | k_room | ktr_room) (by first | decide | k_units | ktr_units) ?ret3s13
        clear N6 nE fE
        intro h5 tk5 v vs' nn' F6 N6 hi6
        (try dsimp only)
        (try k_fold)
        repeat' (first
          | (k_unfold; (try dsimp only)) | walk1 | (dsimp only; walk1) | fail "no step")
        rename News _ _ _ _ => nE
        rename Fr _ _ _ _ => fE
        unfold TurnEnd
        dsimp only
        refine' ⟨_, _, _, (P1.it, listOf vs'.toArray nn') :: (s₁.heap.objs.size + 1 + 1 + 1, o3') :: (pls, listOf pvs.toArray pn) :: R4, rfl, fE, news_sub nE ?subs13, ?nes13, .tail _ (.tail _ (.head _)), vs', nn', putNs P1 ns q.1 q.2 (ys.length : Int), put + (ys.length : Int), _, ?Js13⟩
        case subs13 => kcf_all
        case nes13 => exact List.forall_mem_cons.mpr ⟨hne (P1.it, listOf vs.toArray k) (.head _), fun x hx => hne x (.tail _ hx)⟩
        case Js13 =>
          constructor
          · rfl
          · kst_all
          · exact hi6
          · rw [putNs_len]; exact jlen
          · rw [hyl]; exact jrun
  clear hmD FD ND
  rintro f s' ⟨hE, tkE, mE, kE, vsE, tE, rfl, rfl, hmE, FE, NE, hIE⟩
  (try dsimp only)
  repeat' (first
    | walk_at "mine exec"
    | (k_unfold; (try dsimp only)) | walk1 | (dsimp only; walk1) | fail "no step")
  refine Stop.mk ?_
  have mCl : (cl, listOf cvs.toArray n3) ∈ R4 := hRR6 _ (by rw [← hR]; kcf_m)
  have F8 := fr_named hmE FE
  have N8 : News s₁.heap s₁.heap.objs.size hE ((P1.it, listOf vsE.toArray kE) :: (s₁.heap.objs.size + 1 + 1 + 1, o3') :: (pls, listOf pvs.toArray pn) :: (cl, listOf cvs.toArray n3) :: R4) := news_sub NE (by kcf_all)
  have hoff5 : ∀ x ∈ (s₁.heap.objs.size + 1 + 1 + 1, o3') :: (pls, listOf pvs.toArray pn) :: (cl, listOf cvs.toArray n3) :: R4, @Ne Nat x.1 P1.it := List.forall_mem_cons.mpr ⟨hoff4 _ mCe, List.forall_mem_cons.mpr ⟨hoff4 _ mPl, List.forall_mem_cons.mpr ⟨hoff4 _ mCl, hoff4⟩⟩⟩
  clear FE NE
  repeat' (first
    | walk_at "mine fallen"
    | (k_unfold; (try dsimp only)) | walk1 | (dsimp only; walk1) | fail "no step")
  refine Stop.mk ?_
  rename Fr _ _ _ _ => F8
  refine fallen_call (rest := (s₁.heap.objs.size + 1 + 1 + 1, o3') :: (pls, listOf pvs.toArray pn) :: (cl, listOf cvs.toArray n3) :: R4) (pool := pool) (ps := pl) K0 F8 KX N8 hoff5 T rfl rfl rfl rfl hIE (hB1.len hrc'.1 hrc'.2 (by rw [foldM_len]; exact hn1)) (.tail _ (.head _)) (fun q hq => .tail _ (.tail _ (.tail _ (hled4 q hq)))) hf1
    (by first | decide | k_room | ktr_room) (by first | decide | k_units | ktr_units) hD (fun x hx => .tail _ (.tail _ (.tail _ (mP4 x hx)))) (by omega) tell.run3 ?rets14
  intro h3 tk3 rt3 gl3 g3vs vs3 gn3 nn3 rn3 tr3 pool3 F3 N3 hi3 hl3 hT3 hD3 lt1 lt2 lt3 lt4
  rw [tell.lost3] at N3
  rw [tell.ns3] at hi3
  have N4 : News s₁.heap s₁.heap.objs.size h3 ((P1.it, listOf vs3.toArray nn3) :: (rt3, pairOf gl3 (foldM P1 pl pl (st1.ns, 0)).2 tr3 rn3) :: (gl3, listOf g3vs.toArray gn3) :: (s₁.heap.objs.size + 1 + 1 + 1, o3') :: (pls, listOf pvs.toArray pn) :: (al, listOf vsA.toArray an) :: (P1.pi, instObj 208 P1.pd) :: (P1.pd, P1.dict) :: (pool3 ++ R4)) := by
    refine news_sub N3 ?_
    refine List.forall_mem_cons.mpr ⟨by kcf_m, List.forall_mem_cons.mpr ⟨by kcf_m, List.forall_mem_cons.mpr ⟨by kcf_m, List.forall_mem_cons.mpr ⟨by kcf_m, List.forall_mem_cons.mpr ⟨by kcf_m, List.forall_mem_cons.mpr ⟨by kcf_m, ?_⟩⟩⟩⟩⟩⟩
    have q1 := hled4 _ (.head _)
    have q2 := hled4 _ (.tail _ (.head _))
    refine List.forall_mem_cons.mpr ⟨by kcf_m, List.forall_mem_cons.mpr ⟨by kcf_m, by kcf_all⟩⟩
  clear F8 N8 N3 lt1 lt2 lt3 lt4 hoff5
  have q1 := tell.so3
  have q3 := tell.a5
  have q4 := tell.a6
  have mP6 : ∀ x ∈ pool, x ∈ (P1.it, listOf vs3.toArray nn3) :: (rt3, pairOf gl3 (foldM P1 pl pl (st1.ns, 0)).2 tr3 rn3) :: (gl3, listOf g3vs.toArray gn3) :: (s₁.heap.objs.size + 1 + 1 + 1, o3') :: (pls, listOf pvs.toArray pn) :: (al, listOf vsA.toArray an) :: (P1.pi, instObj 208 P1.pd) :: (P1.pd, P1.dict) :: (pool3 ++ R4) := fun x hx => by
    have := mP4 x hx
    kcf_m
  (try dsimp only)
  (try k_fold)
  repeat' (first
    | walk_at "mine sorted"
    | walk_at "mine cmp"
    | (rename _ ≠ _ => hx; exact absurd rfl hx)
    | (k_unfold; (try dsimp only)) | walk1 | (dsimp only; walk1) | fail "no step")
  refine Stop.mk ?_
  rename News _ _ _ _ => nE
  rename Fr _ _ _ _ => fE
  rename DatAll pool3 _ (List.map pdat pl) => hDs
  refine places_eq nE (.head _) hDs (by kcf_all) (.tail _ (.tail _ (.tail _ (.tail _ (.tail _ (.head _)))))) hD (fun x hx => .tail _ (mP6 x hx)) (by first | decide | k_units | ktr_units | ke_room) ?_
  clear mP6 mP4
  repeat' (first
    | walk_at "mine cmp"
    | (rename _ ≠ _ => hx; exact absurd rfl hx)
    | (rename ¬ (_ = _) => hx; exact absurd rfl hx)
    | (k_unfold; (try dsimp only)) | walk1 | (dsimp only; walk1) | fail "no step")
  refine Stop.mk ?_
  refine ints_eq nE (.tail _ (.head _)) hi3 (.tail _ (.tail _ (.tail _ (.tail _ (.tail _ (.tail _ (.head _))))))) hI1 (by first | decide | k_units | ktr_units | ke_room) ?_
  exact hq _ _ _ fE)
end Mine
theorem PySem.Challenge.cw_xm0932_01_holds : PySem.Challenge.rw_xm0932_01.Holds := by
  exact Mine.whole
