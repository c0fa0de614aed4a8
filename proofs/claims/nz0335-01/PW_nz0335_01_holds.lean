import PyProof.Rows.All
import Wide.All
import OpenK.AllK
import Wide.FinOn
import Lean
import PySem.Challenge.RW_nz0335_01
open PySem PySem.W PySem.Calls PyProof.Rows PySem.Spec
set_option Elab.async false
set_option maxRecDepth 100000
set_option maxHeartbeats 8000000
set_option linter.all false
set_option compiler.extract_closed false
namespace Mine
section
local macro_rules | `(tactic| o_head $_) => `(tactic| assumption)
set_option maxHeartbeats 8000000 in
theorem k0 (h : PySem.Challenge.rw_nz0335_01.row.Holds) : PySem.Challenge.rw_nz0335_01.row.Holds := by k_head
end
end Mine
namespace Mine

/-- what a walked body hands back: only the heap and the tokens turned; the objects named are none of `g` -/
def RetC (s : Shared) (h₀ : Heap) (L : Addr) (g : Heap) (post : Value → List (Addr × Obj) → Prop) (r : Result) (s' : Shared) : Prop :=
  ∃ v tl h' tk', r = .ok (.ret v) ∧ s' = { s with heap := h', toks := tk' } ∧ News h₀ L h' tl ∧ (∀ p ∈ tl, g.get? p.1 = none) ∧ post v tl
theorem RetC.intro {s : Shared} {h₀ g h₁ : Heap} {L L₁ : Addr} {post : Value → List (Addr × Obj) → Prop} {v : Value} {tl : List (Addr × Obj)} {h' : Heap} {tk' : Nat}
    (N : News h₀ L h' tl) (N' : News g L₁ h₁ tl) (p : post v tl) : RetC s h₀ L g post (.ok (.ret v)) { s with heap := h', toks := tk' } := ⟨v, tl, h', tk', rfl, rfl, N, fun q hq => (N' q hq).2.2, p⟩

theorem news_sub {h₀ h : Heap} {L : Addr} {a b : List (Addr × Obj)} (N : News h₀ L h a) (hs : ∀ p ∈ b, p ∈ a) : News h₀ L h b := fun p hp => N p (hs p hp)

section
variable {prog : Program} {w : World} {A₀ A : Around} {s : Shared} {base h₀ : Heap} {outer : List Env} {L : Addr} {m : Str → Option Value} {env : Env} {pre rest : List (Addr × Obj)} {K : Frag} {p : Program} {loose : List Str} {mean : ExcName → Option Value} {mg mb : Str → Option Value}
  {R : Result → Shared → Prop} {name qual : Str} {params : Arguments} {body : List Stmt} {scope : Scope} {dV kV doc pm cdv ct oc : Value} {an od : Option Addr} {osl : Array (Option Value)} {f : Addr} {args : Args} {binds : List (Str × Value)} {post : Value → List (Addr × Obj) → Prop}

/-- a def is entered with the part `pre` of the ledger alone; the rest stays as it was -/
theorem code_F (B : Below A₀ base outer h₀) (F : Fr h₀ L s.heap m) (X₀ : K.In h₀) (N : News h₀ L s.heap (pre ++ rest)) (D : ∀ x ∈ rest, ∀ y ∈ pre, x.1 ≠ y.1) (T : Top p loose mean mg mb h₀) (hA : A.frames = some (env :: outer)) (hf : env.frame = some L) (hke : env.scope.kind = .function)
    (hret : ∀ v tl h' tk', Fr h₀ L h' m → News h₀ L h' (tl ++ rest) → (∀ x ∈ rest, ∀ y ∈ tl, x.1 ≠ y.1) → post v tl → R (.ok (.ret v)) { s with heap := h', toks := tk' })
    (ho : K.lookup f = some ⟨oc, od, .func (fnOf name qual params body scope dV kV doc pm an cdv ct), osl⟩) (hcd : codeIn K cdv qual = true) (hroom : A.depth < recursionLimit)
    (hbind : BindsTo s (fnOf name qual params body scope dV kV doc pm an cdv ct) args binds) (hloc : ∀ y ∈ binds, scope.names.lookup y.1 = some .local)
    (h : ∀ g L' h₁, Fr h₀ L g m → Fr g L' h₁ (fun y => binds.reverse.lookup y) → News g L' h₁ pre → Below A base (env :: outer) g → K.In g → Top p loose mean mg mb g → (∀ x ∈ pre, x.1 < L') →
      wpAny (model prog w) (A.deeper (envOf qual scope L' f cdv)) (execs body (envOf qual scope L' f cdv))
        (fun fl s' => LeaveK h₀ L m g (RetC s h₀ L g post) (match fl with | .ret v => v | _ => .none) s')
        (fun e s' => wpAny (model prog w) (A.deeper (envOf qual scope L' f cdv)) (leaving (envOf qual scope L' f cdv) e) (fun _ s'' => R (.error e) s'') (fun e' s'' => R (.error e') s'') s')
        { s with heap := h₁, toks := s.toks + binds.length })
    (hco : scope.isCoroutine = false) (hgen : scope.isGenerator = false) (hk : scope.kind = .function)
    (hcell : ∀ x ∈ scope.names, x.2 ≠ .cell) : codeAny (model prog w) A (.call (.ref f) args) R s := by
  have N₁ : News h₀ L s.heap pre := news_sub N fun p hp => List.mem_append_left _ hp
  obtain ⟨FG, BG, st, lv⟩ := groundX (R := RetC s h₀ L (hideAll s.heap (pre.map (·.1))) post) B F N₁ hA hf hke
  have X := X₀.keeps F.keep
  refine codeAny_call_def (fd := fnOf name qual params body scope dV kV doc pm an cdv ct) (body := body) (binds := binds) hroom (X _ _ ho) rfl (T.nolimit.keeps F.keep) (codeRec_of X hcd) rfl hbind hcell hloc (fun h₁ hns hk₁ => ?_) hco hgen hk
  refine wpAny_mono (h _ s.heap.objs.size h₁ FG ⟨hns, fun b o e => hk₁ b o (of_hideAll _ e), Nat.le_of_eq (hideAll_size _ _)⟩
    (fun p hp => ⟨hk₁ _ _ (N₁ p hp).1, Nat.ne_of_lt (Heap.lt_size (N₁ p hp).1), hideAll_none _ (List.mem_map_of_mem hp)⟩) BG (X₀.keeps st) (T.keeps st) (fun p hp => Heap.lt_size (N₁ p hp).1)) (fun fl s' hl => ?_) fun _ _ y => y
  have hr := lv _ _ hl
  obtain ⟨L', m', news', F', N', _⟩ := hl
  obtain ⟨v, tl, h', tk', e1, e2, Nt, ng, hp⟩ := hr
  subst e2
  suffices hs : R (.ok (.ret v)) { s with heap := h', toks := tk' } by rw [← e1] at hs; exact hs
  have inG : ∀ x ∈ rest, (hideAll s.heap (pre.map (·.1))).get? x.1 = some x.2 := fun x hx => by
    refine hideAll_get _ (N x (List.mem_append_right _ hx)).1 fun q => ?_
    obtain ⟨y, hy, e⟩ := List.mem_map.mp q
    exact D x hx y hy e.symm
  have keepG : ∀ x ∈ rest, h'.get? x.1 = some x.2 := fun x hx => F'.keep _ _ (inG x hx)
  obtain ⟨oL, es, ep, hL, hLd, hLk, hLf⟩ := FG.ns
  exact hret v tl h' tk' ⟨⟨oL, es, ep, F'.keep L oL hL, hLd, hLk, hLf⟩, fun b o e => F'.keep b o (st b o e), F.above⟩
    (fun x hx => (List.mem_append.mp hx).elim (fun hx => Nt x hx) fun hx => ⟨keepG x hx, (N x (List.mem_append_right _ hx)).2⟩) (fun x hx y hy e => by
      have h1 := inG x hx
      rw [e, ng y hy] at h1
      cases h1) hp
end

abbrev PR : Program := PySem.Challenge.rw_nz0335_01.row.prog

/-- what stands around a call: the frame, the frames below, the written part, the ledger, the top -/
structure Here (w : World) (A : Around) (d u : Nat) (env : Env) (outer : List Env) (A₀ : Around) (base h₀ : Heap) (L : Addr) (m : Str → Option Value) (h : Heap) (news : List (Addr × Obj)) (loose : List Str) (mean : ExcName → Option Value) (mg mb : Str → Option Value) : Prop where
  hh : A.handled = none
  hA : A.frames = some (env :: outer)
  hf : env.frame = some L
  hk : env.scope.kind = .function
  hdp : A.depth + d < 1000
  hun : A.units + u < 9900
  B : Below A₀ base outer h₀
  F : Fr h₀ L h m
  X : (Mine.k0.heap_1 w.params).In h₀
  N : News h₀ L h news
  T : Top topProg loose mean mg mb h₀

/-- a contract: the def at `f`, called with `args`, touches the objects `pre` alone and hands back what `post` says -/
def Con (w : World) (f : Addr) (args : List Value) (d u : Nat) (pre : List (Addr × Obj)) (post : Value → List (Addr × Obj) → Prop) : Prop :=
  ∀ (dp un : Nat) (gd : Option (List Code)) (env : Env) (outer : List Env) (A₀ : Around) (base h₀ : Heap) (L : Addr) (m : Str → Option Value) (rest : List (Addr × Obj)) (s : Shared) (loose : List Str) (mean : ExcName → Option Value) (mg mb : Str → Option Value) (R : Result → Shared → Prop),
    env.frame = some L → env.scope.kind = .function → dp + d < 1000 → un + u < 9900 → Below A₀ base outer h₀ → Fr h₀ L s.heap m → (Mine.k0.heap_1 w.params).In h₀ → News h₀ L s.heap (pre ++ rest) → (∀ x ∈ rest, ∀ y ∈ pre, x.1 ≠ y.1) → Top topProg loose mean mg mb h₀ →
    (∀ v tl h' tk', Fr h₀ L h' m → News h₀ L h' (tl ++ rest) → (∀ x ∈ rest, ∀ y ∈ tl, x.1 ≠ y.1) → post v tl → R (.ok (.ret v)) { s with heap := h', toks := tk' }) →
    codeAny (model PR w) { handled := none, depth := dp, frames := some (env :: outer), guards := gd, units := un } (.call (.ref f) ⟨args, []⟩) R s

theorem Con.code {w : World} {f : Addr} {args : List Value} {d u : Nat} {pre rest : List (Addr × Obj)} {post : Value → List (Addr × Obj) → Prop} {A A₀ : Around} {env : Env} {outer : List Env} {base h₀ : Heap} {L : Addr} {m : Str → Option Value} {news : List (Addr × Obj)} {s : Shared} {loose : List Str} {mean : ExcName → Option Value} {mg mb : Str → Option Value} {R : Result → Shared → Prop}
    (C : Con w f args d u pre post) (H : Here w A d u env outer A₀ base h₀ L m s.heap news loose mean mg mb) (hs : ∀ p ∈ pre ++ rest, p ∈ news) (D : ∀ x ∈ rest, ∀ y ∈ pre, x.1 ≠ y.1)
    (hret : ∀ v tl h' tk', Fr h₀ L h' m → News h₀ L h' (tl ++ rest) → (∀ x ∈ rest, ∀ y ∈ tl, x.1 ≠ y.1) → post v tl → R (.ok (.ret v)) { s with heap := h', toks := tk' }) :
    codeAny (model PR w) A (.call (.ref f) ⟨args, []⟩) R s := by
  obtain ⟨hh, hA, hf, hk, hd, hu, B, F, X, N, T⟩ := H
  obtain ⟨_, dp, _, gd, un⟩ := A
  dsimp only at hh hA
  subst hh hA
  exact C dp un gd env outer A₀ base h₀ L m rest s loose mean mg mb R hf hk hd hu B F X (news_sub N hs) D T hret

/-- a ledger in two parts: what a contract touches, the others -/
def Split : List (Addr × Obj) → List (Addr × Obj) → List (Addr × Obj) → Prop := fun l pre rest => (∀ p ∈ rest, p ∈ l) ∧ ∀ x ∈ rest, ∀ y ∈ pre, x.1 ≠ y.1
theorem Split.nil {pre : List (Addr × Obj)} : Split [] pre [] := ⟨(fun _ h => nomatch h), (fun _ h => nomatch h)⟩
theorem Split.take {pre l r : List (Addr × Obj)} {p : Addr × Obj} (_ : p ∈ pre) (S : Split l pre r) : Split (p :: l) pre r := ⟨fun q hq => .tail _ (S.1 q hq), S.2⟩
theorem Split.keep {pre l r : List (Addr × Obj)} {p : Addr × Obj} (d : ∀ y ∈ pre, p.1 ≠ y.1) (S : Split l pre r) : Split (p :: l) pre (p :: r) :=
  ⟨fun q hq => (List.mem_cons.mp hq).elim (fun e => e ▸ .head _) fun h => .tail _ (S.1 q h), fun x hx => (List.mem_cons.mp hx).elim (fun e => e ▸ d) fun h => S.2 x h⟩
theorem all_nil {α : Type} {P : α → Prop} : ∀ y ∈ ([] : List α), P y := fun _ h => nomatch h
theorem all_cons {α : Type} {P : α → Prop} {a : α} {l : List α} (h : P a) (t : ∀ y ∈ l, P y) : ∀ y ∈ a :: l, P y := fun y hy => (List.mem_cons.mp hy).elim (fun e => e ▸ h) fun q => t y q
theorem Con.call {w : World} {f : Addr} {args : List Value} {d u : Nat} {pre rest : List (Addr × Obj)} {post : Value → List (Addr × Obj) → Prop} {A A₀ : Around} {env : Env} {outer : List Env} {base h₀ : Heap} {L : Addr} {m : Str → Option Value} {news : List (Addr × Obj)} {s : Shared} {loose : List Str} {mean : ExcName → Option Value} {mg mb : Str → Option Value} {Q E : Value → Shared → Prop}
    (C : Con w f args d u pre post) (H : Here w A d u env outer A₀ base h₀ L m s.heap news loose mean mg mb) (hs : ∀ p ∈ pre, p ∈ news) (D : Split news pre rest)
    (hret : ∀ v tl h' tk', Fr h₀ L h' m → News h₀ L h' (tl ++ rest) → (∀ x ∈ rest, ∀ y ∈ tl, x.1 ≠ y.1) → post v tl → Q v { s with heap := h', toks := tk' }) :
    wpAny (model PR w) A (call (.ref f) args) Q E s := wpAny_call (C.code H (fun p hp => (List.mem_append.mp hp).elim (hs p) (D.1 p)) D.2 hret)

theorem Split.end_ {pre U : List (Addr × Obj)} (h : ∀ y ∈ pre, ∀ q ∈ U, q.1 ≠ y.1) : Split U pre U := ⟨fun _ h => h, fun x hx y hy => h y hy x hx⟩
theorem room {n a k d c : Nat} (h : n + a < c) (e : Nat.ble (k + d) a = true) : n + k + d < c := by
  have := Nat.le_of_ble_eq_true e
  omega
theorem news_d3 {h₀ h : Heap} {L : Addr} {a b c : Addr × Obj} {l : List (Addr × Obj)} (N : News h₀ L h (a :: b :: c :: l)) : News h₀ L h (a :: b :: l) := fun p hp => N p (by
  rcases List.mem_cons.mp hp with rfl | hp
  · exact .head _
  · rcases List.mem_cons.mp hp with rfl | hp
    · exact .tail _ (.head _)
    · exact .tail _ (.tail _ (.tail _ hp)))
/-- a pure def: a value, no object -/
def ConV (w : World) (f : Addr) (args : List Value) (d u : Nat) (r : Tok → Value) : Prop := Con w f args d u [] (fun v _ => ∃ t, v = r t)

theorem ConV.call {w : World} {f : Addr} {args : List Value} {d u : Nat} {r : Tok → Value} {A A₀ : Around} {env : Env} {outer : List Env} {base h₀ : Heap} {L : Addr} {m : Str → Option Value} {news : List (Addr × Obj)} {s : Shared} {loose : List Str} {mean : ExcName → Option Value} {mg mb : Str → Option Value} {Q E : Value → Shared → Prop}
    (C : ConV w f args d u r) (H : Here w A d u env outer A₀ base h₀ L m s.heap news loose mean mg mb)
    (hret : ∀ t h' tk', Fr h₀ L h' m → News h₀ L h' news → Q (r t) { s with heap := h', toks := tk' }) :
    wpAny (model PR w) A (call (.ref f) args) Q E s :=
  Con.call (rest := news) C H all_nil ⟨fun _ h => h, fun _ _ _ h => nomatch h⟩ fun v tl h' tk' F N _ p => by
    obtain ⟨t, rfl⟩ := p
    exact hret t h' tk' F (news_sub N fun q hq => List.mem_append_right _ hq)
section
variable {M : Model} {A : Around} {E : Value → Shared → Prop} {s : Shared} {h₀ : Heap} {L : Addr} {m : Str → Option Value} {env : Env} {news : List (Addr × Obj)}
/-- a value reckoned, nothing turned -/
def ValMid {α : Type} (h₀ : Heap) (L : Addr) (m : Str → Option Value) (s : Shared) (news : List (Addr × Obj)) (P : α → Prop) (v : α) (s' : Shared) : Prop :=
  ∃ (h' : Heap) (tk' : Nat), s' = { s with heap := h', toks := tk' } ∧ Fr h₀ L h' m ∧ News h₀ L h' news ∧ P v
theorem cut_val {α : Type} {c : Sem α} {Q : α → Shared → Prop} (P : α → Prop) (_F : Fr h₀ L s.heap m) (_N : News h₀ L s.heap news) (h1 : wpAny M A c (ValMid h₀ L m s news P) E s)
    (h2 : ∀ v h' tk', P v → Fr h₀ L h' m → News h₀ L h' news → Q v { s with heap := h', toks := tk' }) : wpAny M A c Q E s :=
  wpAny_mono h1 (fun v s' h => by
    obtain ⟨h', tk', rfl, F, N, a⟩ := h
    exact h2 v h' tk' a F N) fun _ _ h => h
/-- a statement gone by, nothing turned -/
def FloMid (h₀ : Heap) (L : Addr) (m : Str → Option Value) (s : Shared) (news : List (Addr × Obj)) (f : Flow) (s' : Shared) : Prop :=
  f = .next ∧ ∃ (h' : Heap) (tk' : Nat), s' = { s with heap := h', toks := tk' } ∧ Fr h₀ L h' m ∧ News h₀ L h' news
theorem cut_flo {st : Stmt} {Q : Flow → Shared → Prop} (_F : Fr h₀ L s.heap m) (_N : News h₀ L s.heap news) (h1 : wpAny M A (exec st env) (FloMid h₀ L m s news) E s)
    (h2 : ∀ h' tk', Fr h₀ L h' m → News h₀ L h' news → Q .next { s with heap := h', toks := tk' }) : wpAny M A (exec st env) Q E s :=
  wpAny_mono h1 (fun v s' h => by
    obtain ⟨rfl, h', tk', rfl, F, N⟩ := h
    exact h2 h' tk' F N) fun _ _ h => h
end
theorem cut_flo' {M : Model} {A : Around} {E : Value → Shared → Prop} {s : Shared} {h₀ : Heap} {L : Addr} {m : Str → Option Value} {env : Env} {news : List (Addr × Obj)} {st : Stmt} {Q : Flow → Shared → Prop} (F : Fr h₀ L s.heap m) (N : News h₀ L s.heap news)
    (h1 : Fr h₀ L s.heap m → News h₀ L s.heap news → wpAny M A (exec st env) (FloMid h₀ L m s news) E s)
    (h2 : ∀ h' tk', Fr h₀ L h' m → News h₀ L h' news → Q .next { s with heap := h', toks := tk' }) : wpAny M A (exec st env) Q E s := cut_flo F N (h1 F N) h2
end Mine
open Mine
local macro_rules | `(tactic| k_in) => `(tactic| exact Frag.In.keeps (by k_asm) (Fr.keep (by k_asm)))
local macro_rules | `(tactic| k_ne) => `(tactic| (first | assumption | exact Ne.symm (by assumption)))
local macro_rules | `(tactic| k_room) => `(tactic| ((try simp only [depth_under_make, depth_under_kw, depth_in1, depth_deeper, depth_caller]); (try dsimp only); (simp only [recursionLimit]); omega))
local macro_rules | `(tactic| k_units) => `(tactic| ((try simp only [units_in1, units_deeper, Around.mark_units, units_caller]); (try dsimp only); (simp only [cLine]); omega))
local macro_rules | `(tactic| walk_at "ENTER") => `(tactic| (
  intro dp un gd env outer A₀ base h₀ L m rest s loose mean mg mb R hfr hke hd9 hu9 B F X N D T hret
  k_dflt (
    refine' code_F B F X N D T rfl hfr hke hret ?k6 ?k7 ?k8 ?k9 ?kB ?_ ?c2 ?c3 ?c4 ?c5
    (case k6 => k_is)
    (case k7 => k_is)
    (case k8 => exact Nat.lt_of_le_of_lt (Nat.le_add_right _ _) hd9)
    (case k9 => first | exact BindsTo.of_eq rfl | exact binds_K (by k_in) rfl (by k_is) rfl rfl rfl | fail "ENTER: no rule for these arguments")
    (case c5 => decide)
    (case kB => exact locs rfl)
    (case c2 => exact rfl)
    (case c3 => exact rfl)
    (case c4 => exact rfl)
    k_whole
    clear hret D N F B
    intro g' L' h' FG' F' N' B' X' T' l1
    (try k_lt l1)
    (try dsimp only)
    (try k_fold))))
/-- the ledger parts at a call -/
local macro_rules | `(tactic| walk_at "PRE") => `(tactic| ((repeat (refine' all_cons ?hh ?_; (case hh => ((try dsimp only); k_mem)))); exact all_nil))
local macro_rules | `(tactic| walk_at "SPLIT") => `(tactic| (repeat (first | exact Split.nil | (apply Split.take; (with_reducible first | exact List.mem_cons_self | exact List.mem_cons_of_mem _ List.mem_cons_self | exact List.mem_cons_of_mem _ (List.mem_cons_of_mem _ List.mem_cons_self) | exact List.mem_cons_of_mem _ (List.mem_cons_of_mem _ (List.mem_cons_of_mem _ List.mem_cons_self)))) | (apply Split.keep; ((repeat (apply all_cons; ((try dsimp only); k_ne))); exact all_nil)) | (refine Split.end_ ?_; (repeat (refine' all_cons ?hh ?_; (case hh => assumption))); exact all_nil))))
local macro_rules | `(tactic| k_all) => `(tactic| assumption)
local macro_rules | `(tactic| k_mem) => `(tactic| first | assumption | exact List.mem_cons_self | (refine List.mem_cons_of_mem _ ?_; k_mem))
local macro_rules | `(tactic| walk_at "HERE") => `(tactic| (
  refine' Here.mk ?q1 ?q2 ?q3 ?q4 ?q5 ?q6 ?q7 ?q8 ?q9 ?q10 ?q11
  (case q1 => exact rfl)
  (case q2 => exact rfl)
  (case q3 => exact rfl)
  (case q4 => first | exact rfl | assumption)
  (case q8 => k_asm)
  (case q7 => k_asm)
  (case q9 => k_asm)
  (case q10 => k_asm)
  (case q11 => k_asm)
  all_goals ((try dsimp only [depth_under_make, depth_under_kw, depth_in1, depth_deeper, depth_caller, units_under_make, units_in1, units_deeper, units_caller]); first | (refine' room ?h ?e; (case h => assumption); (case e => exact rfl)) | ((try simp only [Around.mark_units]); omega))))
theorem Mine.retB {s : Shared} {h₀ g : Heap} {L : Addr} {b b' : Bool} {h' : Heap} {tk' : Nat} (e : b = b') : RetC s h₀ L g (fun v _ => ∃ t, v = (fun (_ : Tok) => Value.bool b') t) (.ok (.ret (.bool b))) { s with heap := h', toks := tk' } := RetC.intro News.nil (News.nil (h₀ := g) (h := g) (L := L)) ⟨0, by rw [e]⟩
theorem Mine.retI {s : Shared} {h₀ g : Heap} {L : Addr} {b b' : Int} {u : Tok} {h' : Heap} {tk' : Nat} (e : b = b') : RetC s h₀ L g (fun v _ => ∃ t, v = (fun (t : Tok) => Value.int b' t) t) (.ok (.ret (.int b u))) { s with heap := h', toks := tk' } := RetC.intro News.nil (News.nil (h₀ := g) (h := g) (L := L)) ⟨u, by rw [e]⟩
theorem Mine.retS {s : Shared} {h₀ g : Heap} {L : Addr} {b b' : Str} {u : Tok} {h' : Heap} {tk' : Nat} (e : b = b') : RetC s h₀ L g (fun v _ => ∃ t, v = (fun (t : Tok) => Value.str b' t) t) (.ok (.ret (.str b u))) { s with heap := h', toks := tk' } := RetC.intro News.nil (News.nil (h₀ := g) (h := g) (L := L)) ⟨u, by rw [e]⟩
theorem Mine.retY {s : Shared} {h₀ g : Heap} {L : Addr} {b b' : Array UInt8} {u : Tok} {h' : Heap} {tk' : Nat} (e : b = b') : RetC s h₀ L g (fun v _ => ∃ t, v = (fun (t : Tok) => Value.bytes b' t) t) (.ok (.ret (.bytes b u))) { s with heap := h', toks := tk' } := RetC.intro News.nil (News.nil (h₀ := g) (h := g) (L := L)) ⟨u, by rw [e]⟩
/-- one step of k_steps: to walk up to a place -/
local macro_rules | `(tactic| walk_at "STEP") => `(tactic| first | (k_unfold; (try dsimp only)) | (k_end; wrow_close) | walk1 | (dsimp only; walk1) | (leave1; (try dsimp only)))
/-- helpers of the call lines: the side goals; the ends; the lines themselves (a contract is named under "CON", "CONV") -/
local macro_rules | `(tactic| walk_at "GO") => `(tactic| (
  (try any_goals walk_at "HERE")
  (try any_goals ((with_reducible show ∀ p : Addr × Obj, p ∈ (_ : List (Addr × Obj)) → p ∈ (_ : List (Addr × Obj))); walk_at "PRE"))
  (try any_goals ((with_reducible show Split _ _ _); walk_at "SPLIT"))
  walk_at "GO1"
  k_whole
  (fail_if_success (fail_if_success (intro _ _ _)))))
local macro_rules | `(tactic| walk_at "GO1") => `(tactic| (all_goals (try ((show (_ : Prop)); (first | k_asm | ((with_reducible show keepIn _ _ = true); k_is) | ((with_reducible show (_ : Addr × Obj) ∈ (_ : List (Addr × Obj))); k_mem) | ((fail_if_success (intro q)); (first | omega | rfl | decide)))))))
local macro_rules | `(tactic| walk_at "SWEEP") => `(tactic| ((try (rename Fr _ _ _ _ => F0; clear F0)); (try (rename News _ _ _ _ => N0; clear N0))))
local macro_rules | `(tactic| walk_at "FOLD") => `(tactic| ((try dsimp only); (try k_fold)))
local macro_rules | `(tactic| walk_at "call ref") => `(tactic| (k_here; k_dflt (apply ConV.call; walk_at "CONV"; walk_at "SWEEP"; intro t9 h9 tk9 F9 N9; walk_at "FOLD")))
local macro_rules | `(tactic| walk_at "call ref") => `(tactic| (k_here; k_dflt (apply Con.call; walk_at "CON"; walk_at "SWEEP"; intro v9 tl9 h9 tk9 F9 N9 D9 P9; clear D9; (repeat (with_reducible first | (obtain ⟨z9, P9⟩ : Exists _ := P9) | (obtain ⟨z9, P9⟩ : And _ _ := P9))); (try subst tl9); (try subst v9); (try simp only [List.append_nil, List.cons_append, List.nil_append] at N9); walk_at "FOLD")))
namespace Mine
section
variable {prog : Program} {w : World} {A : Around} {E : Value → Shared → Prop} {s : Shared} {b : Array UInt8} {n : Int} {t u : Tok}
open PySem.Builtin PySem.Builtin.Bytes in
theorem gives_in_bytes (h0 : 0 ≤ n) (h1 : n < 256) : Gives (Builtin.«bytes.__contains__» ⟨[.bytes b t, .int n u], []⟩) (.val (.bool (b.contains n.toNat.toUInt8))) := by
  refine .of_wp fun M A E s Q hq => ?_
  have e : (decide (n < 0) || decide (n ≥ 256)) = false := by simp; omega
  show wpAny M A (containsIn "bytes.__contains__" (.bytes b t) (.int n u) >>= fun r => ret (.bool r)) _ E s
  refine wpAny_bind ?_
  show wpAny M A (Bytes.buffer? "bytes.__contains__" (.bytes b t) >>= fun r => _) _ E s
  refine wpAny_bind (wpAny_of_eq KBy.buffer_eq ?_)
  show wpAny M A (if (decide (n < 0) || decide (n ≥ 256)) = true then _ else _) _ E s
  rw [e]
  exact wpAny_pure (wpAny_pure ⟨_, rfl, hq⟩)
theorem in_bytes {Q : Value → Shared → Prop} (h0 : 0 ≤ n) (h1 : n < 256) (h : Q (.bool (b.contains n.toNat.toUInt8)) s) : wpAny (model prog w) A (compareOp .In (.int n u) (.bytes b t)) Q E s :=
  in_gives (typeIs_bytes s b t) FB.slot_bytes_contains FB.entry_bytes_contains (FB.args_bytes_contains_2 _ _) (gives_in_bytes h0 h1) h
theorem notin_bytes {Q : Value → Shared → Prop} (h0 : 0 ≤ n) (h1 : n < 256) (h : Q (.bool (!b.contains n.toNat.toUInt8)) s) : wpAny (model prog w) A (compareOp .NotIn (.int n u) (.bytes b t)) Q E s :=
  notIn_gives (typeIs_bytes s b t) FB.slot_bytes_contains FB.entry_bytes_contains (FB.args_bytes_contains_2 _ _) (gives_in_bytes h0 h1) h
end
end Mine
theorem Mine.fill (w : World) : PR = PySem.Challenge.rw_nz0335_01.prog ∧ Mine.k0.heap_1 w.params = Mine.k0.heap_1 w.params := by
  k_fill
  exact ⟨rfl, rfl⟩
local macro_rules | `(tactic| walk_at "compareOp NotIn int bytes") => `(tactic| (k_here; refine' notin_bytes ?a ?b ?_; (case a => omega); (case b => omega)))
local macro_rules | `(tactic| walk_at "compareOp In int bytes") => `(tactic| (k_here; refine' in_bytes ?a ?b ?_; (case a => omega); (case b => omega)))
namespace Mine
theorem b256 {P : Int → Prop} (h : ∀ k : Fin 256, P (k.val : Int)) {n : Int} (h0 : 0 ≤ n) (h1 : n < 256) : P n := by
  have := h ⟨n.toNat, by omega⟩
  simpa [Int.toNat_of_nonneg h0] using this
def isFigure (n : Int) : Bool := decide (48 ≤ n) && decide (n ≤ 57)
def isPrint (n : Int) : Bool := decide (33 ≤ n) && decide (n ≤ 126)
def isText (n : Int) : Bool := decide (32 ≤ n) && decide (n ≤ 126)
def isValue (n : Int) : Bool := isPrint n && !([40, 41, 123, 34, 93] : List Int).contains n
def isName (n : Int) : Bool := isPrint n && !([91, 93, 40, 41] : List Int).contains n
def isAtom (n : Int) : Bool := isPrint n && !([40, 41, 123, 37, 42, 34, 92, 93] : List Int).contains n
def isAString (n : Int) : Bool := isAtom n || n == 93
def isTag (n : Int) : Bool := isAString n && n != 43
theorem c_is_figure (w : World) (n : Int) (t : Tok) : ConV w 350 [.int n t] 5 50 (fun _ => .bool (isFigure n)) := by
  walk_at "ENTER"
  k_steps
  all_goals (refine retB ?_; unfold isFigure; first | (simp_all; done) | (simp_all; omega))
theorem c_is_printable (w : World) (n : Int) (t : Tok) : ConV w 308 [.int n t] 5 50 (fun _ => .bool (isPrint n)) := by
  walk_at "ENTER"
  k_steps
  all_goals (refine retB ?_; unfold isPrint; first | (simp_all; done) | (simp_all; omega))
theorem c_is_text_code (w : World) (n : Int) (t : Tok) : ConV w 700 [.int n t] 5 50 (fun _ => .bool (isText n)) := by
  walk_at "ENTER"
  k_steps
  all_goals (refine retB ?_; unfold isText; first | (simp_all; done) | (simp_all; omega))
end Mine
local macro_rules | `(tactic| walk_at "CONV") => `(tactic| ((first | apply c_is_printable | apply c_is_figure); walk_at "GO"))
namespace Mine
theorem c_is_value_code (w : World) (n : Int) (t : Tok) (h0 : 0 ≤ n) (h1 : n < 256) : ConV w 336 [.int n t] 15 150 (fun _ => .bool (isValue n)) := by
  walk_at "ENTER"
  k_steps
  all_goals (refine retB ?_)
  · have hp : isPrint n = true := by assumption
    rw [isValue, hp, Bool.true_and]
    exact b256 (P := fun n => (!(#[40, 41, 123, 34, 93] : Array UInt8).contains n.toNat.toUInt8) = !([40, 41, 123, 34, 93] : List Int).contains n) (by decide +kernel) h0 h1
  · simp_all [isValue]
theorem c_is_name_code (w : World) (n : Int) (t : Tok) (h0 : 0 ≤ n) (h1 : n < 256) : ConV w 693 [.int n t] 15 150 (fun _ => .bool (isName n)) := by
  walk_at "ENTER"
  k_steps
  all_goals (refine retB ?_)
  · have hp : isPrint n = true := by assumption
    rw [isName, hp, Bool.true_and]
    exact b256 (P := fun n => (!(#[91, 93, 40, 41] : Array UInt8).contains n.toNat.toUInt8) = !([91, 93, 40, 41] : List Int).contains n) (by decide +kernel) h0 h1
  · simp_all [isName]
theorem c_is_atom_code (w : World) (n : Int) (t : Tok) (h0 : 0 ≤ n) (h1 : n < 256) : ConV w 315 [.int n t] 15 150 (fun _ => .bool (isAtom n)) := by
  walk_at "ENTER"
  k_steps
  all_goals (refine retB ?_)
  · have hp : isPrint n = true := by assumption
    rw [isAtom, hp, Bool.true_and]
    exact b256 (P := fun n => (!(#[40, 41, 123, 37, 42, 34, 92, 93] : Array UInt8).contains n.toNat.toUInt8) = !([40, 41, 123, 37, 42, 34, 92, 93] : List Int).contains n) (by decide +kernel) h0 h1
  · simp_all [isAtom]
end Mine
local macro_rules | `(tactic| walk_at "CONV") => `(tactic| (apply c_is_atom_code; walk_at "GO"))
namespace Mine
theorem c_is_astring_code (w : World) (n : Int) (t : Tok) (h0 : 0 ≤ n) (h1 : n < 256) : ConV w 322 [.int n t] 25 250 (fun _ => .bool (isAString n)) := by
  walk_at "ENTER"
  k_steps
  all_goals (refine retB ?_; unfold isAString; first | (simp_all; done) | (simp_all; omega))
end Mine
local macro_rules | `(tactic| walk_at "CONV") => `(tactic| (apply c_is_astring_code; walk_at "GO"))
namespace Mine
theorem c_is_tag_code (w : World) (n : Int) (t : Tok) (h0 : 0 ≤ n) (h1 : n < 256) : ConV w 329 [.int n t] 35 350 (fun _ => .bool (isTag n)) := by
  walk_at "ENTER"
  k_steps
  all_goals (refine retB ?_; unfold isTag; first | (simp_all; done) | (simp_all; omega))
end Mine
namespace Mine
section
variable {prog : Program} {w : World} {A : Around} {E : Value → Shared → Prop} {s : Shared} {h₀ : Heap} {L : Addr} {m : Str → Option Value} {env : Env}
/-- the end of a comprehension's element that keeps nothing -/
def CompEl (h₀ : Heap) (L : Addr) (m : Str → Option Value) (s : Shared) (led : List (Addr × Obj)) (G : Value → Prop) (y : Value) (s₂ : Shared) : Prop :=
  ∃ h' tk', s₂ = { s with heap := h', toks := tk' } ∧ Fr h₀ L h' m ∧ News h₀ L h' led ∧ G y
theorem CompEl.intro {led : List (Addr × Obj)} {G : Value → Prop} {y : Value} {h' : Heap} {tk' : Nat} (F : Fr h₀ L h' m) (N : News h₀ L h' led) (g : G y) :
    CompEl h₀ L m s led G y { s with heap := h', toks := tk' } := ⟨h', tk', rfl, F, N, g⟩
theorem comp_rest {elt : Expr} {x : Str} {scope : Scope} {cl : List (Str × Addr)} {S : List (Addr × Obj) → Prop} {P : Nat → Value → Prop} {Fin : List Value → List (Addr × Obj) → Prop} {n : Nat} {news : List (Addr × Obj)} (G : Nat → Value → Prop) (hS : S news)
    (turn : ∀ i v I oI C oC D m₂ ys h tk (E' : Value → Shared → Prop), i < n → P i v → LCg.NsObj oC m₂ → m₂ x = some v → Fr h₀ L h m → News h₀ L h ((I, oI) :: (C, oC) :: (D, LCg.lst ys) :: news) →
      wpAny (model prog w) A (eval elt (compEnvC scope cl C env)) (CompEl h₀ L m { s with heap := h, toks := tk } ((I, oI) :: (C, oC) :: (D, LCg.lst ys) :: news) (G i)) E' { s with heap := h, toks := tk })
    (fin : ∀ ys, ys.length = n → (∀ i y, ys[i]? = some y → G i y) → Fin ys news) : LCg.CompRest prog w A h₀ L m env elt x scope cl s S P Fin n 0 [] news := by
  have key : ∀ (j i : Nat) (ys : List Value), i + j = n → ys.length = i → (∀ k y, ys[k]? = some y → G k y) → LCg.CompRest prog w A h₀ L m env elt x scope cl s S P Fin j i ys news := by
    intro j
    induction j with
    | zero =>
      intro i ys hi hy hg
      exact LCg.CompRest.zero (fin ys (by omega) hg)
    | succ j ih =>
      intro i ys hi hy hg
      refine LCg.CompRest.succ fun v I oI C oC D m₂ h tk E' hv hC hx F N off ne => ?_
      refine wpAny_mono (turn i v I oI C oC D m₂ ys h tk E' (by omega) hv hC hx F N) (fun y s₂ hq => ?_) fun _ _ e => e
      obtain ⟨h', tk', e, F', N', g⟩ := hq
      refine ⟨h', tk', news, e, F', N', off, hS, ih (i + 1) _ (by omega) (by simp [hy]) fun k z hk => ?_⟩
      by_cases hki : k < ys.length
      · rw [List.getElem?_append_left hki] at hk
        exact hg k z hk
      · have e2 : k = ys.length := by
          have := (List.getElem?_eq_some_iff.mp hk).1
          simp at this
          omega
        subst e2
        simp at hk
        subst hk
        rw [hy]
        exact g
  exact key n 0 [] (by omega) rfl fun k y hk => by simp at hk

theorem block_src {elt iter : Expr} {x : Str} {px : Pos} {scope : Scope} {cl : List (Str × Addr)} {pos : Pos} {Q : Value → Shared → Prop} {s₁ : Shared} {o : Obj} {n : Nat} {P : Nat → Value → Prop} {St : Nat → Heap → Prop} {news : List (Addr × Obj)}
    (hcell : ∀ y ∈ scope.names, y.2 ≠ .cell) (hkind : scope.kind = .function) (hx : scope.names.lookup x = some .local)
    (F : Fr h₀ L s₁.heap m) (N : News h₀ L s₁.heap news) (hsz : n ≤ sizeLine)
    (W : Walks prog w A s₁.heap.objs.size [s₁.heap.objs.size] [s₁.heap.objs.size] n P St) (hIo : ∀ i h, St i h → ∃ o, h.get? s₁.heap.objs.size = some o)
    (hSt : ∀ i h h' o nw, St i h → h.get? s₁.heap.objs.size = some o → h'.get? s₁.heap.objs.size = some o → (∀ b o, h₀.get? b = some o → h'.get? b = some o) → News h₀ L h' nw → True → St i h') (hst : St 0 (s₁.heap.push o))
    (R : LCg.CompRest prog w A h₀ L m env elt x scope cl { s₁ with heap := s₁.heap.push o } (fun _ => True) P (LCg.FinE h₀ L m { s₁ with heap := s₁.heap.push o } Q) n 0 [] news) :
    wpAny (model prog w) A (newList []) (fun acc s₃ => wpAny (model prog w) A (newFunctionEnv scope env.globals cl [] env.qual none .none (some env)) (fun cenv s₄ =>
      codeAny (model prog w) A (.compStart (.ListComp elt [⟨.Name x px, iter, [], 0⟩] scope pos) 0 (.ref s₁.heap.objs.size) acc { cenv with scope := relabel scope env }) (compPost (model prog w) A E none Q acc cenv.locals) s₄) E s₃) E { s₁ with heap := s₁.heap.push o } := by
  refine LCg.block_U (s₂ := { s₁ with heap := s₁.heap.push o }) (S := fun _ => True) (news := news) W hsz hIo hSt hcell hkind hx hst (fun b hb => ?_)
    (F.keeps fun _ _ e => Heap.get?_push_of_some _ e) (N.grown fun _ _ e => Heap.get?_push_of_some _ e) (Nat.ne_of_lt F.ns.lt) (next_is_new F) (fun p hp => Nat.ne_of_lt (Heap.lt_size (N p hp).1)) trivial R ?_
  · rw [List.mem_singleton.mp hb]
    show s₁.heap.objs.size < (s₁.heap.push _).objs.size
    rw [Heap.size_push]; exact Nat.lt_succ_self _
  · intro D C h tk m' ys news' F' N' o1 hn hC₀ hD₀ hCL hDL hCD offC fin
    refine ⟨m', hn, fun h'' hs'' => fin D h'' tk (F'.change hs'' hCL hC₀) (fun p hp => ?_) o1⟩
    refine ⟨hs''.extBut _ _ ?_ (N' p hp).1, (N' p hp).2⟩
    rcases List.mem_cons.mp hp with rfl | hp
    · exact Ne.symm hCD
    · exact offC p hp

/-- the source of a comprehension is a text | bytes: what its turns must show -/
def SrcT (prog : Program) (w : World) (A : Around) (h₀ : Heap) (L : Addr) (m : Str → Option Value) (env : Env) (elt : Expr) (x : Str) (scope : Scope) (cl : List (Str × Addr)) (Q : Value → Shared → Prop) (xv : Value) (s₁ : Shared) : Prop :=
  ∃ X tx news, xv = .str X tx ∧ A.handled = none ∧ Fr h₀ L s₁.heap m ∧ News h₀ L s₁.heap news ∧ X.cps.size ≤ sizeLine ∧
      ∀ g, LCg.CompRest prog w A h₀ L m env elt x scope cl { s₁ with heap := g } (fun _ => True) (SignAt X) (LCg.FinE h₀ L m { s₁ with heap := g } Q) X.cps.size 0 [] news
def SrcB (prog : Program) (w : World) (A : Around) (h₀ : Heap) (L : Addr) (m : Str → Option Value) (env : Env) (elt : Expr) (x : Str) (scope : Scope) (cl : List (Str × Addr)) (Q : Value → Shared → Prop) (xv : Value) (s₁ : Shared) : Prop :=
  ∃ X tx news, xv = .bytes X tx ∧ A.handled = none ∧ Fr h₀ L s₁.heap m ∧ News h₀ L s₁.heap news ∧ X.size ≤ sizeLine ∧
      ∀ g, LCg.CompRest prog w A h₀ L m env elt x scope cl { s₁ with heap := g } (fun _ => True) (fun i v => ∃ c u, X[i]? = some c ∧ v = .int (c.toNat : Int) u) (LCg.FinE h₀ L m { s₁ with heap := g } Q) X.size 0 [] news
/-- a comprehension over a text, its element keeping nothing: one turn, the end -/
theorem SrcT.intro {elt : Expr} {x : Str} {scope : Scope} {cl : List (Str × Addr)} {Q : Value → Shared → Prop} {X : Str} {tx : Tok} {s₁ : Shared} {news : List (Addr × Obj)} (G : Nat → Value → Prop) (hh : A.handled = none) (F : Fr h₀ L s₁.heap m) (N : News h₀ L s₁.heap news) (hsz : X.cps.size ≤ sizeLine)
    (turn : ∀ i c u I oI C oC D m₂ ys h tk (E' : Value → Shared → Prop), i < X.cps.size → X.cps[i]? = some c → LCg.NsObj oC m₂ → m₂ x = some (.str ⟨#[c]⟩ u) → Fr h₀ L h m → News h₀ L h ((I, oI) :: (C, oC) :: (D, LCg.lst ys) :: news) →
      wpAny (model prog w) A (eval elt (compEnvC scope cl C env)) (CompEl h₀ L m { s₁ with heap := h, toks := tk } ((I, oI) :: (C, oC) :: (D, LCg.lst ys) :: news) (G i)) E' { s₁ with heap := h, toks := tk })
    (fin : ∀ ys D h tk, ys.length = X.cps.size → (∀ i y, ys[i]? = some y → G i y) → Fr h₀ L h m → News h₀ L h ((D, LCg.lst ys) :: news) → LCg.Off1 D news → Q (.ref D) { s₁ with heap := h, toks := tk }) : SrcT prog w A h₀ L m env elt x scope cl Q (.str X tx) s₁ := by
  refine ⟨X, tx, news, rfl, hh, F, N, hsz, fun g => comp_rest G trivial (fun i v I oI C oC D m₂ ys h tk E' hi hv hC hx F N => ?_) fun ys hl hg => ?_⟩
  · obtain ⟨c, u, hc, rfl⟩ := hv
    exact turn i c u I oI C oC D m₂ ys h tk E' hi hc hC hx F N
  · exact fun D h tk F N o1 => fin ys D h tk hl hg F N o1
theorem SrcB.intro {elt : Expr} {x : Str} {scope : Scope} {cl : List (Str × Addr)} {Q : Value → Shared → Prop} {X : Array UInt8} {tx : Tok} {s₁ : Shared} {news : List (Addr × Obj)} (G : Nat → Value → Prop) (hh : A.handled = none) (F : Fr h₀ L s₁.heap m) (N : News h₀ L s₁.heap news) (hsz : X.size ≤ sizeLine)
    (turn : ∀ i n u I oI C oC D m₂ ys h tk (E' : Value → Shared → Prop), i < X.size → (KBw.bInts X)[i]? = some n → 0 ≤ n → n < 256 → LCg.NsObj oC m₂ → m₂ x = some (.int n u) → Fr h₀ L h m → News h₀ L h ((I, oI) :: (C, oC) :: (D, LCg.lst ys) :: news) →
      wpAny (model prog w) A (eval elt (compEnvC scope cl C env)) (CompEl h₀ L m { s₁ with heap := h, toks := tk } ((I, oI) :: (C, oC) :: (D, LCg.lst ys) :: news) (G i)) E' { s₁ with heap := h, toks := tk })
    (fin : ∀ ys D h tk, ys.length = X.size → (∀ i y, ys[i]? = some y → G i y) → Fr h₀ L h m → News h₀ L h ((D, LCg.lst ys) :: news) → LCg.Off1 D news → Q (.ref D) { s₁ with heap := h, toks := tk }) : SrcB prog w A h₀ L m env elt x scope cl Q (.bytes X tx) s₁ := by
  refine ⟨X, tx, news, rfl, hh, F, N, hsz, fun g => comp_rest G trivial (fun i v I oI C oC D m₂ ys h tk E' hi hv hC hx F N => ?_) fun ys hl hg => ?_⟩
  · obtain ⟨c, u, hc, rfl⟩ := hv
    have hb := KBw.ints_get hc
    have hr := KBw.ints_in (List.mem_of_getElem? hb)
    exact turn i _ u I oI C oC D m₂ ys h tk E' hi hb hr.1 hr.2 hC hx F N
  · exact fun D h tk F N o1 => fin ys D h tk hl hg F N o1

theorem listcomp_text {elt iter : Expr} {x : Str} {px : Pos} {scope : Scope} {cl : List (Str × Addr)} {pos : Pos} {Q : Value → Shared → Prop} (_F₀ : Fr h₀ L s.heap m)
    (hclos : closureFor scope env = pure cl) (hcell : ∀ y ∈ scope.names, y.2 ≠ .cell) (hkind : scope.kind = .function)
    (hnames : ∀ y ∈ scope.names, y.2 = .local → scope.names.lookup y.1 = some .local) (hx : scope.names.lookup x = some .local)
    (h : wpAny (model prog w) A (eval iter env) (SrcT prog w A h₀ L m env elt x scope cl Q) E s)
    (hs : ∀ x, foldedSetIterable iter env x = pure x := by intro _; rfl) :
    wpAny (model prog w) A (eval (.ListComp elt [⟨.Name x px, iter, [], 0⟩] scope pos) env) Q E s := by
  rw [eval_ListComp]
  refine wpAny_comprehension_free (use := none) rfl hs hclos hkind hnames (wpAny_mono h (fun xv s₁ h₁ => ?_) fun _ _ e => e)
  obtain ⟨X, tx, news, rfl, hh, F, N, hsz, R⟩ := h₁
  refine wpAny_pyIter_strU ?_
  by_cases ha : X.cps.all (· < 128) = true
  · have e : strIterType X = "str_ascii_iterator" := by simp [strIterType, ha]
    rw [e]
    refine block_src hcell hkind hx F N hsz (Walks.strAscii hh _ X tx) (fun i h st => let ⟨o, e, _⟩ := st; ⟨o, e⟩) (fun i h h' o nw st e e' _ _ _ => ?_) ⟨_, Heap.get?_push_size _ rfl, rfl, rfl⟩ (R _)
    obtain ⟨o', q, r⟩ := st
    rw [e] at q; cases q
    exact ⟨_, e', r⟩
  · have e : strIterType X = "str_iterator" := by simp [strIterType, ha]
    rw [e]
    refine block_src hcell hkind hx F N hsz (Walks.strWide hh _ X tx) (fun i h st => let ⟨o, e, _⟩ := st; ⟨o, e⟩) (fun i h h' o nw st e e' _ _ _ => ?_) ⟨_, Heap.get?_push_size _ rfl, rfl, rfl⟩ (R _)
    obtain ⟨o', q, r⟩ := st
    rw [e] at q; cases q
    exact ⟨_, e', r⟩
theorem listcomp_bytes {elt iter : Expr} {x : Str} {px : Pos} {scope : Scope} {cl : List (Str × Addr)} {pos : Pos} {Q : Value → Shared → Prop} (_F₀ : Fr h₀ L s.heap m)
    (hclos : closureFor scope env = pure cl) (hcell : ∀ y ∈ scope.names, y.2 ≠ .cell) (hkind : scope.kind = .function)
    (hnames : ∀ y ∈ scope.names, y.2 = .local → scope.names.lookup y.1 = some .local) (hx : scope.names.lookup x = some .local)
    (h : wpAny (model prog w) A (eval iter env) (SrcB prog w A h₀ L m env elt x scope cl Q) E s)
    (hs : ∀ x, foldedSetIterable iter env x = pure x := by intro _; rfl) :
    wpAny (model prog w) A (eval (.ListComp elt [⟨.Name x px, iter, [], 0⟩] scope pos) env) Q E s := by
  rw [eval_ListComp]
  refine wpAny_comprehension_free (use := none) rfl hs hclos hkind hnames (wpAny_mono h (fun xv s₁ h₁ => ?_) fun _ _ e => e)
  obtain ⟨X, tx, news, rfl, hh, F, N, hsz, R⟩ := h₁
  refine KBw.pyIter_bytes ?_
  refine block_src hcell hkind hx F N hsz (KBw.walks hh _ X tx) (fun i h st => let ⟨o, e, _⟩ := st; ⟨o, e⟩) (fun i h h' o nw st e e' _ _ _ => ?_) ⟨_, Heap.get?_push_size _ rfl, rfl, rfl⟩ (R _)
  obtain ⟨o', q, r⟩ := st
  rw [e] at q; cases q
  exact ⟨_, e', r⟩

/-- the end of a turn that turns nothing but the loop's own name -/
def QuietEnd (h₀ : Heap) (L : Addr) (x : Str) (m₀ : Str → Option Value) (led : List (Addr × Obj)) (s : Shared) (f : Flow) (s₂ : Shared) : Prop :=
  f = .next ∧ ∃ h' tk' v, s₂ = { s with heap := h', toks := tk' } ∧ Fr h₀ L h' (fun y => if y = x then v else m₀ y) ∧ News h₀ L h' led
theorem QuietEnd.intro {x : Str} {m₀ : Str → Option Value} {led : List (Addr × Obj)} {h' : Heap} {tk' : Nat} {v : Option Value} (F : Fr h₀ L h' (fun y => if y = x then v else m₀ y)) (N : News h₀ L h' led) :
    QuietEnd h₀ L x m₀ led s .next { s with heap := h', toks := tk' } := ⟨rfl, h', tk', v, rfl, F, N⟩
theorem quiet_range {x : Str} {body : List Stmt} {Q : Flow → Shared → Prop} {r : Addr} {a₀ b₀ : Int} {t₀ u₀ v₀ : Tok} {n : Nat} {m₀ : Str → Option Value} {news : List (Addr × Obj)}
    (hh : A.handled = none) (hr : IsRange s.heap r a₀ b₀ 1 t₀ u₀ v₀) (hsmall : Builtin.Range.small a₀ b₀ 1 = true) (hn : Builtin.Range.rangeSize a₀ b₀ 1 = (n : Int)) (F : Fr h₀ env.locals s.heap m₀) (N : News h₀ env.locals s.heap news)
    (turn : ∀ k t h tk own, a₀ ≤ k → k < a₀ + (n : Int) → Fr h₀ env.locals h (fun y => if y = x then some (.int k t) else m₀ y) → News h₀ env.locals h (news ++ own) →
      wpAny (model prog w) A (execs body env) (QuietEnd h₀ env.locals x m₀ (news ++ own) { s with heap := h, toks := tk }) E { s with heap := h, toks := tk })
    (done : ∀ v h tk, Fr h₀ env.locals h (fun y => if y = x then v else m₀ y) → News h₀ env.locals h news → Q .next { s with heap := h, toks := tk }) :
    wpAny (model prog w) A (pyIter (.ref r)) (fun it s₂ => LoopAtV prog w A h₀ env x body Q E it s₂) E s := by
  have em : ∀ (u : Str → Option Value) (v : Option Value), (fun y => if y = x then v else kstB (fun z => if ([] : List Str).contains z then u z else m₀ z) [] y) = fun y => if y = x then v else m₀ y := by
    intro u v; funext y; simp [kstB]
  refine kst_range (σ := Unit) (fun _ => news) (fun _ => []) (fun _ => True) [] (fun _ _ => True) () hh hr hsmall hn F N trivial (fun _ hp => nomatch hp) trivial (fun c pre k t u h tk own hk hl _ _ _ F₁ N₁ => ?_) (fun c u h tk _ _ F₁ N₁ => ?_)
  · rw [em] at F₁
    refine wpAny_mono (turn k t h tk own (by omega) (by omega) F₁ N₁) (fun f s₂ q => ?_) fun _ _ e => e
    obtain ⟨rfl, h', tk', v, rfl, F₂, N₂⟩ := q
    refine ⟨h', tk', _, news ++ own, news, rfl, F₂, N₂, fun p hp => List.mem_append_left _ hp, fun p hp => List.mem_append_right _ hp, rfl, (), rfl, trivial, (fun _ hp => nomatch hp), (fun z hz _ _ => by simp [hz]), trivial⟩
  · refine done (u x) h tk ?_ N₁
    have e2 : (fun y => if y = x then u y else kstB (fun z => if ([] : List Str).contains z then u z else m₀ z) [] y) = fun y => if y = x then u x else m₀ y := by
      funext y
      by_cases hy : y = x
      · subst hy; simp
      · simp [hy, kstB]
    rw [e2] at F₁
    exact F₁
end
end Mine
local macro_rules | `(tactic| walk_at "QuietEnd") => `(tactic| (exact QuietEnd.intro (by k_asm) (by k_asm)))
namespace Mine
theorem ints_of {ns : List Int} : ∀ {ys : List Value}, ys.length = ns.length → (∀ i y, ys[i]? = some y → ∃ t, y = Value.int (ns.getD i 0) t) → IntsAre ys ns := by
  induction ns with
  | nil => intro ys h _; cases ys with | nil => exact .nil | cons => simp at h
  | cons n ns ih =>
    intro ys h g
    cases ys with
    | nil => simp at h
    | cons y ys =>
      obtain ⟨t, e⟩ := g 0 y (by simp)
      subst e
      exact .cons _ _ (ih (by simpa using h) fun i z hz => by simpa using g (i + 1) z (by simpa using hz))
theorem strs_of {ns : List Str} : ∀ {ys : List Value}, ys.length = ns.length → (∀ i y, ys[i]? = some y → ∃ t, y = Value.str (ns.getD i Str.empty) t) → StrsAre ys ns := by
  induction ns with
  | nil => intro ys h _; cases ys with | nil => exact .nil | cons => simp at h
  | cons n ns ih =>
    intro ys h g
    cases ys with
    | nil => simp at h
    | cons y ys =>
      obtain ⟨t, e⟩ := g 0 y (by simp)
      subst e
      exact .cons _ _ (ih (by simpa using h) fun i z hz => by simpa using g (i + 1) z (by simpa using hz))
/-- codes of ASCII signs -/
def Asc (cs : List Int) : Prop := ∀ c ∈ cs, 0 ≤ c ∧ c < 128
theorem Asc.byte {cs : List Int} (h : Asc cs) : KBa.In cs := fun c hc => ⟨(h c hc).1, by have := (h c hc).2; omega⟩
abbrev txt (cs : List Int) : Str := KStt.txt cs
theorem txt_size (cs : List Int) : (txt cs).cps.size = cs.length := KStt.txt_length cs
theorem ints_byteArr {cs : List Int} (h : Asc cs) : KBw.bInts (byteArr cs) = cs := KBa.ints_make h.byte
theorem txt_get {cs : List Int} {i : Nat} {c : Nat} (h : Asc cs) (hc : (txt cs).cps[i]? = some c) : cs[i]? = some (c : Int) ∧ c < 128 := by
  have e : (txt cs).cps[i]? = (cs.map Int.toNat)[i]? := by simp [txt, KStt.txt]
  rw [e, List.getElem?_map] at hc
  cases hi : cs[i]? with
  | none => rw [hi] at hc; cases hc
  | some n =>
    rw [hi] at hc
    have hn := h n (List.mem_of_getElem? hi)
    simp at hc
    refine ⟨?_, by omega⟩
    rw [← hc, Int.toNat_of_nonneg hn.1]
theorem txt_cons (c : Int) (cs : List Int) : txt (c :: cs) = ⟨#[c.toNat]⟩ ++ txt cs := by
  apply Str.ext'
  rw [Str.cps_append]
  simp [txt, KStt.txt]
theorem txt_append (a b : List Int) : txt (a ++ b) = txt a ++ txt b := by
  apply Str.ext'
  rw [Str.cps_append]
  simp [txt, KStt.txt]
theorem join_signs0 : ∀ (cs : List Int), Str.join Str.empty (cs.map fun c => (⟨#[c.toNat]⟩ : Str)) = txt cs
  | [] => rfl
  | [c] => rfl
  | c :: d :: r => by
    have ih := join_signs0 (d :: r)
    rw [txt_cons, ← ih]
    show (⟨#[c.toNat]⟩ ++ Str.empty ++ Str.join Str.empty ((d :: r).map fun c => (⟨#[c.toNat]⟩ : Str)) : Str) = _
    congr 1
theorem join_signs (cs : List Int) : Txt.join Str.empty (cs.map fun c => (⟨#[c.toNat]⟩ : Str)) = txt cs := by
  show Builtin.Str.glued _ _ = _
  rw [StrLaws.glued_eq_join]
  exact join_signs0 cs
theorem item_code {cs : List Int} {i : Int} (h0 : 0 ≤ i) (h1 : i < (cs.length : Int)) : Txt.item (txt cs) i = ⟨#[(cs.getD i.toNat 0).toNat]⟩ := by
  have hi : i.toNat < cs.length := by omega
  have hs : (txt cs).length = cs.length := KStt.txt_length cs
  have e1 : seqIndex? i (txt cs).length = some i.toNat := by
    have hn : ¬ i < 0 := by omega
    simp [seqIndex?, hn, hs, h0, h1]
  have e2 : (txt cs).cps[i.toNat]? = some (cs.getD i.toNat 0).toNat := by
    simp [txt, KStt.txt, hi]
  unfold Txt.item Txt.charAt
  rw [e1]
  simp only [Option.bind_some, e2, Option.getD_some]
theorem sum_ones : ∀ (cs : List Int), ((cs.map fun c => (⟨#[c.toNat]⟩ : Str)).map (·.length)).sum = cs.length
  | [] => rfl
  | c :: cs => by
    have := sum_ones cs
    simp only [List.map_cons, List.sum_cons, this, List.length_cons]
    show 1 + cs.length = cs.length + 1
    omega
def lowerC (n : Int) : Int := if 65 ≤ n ∧ n ≤ 90 then n + 32 else n
theorem c_lower_code (w : World) (n : Int) (t : Tok) : ConV w 215 [.int n t] 5 50 (fun t => .int (lowerC n) t) := by
  walk_at "ENTER"
  k_steps
  all_goals (refine retI ?_; unfold lowerC; first | (simp_all; done) | (simp_all; omega))
end Mine
local macro_rules | `(tactic| walk_at "CONV") => `(tactic| (apply c_lower_code; walk_at "GO"))
namespace Mine
section
variable {prog : Program} {w : World} {A : Around} {E : Value → Shared → Prop} {s : Shared} {b : Array UInt8} {cs : List Int} {t ui : Tok} {i : Int} {value slice : Expr}
theorem len_asc {Q : Value → Shared → Prop} (hk : KBw.bInts b = cs) (hz : cs.length ≤ 100000) (h : Q (.int cs.length (s.toks + 1)) { s with toks := s.toks + 1 + 1 }) :
    wpAny (model prog w) A (call (.builtin "len") [.bytes b t]) Q E s := KBw.len_K hk (by omega) h
theorem item_asc {Q : Value → Shared → Prop} (hk : KBw.bInts b = cs) (hA : Asc cs) (hz : cs.length ≤ 100000) (h0 : 0 ≤ i) (h1 : i < (cs.length : Int))
    (h : ∀ t' k, 0 ≤ cs.getD i.toNat 0 → cs.getD i.toNat 0 < 128 → Q (.int (cs.getD i.toNat 0) t') { s with toks := k })
    (hs : subscripted slice false (.bytes b t) (.int i ui) = operate [.bytes b t, .int i ui] (getItem (.bytes b t) (.int i ui)) := by with_unfolding_all rfl)
    (ht : ∀ r, letTemporaryGo value (.bytes b t) r = pure () := by intro _; with_unfolding_all rfl) : wpAny (model prog w) A (subscriptTail value slice (.bytes b t) (.int i ui)) Q E s := by
  refine KBw.item_K hk (by omega) h0 h1 (fun t' k lo _ => h t' k lo ?_) hs ht
  have hi : i.toNat < cs.length := by omega
  have e : cs.getD i.toNat 0 = cs[i.toNat] := by simp [List.getD_eq_getElem?_getD, hi]
  rw [e]
  exact (hA _ (List.getElem_mem hi)).2
end
end Mine
local macro_rules | `(tactic| walk_at "call builtin:len") => `(tactic| (k_here; (with_reducible refine' len_asc ?_ ?_ ?_); k_dflt (walk_at "GO1")))
local macro_rules | `(tactic| walk_at "subscriptTail") => `(tactic| (k_here; (with_reducible refine' item_asc ?_ ?_ ?_ ?_ ?_ ?_); k_dflt (walk_at "GO1"); intro _ _ ascLo ascHi))
namespace Mine
end Mine
local macro_rules | `(tactic| walk_at "LCB") => `(tactic| (k_here; k_dflt (refine' listcomp_bytes (by k_asm) (by with_unfolding_all rfl) (by decide) (by rfl) (by decide) (by rfl) ?_)))
local macro_rules | `(tactic| walk_at "QUIET") => `(tactic| (k_here; k_dflt (refine' quiet_range ?a ?b ?c ?d ?e ?f ?_ ?_; (case a => rfl); (case b => assumption); (case e => k_asm); (case f => k_asm); (case c => exact small_one (by omega) (by omega) (by omega) (by omega)); (case d => exact rangeSize_nat _ _))))
namespace Mine
section
local macro_rules | `(tactic| walk_at "eval ListComp") => `(tactic| walk_at "LCB")
theorem c_lower (w : World) (b : Array UInt8) (cs : List Int) (t : Tok) (hk : KBw.bInts b = cs) (hc : Asc cs) (hz : cs.length ≤ 100000) : ConV w 220 [.bytes b t] 15 150 (fun t => .bytes (byteArr (cs.map lowerC)) t) := by
  have hb : b.size = cs.length := by rw [← hk, KBw.ints_length]
  walk_at "ENTER"
  k_steps
  refine SrcB.intro (fun i y => ∃ t, y = .int ((cs.map lowerC).getD i 0) t) rfl (by k_asm) (by k_asm) (by rw [sizeLine_eq, hb]; omega) (fun i n u I oI C oC D m₂ ys h tk E' hi hn h0 h1 hC hx F N => ?_) (fun ys D h tk hl hg F N o1 => ?_)
  · k_steps
    rw [hk] at hn
    exact CompEl.intro (by k_asm) (by k_asm) ⟨_, by simp [List.getD_eq_getElem?_getD, hn]; rfl⟩
  · have hI : IntsAre ys (cs.map lowerC) := ints_of (by simp [hl, hb]) hg
    have hr : KBa.In (cs.map lowerC) := by
      intro c hm
      obtain ⟨d, hd, rfl⟩ := List.mem_map.mp hm
      have := hc d hd
      unfold lowerC
      split <;> omega
    k_steps
    exact retY rfl
end
section
local macro_rules | `(tactic| walk_at "eval ListComp") => `(tactic| walk_at "LCB")
local macro_rules | `(tactic| walk_at "pyIter ref") => `(tactic| walk_at "QUIET")
theorem c_ascii_text (w : World) (b : Array UInt8) (cs : List Int) (t : Tok) (hk : KBw.bInts b = cs) (hc : Asc cs) (hz : cs.length ≤ 100000) : ConV w 235 [.bytes b t] 15 150 (fun t => .str (txt cs) t) := by
  have hb : b.size = cs.length := by rw [← hk, KBw.ints_length]
  walk_at "ENTER"
  k_steps
  refine SrcB.intro (fun i y => ∃ t, y = .str ((cs.map fun c => (⟨#[c.toNat]⟩ : Str)).getD i Str.empty) t) (by rfl) (by k_asm) (by k_asm) (by rw [sizeLine_eq, hb]; omega) (fun i n u I oI C oC D m₂ ys h tk E' hi hn h0 h1 hC hx F N => ?_) (fun ys D h tk hl hg F N o1 => ?_)
  · k_steps
    rw [hk] at hn
    exact CompEl.intro (by k_asm) (by k_asm) ⟨_, by simp [List.getD_eq_getElem?_getD, hn]; rfl⟩
  · have hS : StrsAre ys (cs.map fun c => (⟨#[c.toNat]⟩ : Str)) := strs_of (by simp [hl, hb]) hg
    k_steps
    refine' join_listC (News.isList (by k_asm) (by k_mem)) hS (by decide) ?hok ?_
    case hok => rw [sum_ones]; simp; omega
    intro t' k
    k_steps
    exact retS (join_signs cs)
end
section
variable {prog : Program} {w : World} {A : Around} {E : Value → Shared → Prop} {s : Shared} {cs : List Int} {t ui : Tok} {i : Int} {value slice : Expr}
theorem len_txt {Q : Value → Shared → Prop} (hz : cs.length ≤ 100000) (h : Q (.int cs.length (s.toks + 1)) { s with toks := s.toks + 1 + 1 }) :
    wpAny (model prog w) A (call (.builtin "len") [.str (txt cs) t]) Q E s := by
  have e : (txt cs).length = cs.length := txt_size cs
  refine P.len_str (by rw [e]; omega) (by rw [e]; exact h)
theorem item_txt {Q : Value → Shared → Prop} (hA : Asc cs) (hz : cs.length ≤ 100000) (h0 : 0 ≤ i) (h1 : i < (cs.length : Int))
    (h : 0 ≤ cs.getD i.toNat 0 → cs.getD i.toNat 0 < 128 → Q (.str ⟨#[(cs.getD i.toNat 0).toNat]⟩ s.toks) { s with toks := s.toks + 1 })
    (hs : subscripted slice false (.str (txt cs) t) (.int i ui) = operate [.str (txt cs) t, .int i ui] (getItem (.str (txt cs) t) (.int i ui)) := by with_unfolding_all rfl)
    (ht : ∀ r, letTemporaryGo value (.str (txt cs) t) r = pure () := by intro _; with_unfolding_all rfl) : wpAny (model prog w) A (subscriptTail value slice (.str (txt cs) t) (.int i ui)) Q E s := by
  refine KXi.item (n := cs.length) (txt_size cs) (by omega) h1 (by omega) (fun _ => ?_) hs ht
  have hi : i.toNat < cs.length := by omega
  have e : cs.getD i.toNat 0 = cs[i.toNat] := by simp [List.getD_eq_getElem?_getD, hi]
  have hr := hA _ (List.getElem_mem hi)
  have e2 : Txt.item (txt cs) i = ⟨#[(cs.getD i.toNat 0).toNat]⟩ := item_code h0 h1
  rw [e2]
  exact h (by rw [e]; exact hr.1) (by rw [e]; exact hr.2)
end
end Mine
local macro_rules | `(tactic| walk_at "call builtin:len") => `(tactic| (k_here; (with_reducible refine' len_txt ?_ ?_); k_dflt (walk_at "GO1")))
local macro_rules | `(tactic| walk_at "subscriptTail Name Name str int") => `(tactic| (k_here; (with_reducible refine' item_txt ?_ ?_ ?_ ?_ ?_); k_dflt (walk_at "GO1"); intro ascLo ascHi))
namespace Mine
end Mine
local macro_rules | `(tactic| walk_at "LCT") => `(tactic| (k_here; k_dflt (refine' listcomp_text (by k_asm) (by with_unfolding_all rfl) (by decide) (by rfl) (by decide) (by rfl) ?_)))
namespace Mine
section
local macro_rules | `(tactic| walk_at "eval ListComp") => `(tactic| walk_at "LCT")
local macro_rules | `(tactic| walk_at "pyIter ref") => `(tactic| walk_at "QUIET")
theorem c_text_octets (w : World) (cs : List Int) (t : Tok) (hc : Asc cs) (hz : cs.length ≤ 100000) : ConV w 240 [.str (txt cs) t] 15 150 (fun t => .bytes (byteArr cs) t) := by
  walk_at "ENTER"
  k_steps
  refine SrcT.intro (fun i y => ∃ t, y = .int (cs.getD i 0) t) (by rfl) (by k_asm) (by k_asm) (by rw [sizeLine_eq, txt_size]; omega) (fun i n u I oI C oC D m₂ ys h tk E' hi hn hC hx F N => ?_) (fun ys D h tk hl hg F N o1 => ?_)
  · have hn := txt_get hc hn
    k_steps
    exact CompEl.intro (by k_asm) (by k_asm) ⟨_, by simp [List.getD_eq_getElem?_getD, hn.1]; rfl⟩
  · have hI : IntsAre ys cs := ints_of (by rw [hl, txt_size]) hg
    have hr : KBa.In cs := hc.byte
    k_steps
    exact retY rfl
end
end Mine
namespace Mine
theorem Con.mono {w : World} {f : Addr} {args : List Value} {d u : Nat} {pre : List (Addr × Obj)} {post post' : Value → List (Addr × Obj) → Prop} (C : Con w f args d u pre post) (h : ∀ v tl, post v tl → post' v tl) : Con w f args d u pre post' :=
  fun dp un gd env outer A₀ base h₀ L m rest s loose mean mg mb R a1 a2 a3 a4 a5 a6 a7 a8 a9 a10 ret => C dp un gd env outer A₀ base h₀ L m rest s loose mean mg mb R a1 a2 a3 a4 a5 a6 a7 a8 a9 a10 fun v tl h' tk' F N D p => ret v tl h' tk' F N D (h v tl p)
theorem ints_inj {b c : Array UInt8} : (b.toList != c.toList) = !decide (KBw.bInts b = KBw.bInts c) := by
  have inj : KBw.bInts b = KBw.bInts c ↔ b.toList = c.toList := by
    constructor
    · intro h
      have : ∀ {l r : List UInt8}, l.map (fun c => (c.toNat : Int)) = r.map (fun c => (c.toNat : Int)) → l = r := by
        intro l
        induction l with
        | nil => intro r h; cases r with | nil => rfl | cons => simp at h
        | cons a l ih =>
          intro r h
          cases r with
          | nil => simp at h
          | cons d r =>
            simp only [List.map_cons, List.cons.injEq] at h
            obtain ⟨h1, h2⟩ := h
            rw [ih h2]
            have : a = d := UInt8.toNat_inj.mp (by omega)
            rw [this]
      exact this h
    · intro h; unfold KBw.bInts; rw [h]
  by_cases h : KBw.bInts b = KBw.bInts c
  · have := inj.mp h; simp [h, this]
  · have : ¬ b.toList = c.toList := fun e => h (inj.mpr e)
    simp [h, this]
theorem cut_eq (ds : List Int) {k : Int} (m : Nat) (h0 : 0 ≤ k) : List.take (clipAt ds.length (k + (m : Int)) - clipAt ds.length k) (List.drop (clipAt ds.length k) ds) = (ds.drop k.toNat).take m := by
  have e1 : clipAt ds.length k = min k.toNat ds.length := by
    have := clipAt_nat ds.length k.toNat
    rwa [Int.toNat_of_nonneg h0] at this
  have e2 : clipAt ds.length (k + (m : Int)) = min (k.toNat + m) ds.length := by
    have := clipAt_nat ds.length (k.toNat + m)
    rw [← this]; congr 1; omega
  rw [e1, e2]
  by_cases hk : k.toNat ≤ ds.length
  · rw [Nat.min_eq_left hk]
    by_cases hm : k.toNat + m ≤ ds.length
    · rw [Nat.min_eq_left hm]; congr 1; omega
    · rw [Nat.min_eq_right (by omega), List.take_of_length_le (by simp), List.take_of_length_le (by simp; omega)]
  · rw [Nat.min_eq_right (by omega)]
    simp [List.drop_eq_nil_of_le (show ds.length ≤ k.toNat by omega)]
    omega

/-- a wire on the ledger -/
abbrev wireL (w : World) (x dx : Addr) (D : Array UInt8) (tD t1 t2 : Tok) (k : Int) (tk : Tok) : List (Addr × Obj) :=
  [(x, instObj 549 dx), (dx, dictOf [⟨PyData.keyHash w.params (Str.ofString "data"), .str (Str.ofString "data") t1, .bytes D tD⟩, ⟨PyData.keyHash w.params (Str.ofString "at"), .str (Str.ofString "at") t2, .int k tk⟩] 2)]
def peekV (ds : List Int) (k : Int) : Int := if k < (ds.length : Int) then ds.getD k.toNat 0 else -1
def matchV (ds : List Int) (k : Int) (os : List Int) : Bool := decide ((ds.drop k.toNat).take os.length = os)
theorem picked_ints {D : Array UInt8} {ds : List Int} (hk : KBw.bInts D = ds) {k : Int} (h0 : 0 ≤ k) (n : Nat) : KBw.bInts (KBy.picked D (some k) (some (k + (n : Int)))) = (ds.drop k.toNat).take n := by
  have := KBc.ints_picked hk (some k) (some (k + (n : Int)))
  rw [this]
  exact cut_eq ds n h0
theorem skip_eq {D b : Array UInt8} {ds os : List Int} (hk : KBw.bInts D = ds) (ho : KBw.bInts b = os) {k : Int} (h0 : 0 ≤ k) : ((KBy.picked D (some k) (some (k + (os.length : Int)))).toList != b.toList) = !matchV ds k os := by
  rw [ints_inj, picked_ints hk h0, ho]
  rfl
section
variable {w : World} {x dx : Addr} {D : Array UInt8} {ds : List Int} {tD t1 t2 : Tok} {k : Int} {tk : Tok}
theorem c_peek (hk : KBw.bInts D = ds) (hc : Asc ds) (hz : ds.length ≤ 100000) (h0 : 0 ≤ k) :
    Con w 393 [.ref x] 15 150 (wireL w x dx D tD t1 t2 k tk) (fun v tl => tl = wireL w x dx D tD t1 t2 k tk ∧ ∃ t, v = .int (peekV ds k) t) := by
  walk_at "ENTER"
  k_steps
  · rename_i hlt _ _ _ _ _ _ _ _
    exact RetC.intro (by k_asm) (by k_asm) ⟨rfl, _, by unfold peekV; rw [if_pos (by omega)]⟩
  · exact RetC.intro (by k_asm) (by k_asm) ⟨rfl, _, by unfold peekV; rw [if_neg (by omega)]⟩
theorem c_skip {b : Array UInt8} {os : List Int} {tb : Tok} (hk : KBw.bInts D = ds) (hz : ds.length ≤ 100000) (h0 : 0 ≤ k) (h1 : k ≤ 100000) (hlt : @LT.lt Nat _ dx x) (ho : KBw.bInts b = os) (hy : os.length ≤ 100000) :
    Con w 400 [.ref x, .bytes b tb] 15 150 (wireL w x dx D tD t1 t2 k tk) (fun v tl => ∃ tk', tl = wireL w x dx D tD t1 t2 (if matchV ds k os = true then k + os.length else k) tk' ∧ v = .bool (matchV ds k os)) := by
  have he := skip_eq hk ho h0
  walk_at "ENTER"
  k_steps
  · have hm : matchV ds k os = false := by
      have hx : ((KBy.picked D (some k) (some (k + (os.length : Int)))).toList != b.toList) = true := by assumption
      rw [he] at hx
      simpa using hx
    rw [hm]
    exact RetC.intro (by k_asm) (by k_asm) ⟨_, rfl, rfl⟩
  · have hm : matchV ds k os = true := by
      have hx : ((KBy.picked D (some k) (some (k + (os.length : Int)))).toList != b.toList) = false := by assumption
      rw [he] at hx
      simpa using hx
    rw [hm]
    exact RetC.intro (by k_asm) (by k_asm) ⟨_, rfl, rfl⟩
/-- the octets stand there -/
theorem c_skip_y {b : Array UInt8} {os : List Int} {tb : Tok} (hk : KBw.bInts D = ds) (hz : ds.length ≤ 100000) (h0 : 0 ≤ k) (h1 : k ≤ 100000) (hlt : @LT.lt Nat _ dx x) (ho : KBw.bInts b = os) (hy : os.length ≤ 100000) (hm : matchV ds k os = true) :
    Con w 400 [.ref x, .bytes b tb] 15 150 (wireL w x dx D tD t1 t2 k tk) (fun v tl => ∃ tk', tl = wireL w x dx D tD t1 t2 (k + os.length) tk' ∧ v = .bool true) :=
  (c_skip hk hz h0 h1 hlt ho hy).mono fun v tl h => by rw [hm] at h; exact h
theorem c_skip_n {b : Array UInt8} {os : List Int} {tb : Tok} (hk : KBw.bInts D = ds) (hz : ds.length ≤ 100000) (h0 : 0 ≤ k) (h1 : k ≤ 100000) (hlt : @LT.lt Nat _ dx x) (ho : KBw.bInts b = os) (hy : os.length ≤ 100000) (hm : matchV ds k os = false) :
    Con w 400 [.ref x, .bytes b tb] 15 150 (wireL w x dx D tD t1 t2 k tk) (fun v tl => ∃ tk', tl = wireL w x dx D tD t1 t2 k tk' ∧ v = .bool false) :=
  (c_skip hk hz h0 h1 hlt ho hy).mono fun v tl h => by rw [hm] at h; exact h
end
end Mine
local macro_rules | `(tactic| walk_at "CON") => `(tactic| (apply c_skip_y; walk_at "GO"))
namespace Mine
section
variable {w : World} {x dx : Addr} {D : Array UInt8} {ds : List Int} {tD t1 t2 : Tok} {k : Int} {tk : Tok}
theorem c_need {b : Array UInt8} {os : List Int} {tb : Tok} {v : Value} (hk : KBw.bInts D = ds) (hz : ds.length ≤ 100000) (h0 : 0 ≤ k) (h1 : k ≤ 100000) (hlt : @LT.lt Nat _ dx x) (ho : KBw.bInts b = os) (hy : os.length ≤ 100000) (hm : matchV ds k os = true) :
    Con w 407 [.ref x, .bytes b tb, v] 25 250 (wireL w x dx D tD t1 t2 k tk) (fun v tl => ∃ tk', tl = wireL w x dx D tD t1 t2 (k + os.length) tk' ∧ v = .none) := by
  walk_at "ENTER"
  k_steps
  exact RetC.intro (by k_asm) (by k_asm) ⟨_, rfl, rfl⟩
end
end Mine
local macro_rules | `(tactic| walk_at "ite") => `(tactic| (k_here; k_openite; first | (refine ite_pos (by first | omega | (simp only [beq_iff_eq, bne_iff_ne, ne_eq, decide_eq_true_eq]; omega)) ?_) | (refine ite_neg (by first | omega | (simp only [beq_iff_eq, bne_iff_ne, ne_eq, decide_eq_true_eq]; omega)) ?_)))
namespace Mine
/-- where a walk is to stop -/
def Stop (P : Prop) : Prop := P
theorem Stop.out {P : Prop} (h : Stop P) : P := h
/-- how many signs a run takes -/
def runN (φ : Int → Bool) (ds : List Int) (k : Int) : Nat := ((ds.drop k.toNat).takeWhile φ).length
theorem tw_at {φ : Int → Bool} : ∀ {l : List Int} {j : Nat}, j < (l.takeWhile φ).length → φ (l.getD j 0) = true
  | [], j, h => by simp at h
  | a :: l, j, h => by
    rw [List.takeWhile_cons] at h
    by_cases ha : φ a = true
    · rw [if_pos ha] at h
      cases j with
      | zero => simpa using ha
      | succ j => simpa using tw_at (l := l) (j := j) (by simpa using h)
    · rw [if_neg ha] at h; simp at h
theorem tw_end {φ : Int → Bool} : ∀ {l : List Int}, (l.takeWhile φ).length < l.length → φ (l.getD (l.takeWhile φ).length 0) = false
  | [], h => by simp at h
  | a :: l, h => by
    by_cases ha : φ a = true
    · have e : (a :: l).takeWhile φ = a :: l.takeWhile φ := by rw [List.takeWhile_cons, if_pos ha]
      rw [e] at h ⊢
      simpa using tw_end (l := l) (by simpa using h)
    · have e : (a :: l).takeWhile φ = [] := by rw [List.takeWhile_cons, if_neg ha]
      rw [e]
      simpa using ha
theorem run_at {ds : List Int} {k : Int} (h0 : 0 ≤ k) (j : Nat) : ds.getD (k + (j : Int)).toNat 0 = (ds.drop k.toNat).getD j 0 := by
  have e : (k + (j : Int)).toNat = k.toNat + j := by omega
  simp [List.getD_eq_getElem?_getD, e]
theorem runN_le (φ : Int → Bool) (ds : List Int) (k : Int) : runN φ ds k ≤ ds.length - k.toNat := by
  have := (List.takeWhile_sublist φ (l := ds.drop k.toNat)).length_le
  simpa [runN] using this
theorem run_go {φ : Int → Bool} {ds : List Int} {k : Int} {j : Nat} (h0 : 0 ≤ k) (hj : j ≤ runN φ ds k) (hl : k + (j : Int) < (ds.length : Int)) (hp : φ (ds.getD (k + (j : Int)).toNat 0) = true) : j < runN φ ds k := by
  rcases Nat.lt_or_eq_of_le hj with h | h
  · exact h
  · exfalso
    rw [run_at h0] at hp
    have hlen : runN φ ds k < (ds.drop k.toNat).length := by simp; omega
    have := tw_end (φ := φ) (l := ds.drop k.toNat) hlen
    rw [show ((ds.drop k.toNat).takeWhile φ).length = j from h.symm] at this
    rw [this] at hp; cases hp
theorem run_stop1 {φ : Int → Bool} {ds : List Int} {k : Int} {j : Nat} (h0 : 0 ≤ k) (hj : j ≤ runN φ ds k) (hl : ¬ k + (j : Int) < (ds.length : Int)) : j = runN φ ds k := by
  have := runN_le φ ds k
  omega
theorem run_stop2 {φ : Int → Bool} {ds : List Int} {k : Int} {j : Nat} (h0 : 0 ≤ k) (hj : j ≤ runN φ ds k) (hp : φ (ds.getD (k + (j : Int)).toNat 0) = false) : j = runN φ ds k := by
  rcases Nat.lt_or_eq_of_le hj with h | h
  · exfalso
    have := tw_at (φ := φ) (l := ds.drop k.toNat) h
    rw [← run_at h0] at this
    rw [hp] at this; cases this
  · exact h
section
variable {prog : Program} {w : World} {A : Around} {E : Value → Shared → Prop} {s : Shared} {h₀ : Heap} {L : Addr} {m : Str → Option Value} {env : Env}
def RunStep (h₀ : Heap) (L : Addr) (m : Str → Option Value) (s : Shared) (led : Int → Tok → List (Addr × Obj)) (k : Int) (j n : Nat) (f : Flow) (s₃ : Shared) : Prop :=
  f = .next ∧ j < n ∧ ∃ h' tk' t', s₃ = { s with heap := h', toks := tk' } ∧ Fr h₀ L h' m ∧ News h₀ L h' (led (k + (j : Int) + 1) t')
theorem RunStep.intro {led : Int → Tok → List (Addr × Obj)} {k : Int} {j n : Nat} {h' : Heap} {tk' : Nat} {t' : Tok} (hj : j < n) (F : Fr h₀ L h' m) (N : News h₀ L h' (led (k + (j : Int) + 1) t')) : RunStep h₀ L m s led k j n .next { s with heap := h', toks := tk' } := ⟨rfl, hj, h', tk', t', rfl, F, N⟩
/-- a while that moves one int of the ledger on by ones -/
theorem while_run {test : Expr} {body : List Stmt} {pos : Pos} {Q : Flow → Shared → Prop} (led : Int → Tok → List (Addr × Obj)) (k : Int) (tk : Tok) (n : Nat) (F : Fr h₀ L s.heap m) (N : News h₀ L s.heap (led k tk))
    (turn : ∀ j t h tks, j ≤ n → Fr h₀ L h m → News h₀ L h (led (k + (j : Int)) t) →
      wpAny (model prog w) A (isTrue test env (eval test env)) (fun b s₂ => if b = true then wpAny (model prog w) A (execs body env) (RunStep h₀ L m s led k j n) E s₂ else Q .next s₂) E { s with heap := h, toks := tks })
    (hE : PassesOwn (model prog w) A env E := by passes_own) :
    wpAny (model prog w) A (exec (.While test body [] pos) env) Q E s := by
  refine While_inv2 (fun i m₁ nx => ∃ j t, i = n - j ∧ j ≤ n ∧ m₁ = m ∧ nx = led (k + (j : Int)) t) (n₀ := n) F N ⟨0, tk, by omega, by omega, rfl, by simp⟩ ?_ hE
  rintro i m₁ nx h tks F₁ N₁ ⟨j, t, rfl, hj, rfl, rfl⟩
  refine wpAny_mono (turn j t h tks hj F₁ N₁) (fun b s₂ hb => ?_) fun _ _ e => e
  cases b with
  | false => simpa using hb
  | true =>
    simp only [if_true] at hb ⊢
    refine wpAny_mono hb (fun f s₃ hf => ?_) fun _ _ e => e
    obtain ⟨rfl, hlt, h', tk', t', rfl, F₂, N₂⟩ := hf
    refine ⟨h', tk', m₁, _, n - (j + 1), rfl, F₂, N₂, by omega, j + 1, t', rfl, by omega, rfl, ?_⟩
    have e : k + (j : Int) + 1 = k + ((j + 1 : Nat) : Int) := by omega
    rw [e]
end
end Mine
namespace Mine
section
variable {w : World} {x dx : Addr} {D : Array UInt8} {ds : List Int} {tD t1 t2 : Tok} {k : Int} {tk : Tok} {f : Addr} {φ : Int → Bool}
local macro_rules | `(tactic| walk_at "exec While BoolOp") => `(tactic| (refine Stop.out ?_))
local macro_rules | `(tactic| walk_at "callWith ref") => `(tactic| (k_here; k_dflt (refine' callWith_K ?k1 ?k2 ?_; (case k1 => k_asm); (case k2 => assumption); k_whole)))
local macro_rules | `(tactic| walk_at "call ref") => `(tactic| (refine Stop.out ?_))
theorem c_run (hf : keepIn (Mine.k0.heap_1 w.params) (.ref f) = true) (hφ : ∀ n t, 0 ≤ n → n < 256 → ConV w f [.int n t] 35 350 (fun _ => .bool (φ n))) (hk : KBw.bInts D = ds) (hc : Asc ds) (hz : ds.length ≤ 100000) (h0 : 0 ≤ k) (h1 : k ≤ 100000) (hlt : @LT.lt Nat _ dx x) :
    Con w 428 [.ref x, .ref f] 45 450 (wireL w x dx D tD t1 t2 k tk) (fun v tl => ∃ tk', tl = wireL w x dx D tD t1 t2 (k + runN φ ds k) tk' ∧ ∃ t, v = .bytes (KBy.picked D (some k) (some (k + runN φ ds k))) t) := by
  walk_at "ENTER"
  k_steps
  unfold Stop
  refine while_run (fun k tk => wireL w x dx D tD t1 t2 k tk) k tk (runN φ ds k) (by k_asm) (by k_asm) (fun j t h tks hj F N => ?_)
  k_steps
  · unfold Stop
    k_dflt (refine' ConV.call (hφ _ _ ?a ?b) ?H ?_; (case a => assumption); (case b => omega); (case H => walk_at "HERE"))
    intro t9 h9 tk9 F9 N9
    dsimp only
    k_steps
    · exact RunStep.intro (run_go h0 hj (by assumption) (by assumption)) (by k_asm) (by k_asm)
    · have e := run_stop2 h0 hj (by assumption)
      exact RetC.intro (by k_asm) (by k_asm) ⟨_, by rw [← e], _, by rw [← e]⟩
  · have e := run_stop1 h0 hj (by assumption)
    exact RetC.intro (by k_asm) (by k_asm) ⟨_, by rw [← e], _, by rw [← e]⟩
end
/-- what a run takes -/
def runL (φ : Int → Bool) (ds : List Int) (k : Int) : List Int := (ds.drop k.toNat).takeWhile φ
theorem take_tw (φ : Int → Bool) : ∀ l : List Int, l.take (l.takeWhile φ).length = l.takeWhile φ
  | [] => rfl
  | a :: l => by
    by_cases ha : φ a = true
    · rw [List.takeWhile_cons, if_pos ha, List.length_cons, List.take_succ_cons, take_tw φ l]
    · rw [List.takeWhile_cons, if_neg ha]; rfl
theorem runL_asc {φ : Int → Bool} {ds : List Int} {k : Int} (h : Asc ds) : Asc (runL φ ds k) := fun c hc =>
  h c ((List.drop_sublist _ _).mem ((List.takeWhile_sublist φ).mem hc))
theorem runL_len {φ : Int → Bool} {ds : List Int} {k : Int} : (runL φ ds k).length ≤ ds.length - k.toNat := runN_le φ ds k
/-- where a run ends: its signs stand there, the next one does not fit -/
theorem runL_at {φ : Int → Bool} {pre cs post : List Int} (h : ∀ c ∈ cs, φ c = true) (hp : ∀ c, post.head? = some c → φ c = false) : runL φ (pre ++ (cs ++ post)) pre.length = cs := by
  have e : ((pre.length : Int)).toNat = pre.length := by omega
  unfold runL
  rw [e, List.drop_left]
  induction cs with
  | nil =>
    cases post with
    | nil => rfl
    | cons a r => simp [hp a rfl]
  | cons a r ih =>
    rw [List.cons_append, List.takeWhile_cons, if_pos (h a (.head _)), ih fun c hc => h c (.tail _ hc)]
theorem c_run2 {w : World} {x dx : Addr} {D : Array UInt8} {ds : List Int} {tD t1 t2 : Tok} {k : Int} {tk : Tok} {f : Addr} {φ : Int → Bool} {cs : List Int}
    (hf : keepIn (Mine.k0.heap_1 w.params) (.ref f) = true) (hφ : ∀ n t, 0 ≤ n → n < 256 → ConV w f [.int n t] 35 350 (fun _ => .bool (φ n))) (hk : KBw.bInts D = ds) (hc : Asc ds) (hz : ds.length ≤ 100000) (h0 : 0 ≤ k) (h1 : k ≤ 100000) (hlt : @LT.lt Nat _ dx x) (hr : runL φ ds k = cs) :
    Con w 428 [.ref x, .ref f] 45 450 (wireL w x dx D tD t1 t2 k tk) (fun v tl => ∃ tk' b t, tl = wireL w x dx D tD t1 t2 (k + cs.length) tk' ∧ v = .bytes b t ∧ KBw.bInts b = cs) :=
  (c_run hf hφ hk hc hz h0 h1 hlt).mono fun v tl h => by
    obtain ⟨tk', e1, t, e2⟩ := h
    have e3 : runN φ ds k = cs.length := by rw [← hr]; rfl
    refine ⟨tk', _, t, by rw [e1, e3], e2, ?_⟩
    rw [picked_ints hk h0]
    show List.take ((ds.drop k.toNat).takeWhile φ).length (ds.drop k.toNat) = cs
    rw [take_tw]
    exact hr
end Mine
local macro_rules | `(tactic| walk_at "CON") => `(tactic| (apply c_run2; walk_at "GO"))
local macro_rules | `(tactic| walk_at "CONV") => `(tactic| (apply c_ascii_text; walk_at "GO"))
namespace Mine
section
variable {w : World} {x dx : Addr} {D : Array UInt8} {ds : List Int} {tD t1 t2 : Tok} {k : Int} {tk : Tok} {cs : List Int}
theorem c_number (b : Array UInt8) (t : Tok) (hk : KBw.bInts b = cs) (hz : cs.length ≤ 20) (hc : ∀ c ∈ cs, 48 ≤ c ∧ c ≤ 57) : ConV w 357 [.bytes b t] 15 150 (fun t => .int (cs.foldl (fun n c => n * 10 + c - 48) 0) t) := by
  walk_at "ENTER"
  k_steps
  exact retI rfl
end
end Mine
namespace Mine
section
variable {w : World} {x dx : Addr} {D : Array UInt8} {ds : List Int} {tD t1 t2 : Tok} {k : Int} {tk : Tok} {f : Addr} {φ : Int → Bool} {cs : List Int} {v : Value}
theorem c_word_of (hf : keepIn (Mine.k0.heap_1 w.params) (.ref f) = true) (hφ : ∀ n t, 0 ≤ n → n < 256 → ConV w f [.int n t] 35 350 (fun _ => .bool (φ n))) (hk : KBw.bInts D = ds) (hc : Asc ds) (hz : ds.length ≤ 100000) (h0 : 0 ≤ k) (h1 : k ≤ 100000) (hlt : @LT.lt Nat _ dx x) (hr : runL φ ds k = cs) (hne : 0 < cs.length) :
    Con w 435 [.ref x, .ref f, v] 60 600 (wireL w x dx D tD t1 t2 k tk) (fun v tl => ∃ tk' t, tl = wireL w x dx D tD t1 t2 (k + cs.length) tk' ∧ v = .str (txt cs) t) := by
  have ha : Asc cs := hr ▸ runL_asc hc
  have hl : cs.length ≤ ds.length := by rw [← hr]; have := runL_len (φ := φ) (ds := ds) (k := k); omega
  walk_at "ENTER"
  k_steps
  exact RetC.intro (by k_asm) (by k_asm) ⟨_, _, rfl, rfl⟩
end
end Mine
local macro_rules | `(tactic| walk_at "CONV") => `(tactic| ((first | apply c_lower | apply c_number); walk_at "GO"))
namespace Mine
theorem bools_of {ns : List Bool} : ∀ {ys : List Value}, ys.length = ns.length → (∀ i y, ys[i]? = some y → y = Value.bool (ns.getD i false)) → LSm.BoolsAre ys ns := by
  induction ns with
  | nil => intro ys h _; cases ys with | nil => exact .nil | cons => simp at h
  | cons n ns ih =>
    intro ys h g
    cases ys with
    | nil => simp at h
    | cons y ys =>
      have e := g 0 y (by simp)
      subst e
      exact .cons _ (ih (by simpa using h) fun i z hz => by simpa using g (i + 1) z (by simpa using hz))
theorem eq_ints {b c : Array UInt8} : (b.toList == c.toList) = decide (KBw.bInts b = KBw.bInts c) := by
  have := ints_inj (b := b) (c := c)
  rw [bne, Bool.not_inj_iff] at this
  exact this
theorem lower_asc {cs : List Int} (h : Asc cs) : Asc (cs.map lowerC) := fun c hc => by
  obtain ⟨d, hd, rfl⟩ := List.mem_map.mp hc
  have := h d hd
  unfold lowerC
  split <;> omega
theorem nil_eq {cs : List Int} (h : Asc cs) : ((byteArr (cs.map lowerC)).toList == (#[110, 105, 108] : Array UInt8).toList) = decide (cs.map lowerC = [110, 105, 108]) := by
  rw [eq_ints, ints_byteArr (lower_asc h)]
  rfl
abbrev atomL (w : World) (a da : Addr) (t1 : Tok) (T : Str) (t : Tok) : List (Addr × Obj) :=
  [(a, instObj 297 da), (da, dictOf [⟨PyData.keyHash w.params (Str.ofString "text"), .str (Str.ofString "text") t1, .str T t⟩] 1)]
section
variable {w : World} {x dx : Addr} {D : Array UInt8} {ds : List Int} {tD t1 t2 : Tok} {k : Int} {tk : Tok} {cs : List Int}
theorem fits_value (w : World) : ∀ n t, 0 ≤ n → n < 256 → ConV w 336 [.int n t] 35 350 (fun _ => .bool (isValue n)) := fun n t h0 h1 =>
  fun dp un gd env outer A₀ base h₀ L m rest s loose mean mg mb R a1 a2 a3 a4 => c_is_value_code w n t h0 h1 dp un gd env outer A₀ base h₀ L m rest s loose mean mg mb R a1 a2 (by omega) (by omega)
local macro_rules | `(tactic| walk_at "eval ListComp") => `(tactic| walk_at "LCB")
local macro_rules | `(tactic| lsm_bools) => `(tactic| assumption)
theorem c_plain_value_n (hk : KBw.bInts D = ds) (hc : Asc ds) (hz : ds.length ≤ 100000) (h0 : 0 ≤ k) (h1 : k ≤ 100000) (hlt : @LT.lt Nat _ dx x) (hr : runL isValue ds k = cs) (hne : 0 < cs.length) (hl19 : cs.length ≤ 19) (hfig : ∀ c ∈ cs, 48 ≤ c ∧ c ≤ 57) :
    Con w 538 [.ref x] 60 600 (wireL w x dx D tD t1 t2 k tk) (fun v tl => ∃ tk' t, tl = wireL w x dx D tD t1 t2 (k + cs.length) tk' ∧ v = .int (cs.foldl (fun n c => n * 10 + c - 48) 0) t) := by
  have ha : Asc cs := hr ▸ runL_asc hc
  have hf : keepIn (Mine.k0.heap_1 w.params) (.ref 336) = true := by k_dflt k_is
  have hφ := fits_value w
  have hn : ((byteArr (cs.map lowerC)).toList == (#[110, 105, 108] : Array UInt8).toList) = false := by
    rw [nil_eq ha]
    refine decide_eq_false fun e => ?_
    cases cs with
    | nil => simp at hne
    | cons c r =>
      have := hfig c (.head _)
      simp only [List.map_cons, List.cons.injEq] at e
      have h := e.1
      unfold lowerC at h
      split at h <;> omega
  have hall : (cs.all fun x => isFigure x) = true := by
    simp only [List.all_eq_true]
    intro c hc
    have := hfig c hc
    simp [isFigure]; omega
  walk_at "ENTER"
  k_steps
  · refine SrcB.intro (fun i y => y = .bool ((cs.map isFigure).getD i false)) (by rfl) (by k_asm) (by k_asm) (by rw [sizeLine_eq, ← KBw.ints_length]; simp [*]; omega) (fun i n u I oI C oC D m₂ ys h tk E' hi hn h0 h1 hC hx F N => ?_) (fun ys D h tk hl hg F N o1 => ?_)
    · k_steps
      refine CompEl.intro (by k_asm) (by k_asm) ?_
      rw [‹KBw.bInts _ = cs›] at hn
      simp [List.getD_eq_getElem?_getD, hn]
    · have hB : LSm.BoolsAre ys (cs.map isFigure) := bools_of (by rw [hl, ← KBw.ints_length]; simp [*]) hg
      k_steps
      refine RetC.intro (news_sub (by k_asm) fun p hp => .tail _ hp) (news_sub (by k_asm) fun p hp => .tail _ hp) ⟨_, _, rfl, rfl⟩
theorem c_plain_value_a (hk : KBw.bInts D = ds) (hc : Asc ds) (hz : ds.length ≤ 100000) (h0 : 0 ≤ k) (h1 : k ≤ 100000) (hlt : @LT.lt Nat _ dx x) (hr : runL isValue ds k = cs) (hne : 0 < cs.length) (hnil : cs.map lowerC ≠ [110, 105, 108]) (hall : (cs.all fun x => isFigure x) = false) :
    Con w 538 [.ref x] 60 600 (wireL w x dx D tD t1 t2 k tk) (fun v tl => ∃ tk' a da t t', tl = atomL w a da t (txt cs) t' ++ wireL w x dx D tD t1 t2 (k + cs.length) tk' ∧ @LT.lt Nat _ x da ∧ @LT.lt Nat _ da a ∧ v = .ref a) := by
  have ha : Asc cs := hr ▸ runL_asc hc
  have hl : cs.length ≤ ds.length := by rw [← hr]; have := runL_len (φ := isValue) (ds := ds) (k := k); omega
  have hf : keepIn (Mine.k0.heap_1 w.params) (.ref 336) = true := by k_dflt k_is
  have hφ := fits_value w
  have hn : ((byteArr (cs.map lowerC)).toList == (#[110, 105, 108] : Array UInt8).toList) = false := by
    rw [nil_eq ha]
    exact decide_eq_false hnil
  walk_at "ENTER"
  k_steps
  · refine SrcB.intro (fun i y => y = .bool ((cs.map isFigure).getD i false)) (by rfl) (by k_asm) (by k_asm) (by rw [sizeLine_eq, ← KBw.ints_length]; simp [*]; omega) (fun i n u I oI C oC D m₂ ys h tk E' hi hn h0 h1 hC hx F N => ?_) (fun ys D h tk hl hg F N o1 => ?_)
    · k_steps
      refine CompEl.intro (by k_asm) (by k_asm) ?_
      rw [‹KBw.bInts _ = cs›] at hn
      simp [List.getD_eq_getElem?_getD, hn]
    · have hB : LSm.BoolsAre ys (cs.map isFigure) := bools_of (by rw [hl, ← KBw.ints_length]; simp [*]) hg
      k_steps
      exact RetC.intro (news_d3 (by k_asm)) (news_d3 (by k_asm)) ⟨_, _, _, _, _, rfl, by omega, by omega, rfl⟩
end
end Mine
namespace Mine
section
variable {prog : Program} {w : World} {A : Around} {E : Value → Shared → Prop} {s : Shared} {h₀ : Heap} {L : Addr} {m : Str → Option Value} {env : Env}
/-- the source of a comprehension is a list | a tuple of the ledger -/
def SrcS (prog : Program) (w : World) (A : Around) (h₀ : Heap) (L : Addr) (m : Str → Option Value) (env : Env) (elt : Expr) (x : Str) (scope : Scope) (cl : List (Str × Addr)) (Q : Value → Shared → Prop) (xv : Value) (s₁ : Shared) : Prop :=
  ∃ ax o its news, xv = .ref ax ∧ A.handled = none ∧ Fr h₀ L s₁.heap m ∧ News h₀ L s₁.heap news ∧ (ax, o) ∈ news ∧ (o.cls = .type "list" ∨ o.cls = .type "tuple") ∧ (∃ n, o.data = .seq its n) ∧ its.size ≤ sizeLine ∧
      ∀ g, LCg.CompRest prog w A h₀ L m env elt x scope cl { s₁ with heap := g } (fun nw => (ax, o) ∈ nw) (fun i v => its[i]? = some v) (LCg.FinE h₀ L m { s₁ with heap := g } Q) its.size 0 [] news
theorem listcomp_seq {elt iter : Expr} {x : Str} {px : Pos} {scope : Scope} {cl : List (Str × Addr)} {pos : Pos} {Q : Value → Shared → Prop} (_F₀ : Fr h₀ L s.heap m)
    (hclos : closureFor scope env = pure cl) (hcell : ∀ y ∈ scope.names, y.2 ≠ .cell) (hkind : scope.kind = .function)
    (hnames : ∀ y ∈ scope.names, y.2 = .local → scope.names.lookup y.1 = some .local) (hx : scope.names.lookup x = some .local)
    (h : wpAny (model prog w) A (eval iter env) (SrcS prog w A h₀ L m env elt x scope cl Q) E s)
    (hs : ∀ x, foldedSetIterable iter env x = pure x := by intro _; rfl) :
    wpAny (model prog w) A (eval (.ListComp elt [⟨.Name x px, iter, [], 0⟩] scope pos) env) Q E s := by
  rw [eval_ListComp]
  refine wpAny_comprehension_free (use := none) rfl hs hclos hkind hnames (wpAny_mono h (fun xv s₁ h₁ => ?_) fun _ _ e => e)
  obtain ⟨ax, o, its, news, rfl, hh, F, N, hm, hcls, ⟨n, hdat⟩, hsz, R⟩ := h₁
  have hget : s₁.heap.get? ax = some o := N.get hm
  have hlt : ax < s₁.heap.objs.size := Heap.lt_size hget
  have fin : ∀ (o' : Obj) (D C : Addr) (h : Heap) (tk : Nat) (m' : Str → Option Value) (ys : List Value) (news' : List (Addr × Obj)), Fr h₀ L h m → News h₀ L h ((C, o') :: news') → True := fun _ _ _ _ _ _ _ _ _ _ => trivial
  rcases hcls with hcls | hcls
  · have hl : s₁.heap.IsList ax its := ⟨o, hget, hcls, n, hdat⟩
    refine wpAny_pyIter_list hl ?_
    have up : ∀ b o, s₁.heap.get? b = some o → (s₁.heap.push { cls := .type "list_iterator", data := .fields #[.ref ax, .int 0 0] }).get? b = some o := fun b o e => Heap.get?_push_of_some _ e
    refine LCg.block_U (s₂ := { s₁ with heap := s₁.heap.push { cls := .type "list_iterator", data := .fields #[.ref ax, .int 0 0] } }) (Walks.list hh s₁.heap.objs.size ax (Nat.ne_of_lt hlt) its) hsz (fun i h st => by obtain ⟨o, e, _⟩ := st.1; exact ⟨o, e⟩) (fun i h h' o₂ nw st e e' k N' S => ?_) hcell hkind hx ⟨⟨_, Heap.get?_push_size _ rfl, rfl, rfl⟩, hl.push _⟩ (fun b hb => ?_)
      (F.keeps up) (N.grown up) (Nat.ne_of_lt F.ns.lt) (next_is_new F) (fun p hp => Nat.ne_of_lt (Heap.lt_size (N p hp).1)) hm (R _) ?_
    · exact ⟨by obtain ⟨o', q, r⟩ := st.1; rw [e] at q; cases q; exact ⟨o₂, e', r⟩, ⟨o, N'.get S, hcls, n, hdat⟩⟩
    · show b < (s₁.heap.push _).objs.size
      rw [Heap.size_push]
      rcases List.mem_cons.mp hb with rfl | hb
      · exact Nat.lt_succ_self _
      · rw [List.mem_singleton.mp hb]; exact Nat.lt_succ_of_lt hlt
    · intro D C h tk m' ys news' F' N' o1 hn hC₀ hD₀ hCL hDL hCD offC fin
      refine ⟨m', hn, fun h'' hs'' => fin D h'' tk (F'.change hs'' hCL hC₀) (fun p hp => ?_) o1⟩
      refine ⟨hs''.extBut _ _ ?_ (N' p hp).1, (N' p hp).2⟩
      rcases List.mem_cons.mp hp with rfl | hp
      · exact Ne.symm hCD
      · exact offC p hp
  · have hl : s₁.heap.IsTuple ax its := ⟨o, hget, hcls, n, hdat⟩
    refine wpAny_pyIter_tuple hl ?_
    have up : ∀ b o, s₁.heap.get? b = some o → (s₁.heap.push { cls := .type "tuple_iterator", data := .fields #[.ref ax, .int 0 0] }).get? b = some o := fun b o e => Heap.get?_push_of_some _ e
    refine LCg.block_U (s₂ := { s₁ with heap := s₁.heap.push { cls := .type "tuple_iterator", data := .fields #[.ref ax, .int 0 0] } }) (Walks.tuple hh s₁.heap.objs.size ax (Nat.ne_of_lt hlt) its) hsz (fun i h st => by obtain ⟨o, e, _⟩ := st.1; exact ⟨o, e⟩) (fun i h h' o₂ nw st e e' k N' S => ?_) hcell hkind hx ⟨⟨_, Heap.get?_push_size _ rfl, rfl, rfl⟩, ⟨o, up _ _ hget, hcls, n, hdat⟩⟩ (fun b hb => ?_)
      (F.keeps up) (N.grown up) (Nat.ne_of_lt F.ns.lt) (next_is_new F) (fun p hp => Nat.ne_of_lt (Heap.lt_size (N p hp).1)) hm (R _) ?_
    · exact ⟨by obtain ⟨o', q, r⟩ := st.1; rw [e] at q; cases q; exact ⟨o₂, e', r⟩, ⟨o, N'.get S, hcls, n, hdat⟩⟩
    · show b < (s₁.heap.push _).objs.size
      rw [Heap.size_push]
      rcases List.mem_cons.mp hb with rfl | hb
      · exact Nat.lt_succ_self _
      · rw [List.mem_singleton.mp hb]; exact Nat.lt_succ_of_lt hlt
    · intro D C h tk m' ys news' F' N' o1 hn hC₀ hD₀ hCL hDL hCD offC fin
      refine ⟨m', hn, fun h'' hs'' => fin D h'' tk (F'.change hs'' hCL hC₀) (fun p hp => ?_) o1⟩
      refine ⟨hs''.extBut _ _ ?_ (N' p hp).1, (N' p hp).2⟩
      rcases List.mem_cons.mp hp with rfl | hp
      · exact Ne.symm hCD
      · exact offC p hp
/-- a source of the ledger, each element keeping nothing -/
theorem SrcS.intro {elt : Expr} {x : Str} {scope : Scope} {cl : List (Str × Addr)} {Q : Value → Shared → Prop} {ax : Addr} {o : Obj} {its : Array Value} {n : Nat} {s₁ : Shared} {news : List (Addr × Obj)} (G : Nat → Value → Prop) (hh : A.handled = none) (F : Fr h₀ L s₁.heap m) (N : News h₀ L s₁.heap news)
    (hm : (ax, o) ∈ news) (hcls : o.cls = .type "list" ∨ o.cls = .type "tuple") (hd : o.data = .seq its n) (hsz : its.size ≤ sizeLine)
    (turn : ∀ i v I oI C oC D m₂ ys h tk (E' : Value → Shared → Prop), i < its.size → its[i]? = some v → LCg.NsObj oC m₂ → m₂ x = some v → Fr h₀ L h m → News h₀ L h ((I, oI) :: (C, oC) :: (D, LCg.lst ys) :: news) →
      wpAny (model prog w) A (eval elt (compEnvC scope cl C env)) (CompEl h₀ L m { s₁ with heap := h, toks := tk } ((I, oI) :: (C, oC) :: (D, LCg.lst ys) :: news) (G i)) E' { s₁ with heap := h, toks := tk })
    (fin : ∀ ys D h tk, ys.length = its.size → (∀ i y, ys[i]? = some y → G i y) → Fr h₀ L h m → News h₀ L h ((D, LCg.lst ys) :: news) → LCg.Off1 D news → Q (.ref D) { s₁ with heap := h, toks := tk }) : SrcS prog w A h₀ L m env elt x scope cl Q (.ref ax) s₁ := by
  refine ⟨ax, o, its, news, rfl, hh, F, N, hm, hcls, ⟨n, hd⟩, hsz, fun g => comp_rest G hm (fun i v I oI C oC D m₂ ys h tk E' hi hv hC hx F N => ?_) fun ys hl hg => ?_⟩
  · exact turn i v I oI C oC D m₂ ys h tk E' hi hv hC hx F N
  · exact fun D h tk F N o1 => fin ys D h tk hl hg F N o1
end
end Mine
namespace Mine
theorem ConV.led {w : World} {f : Addr} {args : List Value} {d u : Nat} {r : Tok → Value} {led : List (Addr × Obj)} (C : ConV w f args d u r) : Con w f args d u led (fun v tl => tl = led ∧ ∃ t, v = r t) :=
  fun dp un gd env outer A₀ base h₀ L m rest s loose mean mg mb R a1 a2 a3 a4 a5 a6 a7 a8 a9 a10 ret => C dp un gd env outer A₀ base h₀ L m (led ++ rest) s loose mean mg mb R a1 a2 a3 a4 a5 a6 a7 a8 (fun _ _ _ h => nomatch h) a10 fun v tl h' tk' F N D p => ret v led h' tk' F (news_sub N fun q hq => List.mem_append_right _ hq) a9 ⟨rfl, p⟩
/-- a call that reads the ledger and turns nothing -/
theorem conR_call {w : World} {f : Addr} {args : List Value} {d u : Nat} {post : Value → Prop} {A A₀ : Around} {env : Env} {outer : List Env} {base h₀ : Heap} {L : Addr} {m : Str → Option Value} {news : List (Addr × Obj)} {s : Shared} {loose : List Str} {mean : ExcName → Option Value} {mg mb : Str → Option Value} {Q E : Value → Shared → Prop}
    (C : Con w f args d u news (fun v tl => tl = news ∧ post v)) (H : Here w A d u env outer A₀ base h₀ L m s.heap news loose mean mg mb)
    (hret : ∀ v h' tk', Fr h₀ L h' m → News h₀ L h' news → post v → Q v { s with heap := h', toks := tk' }) :
    wpAny (model PR w) A (call (.ref f) args) Q E s :=
  Con.call (rest := []) C H (fun _ h => h) ⟨(fun _ h => nomatch h), (fun _ h => nomatch h)⟩ fun v tl h' tk' F N _ p => by
    obtain ⟨rfl, p⟩ := p
    exact hret v h' tk' F (news_sub N fun q hq => List.mem_append_left _ hq) p
end Mine
local macro_rules | `(tactic| walk_at "LCS") => `(tactic| (k_here; k_dflt (refine' listcomp_seq (by k_asm) (by with_unfolding_all rfl) (by decide) (by rfl) (by decide) (by rfl) ?_)))
local macro_rules | `(tactic| walk_at "call ref") => `(tactic| (k_here; k_dflt (apply conR_call; walk_at "CONR"; walk_at "SWEEP"; intro v9 h9 tk9 F9 N9 P9; (obtain ⟨t9, e9⟩ := P9; subst e9); walk_at "FOLD")))
local macro_rules | `(tactic| walk_at "SUM") => `(tactic| ((try simp only [List.length_append, List.length_cons, List.length_nil]); omega))
local macro_rules | `(tactic| walk_at "LIT") => `(tactic| (with_reducible exact rfl))
section
namespace Mine
/-- the figures of a number; an end, a pair, a set as it is written -/
def dig (n : Int) : List Int := (toString n).toList.map fun c => (c.toNat : Int)
theorem ofString_dig (n : Int) : Str.ofString (toString n) = txt (dig n) := by
  rw [Str.ofString_eq_toList]
  simp [txt, KStt.txt, dig, Function.comp_def]
def shE (n : Int) : List Int := if n = 0 then [42] else dig n
def shP (p : Int × Int) : List Int := if p.1 = p.2 then shE p.1 else shE p.1 ++ 58 :: shE p.2
theorem c_show_end (w : World) (n : Int) (t : Tok) (h0 : 0 ≤ n) (h1 : n ≤ 4294967295) : ConV w 261 [.int n t] 15 150 (fun t => .str (txt (shE n)) t) := by
  walk_at "ENTER"
  k_steps
  · exact retS (by subst ‹n = 0›; rfl)
  · exact retS (by rw [ofString_dig, shE, if_neg (by assumption)])
/-- the law's own numbers -/
def NUMS : List Int := [0, 1, 2, 3, 7, 10, 4294967295]
theorem nums_bound : ∀ n ∈ NUMS, 0 ≤ n ∧ n ≤ 4294967295 := by decide +kernel
theorem nums_asc : ∀ n ∈ NUMS, Asc (shE n) ∧ 0 < (shE n).length ∧ (shE n).length ≤ 10 := by
  unfold Asc
  decide +kernel
def Good (p : Int × Int) : Prop := p.1 ∈ NUMS ∧ p.2 ∈ NUMS
theorem shP_asc {p : Int × Int} (h : Good p) : Asc (shP p) ∧ 0 < (shP p).length ∧ (shP p).length ≤ 21 := by
  have h1 := nums_asc _ h.1
  have h2 := nums_asc _ h.2
  unfold shP
  split
  · exact ⟨h1.1, h1.2.1, by omega⟩
  · refine ⟨fun c hc => ?_, by simp; omega, by simp; omega⟩
    rcases List.mem_append.mp hc with hc | hc
    · exact h1.1 c hc
    · rcases List.mem_cons.mp hc with rfl | hc
      · decide
      · exact h2.1 c hc
theorem lit_colon : Str.ofString ":" = txt [58] := by decide +kernel
theorem lit_comma : Str.ofString "," = txt [44] := by decide +kernel
theorem lit_star : Str.ofString "*" = txt [42] := by decide +kernel
section
variable {prog : Program} {w : World} {A : Around} {E : Value → Shared → Prop} {s : Shared} {a b : List Int} {t u : Tok} {Q : Value → Shared → Prop} {X Y : Str}
theorem add_txt (hx : X = txt a) (hy : Y = txt b) (hz : a.length + b.length ≤ 100000) (h : ∀ t' tk, Q (.str (txt (a ++ b)) t') { s with toks := tk }) : wpAny (model prog w) A (binaryOp .Add (.str X t) (.str Y u)) Q E s := by
  subst hx hy
  refine PyProof.Rows.add_str (fun t' tk => ?_) ?_
  · rw [← txt_append]; exact h t' tk
  · have e1 : (txt a).length = a.length := txt_size a
    have e2 : (txt b).length = b.length := txt_size b
    rw [e1, e2, sizeLine_eq]; omega
end
end Mine
local macro_rules | `(tactic| walk_at "LIT") => `(tactic| first | exact lit_colon | exact lit_comma)
local macro_rules | `(tactic| walk_at "binaryOp Add str str") => `(tactic| (k_here; (with_reducible refine' add_txt ?a ?b ?c ?_); (case a => walk_at "LIT"); (case b => walk_at "LIT"); (case c => walk_at "SUM"); intro _ _))
local macro_rules | `(tactic| walk_at "CONV") => `(tactic| (apply c_show_end; walk_at "GO"))
namespace Mine
section
theorem c_show_pair {w : World} {a : Addr} {led : List (Addr × Obj)} {lo hi : Int} {t1 t2 : Tok} {n : Nat} (ha : (a, ({ cls := .type "tuple", data := .seq #[.int lo t1, .int hi t2] n } : Obj)) ∈ led) (hg : Good (lo, hi)) :
    Con w 268 [.ref a] 35 350 led (fun v tl => tl = led ∧ ∃ t, v = .str (txt (shP (lo, hi))) t) := by
  obtain ⟨h0, h1⟩ := nums_bound lo hg.1
  obtain ⟨h2, h3⟩ := nums_bound hi hg.2
  obtain ⟨_, _, z1⟩ := nums_asc lo hg.1
  obtain ⟨_, _, z2⟩ := nums_asc hi hg.2
  walk_at "ENTER"
  k_steps
  · exact RetC.intro (by k_asm) (by k_asm) ⟨rfl, _, by unfold shP; rw [if_pos (by assumption)]⟩
  · exact RetC.intro (by k_asm) (by k_asm) ⟨rfl, _, by unfold shP; rw [if_neg (by assumption), List.append_assoc]; rfl⟩
end
/-- a set of pairs as data, as it is written -/
def pairD (p : Int × Int) : Dat := .tuple [.int p.1, .int p.2]
def setD (ps : List (Int × Int)) : Dat := .tuple (ps.map pairD)
def shS : List (Int × Int) → List Int
  | [] => []
  | [p] => shP p
  | p :: q :: r => shP p ++ 44 :: shS (q :: r)
theorem datAll_get {news : List (Addr × Obj)} {vs : List Value} {ds : List Dat} (h : DatAll news vs ds) {i : Nat} {v : Value} (hi : vs[i]? = some v) : ∃ d, ds[i]? = some d ∧ DatIn news v d := by
  have hk : i < ds.length := by rw [← h.length]; exact (List.getElem?_eq_some_iff.mp hi).1
  obtain ⟨u, hu, hd⟩ := h.get hk
  rw [hi] at hu
  cases hu
  exact ⟨_, List.getElem?_eq_getElem hk, hd⟩
theorem pairD_in {news : List (Addr × Obj)} {v : Value} {p : Int × Int} (h : DatIn news v (pairD p)) : ∃ a n t1 t2, v = .ref a ∧ (a, ({ cls := .type "tuple", data := .seq #[.int p.1 t1, .int p.2 t2] n } : Obj)) ∈ news := by
  unfold pairD at h
  cases h with
  | tuple hm hd =>
    cases hd with
    | cons h1 h2 =>
      cases h2 with
      | cons h2 h3 =>
        cases h3
        cases h1
        cases h2
        exact ⟨_, _, _, _, rfl, hm⟩
theorem setD_in {news : List (Addr × Obj)} {v : Value} {ps : List (Int × Int)} (h : DatIn news v (setD ps)) : ∃ a vs n, v = .ref a ∧ (a, ({ cls := .type "tuple", data := .seq (List.toArray vs) n } : Obj)) ∈ news ∧ DatAll news vs (ps.map pairD) := by
  unfold setD at h
  cases h with
  | tuple hm hd => exact ⟨_, _, _, rfl, hm, hd⟩
theorem join_sets0 : ∀ ps : List (Int × Int), Str.join (txt [44]) (ps.map fun p => txt (shP p)) = txt (shS ps)
  | [] => rfl
  | [p] => rfl
  | p :: q :: r => by
    have ih := join_sets0 (q :: r)
    rw [shS, txt_append, show (44 :: shS (q :: r)) = [44] ++ shS (q :: r) from rfl, txt_append, ← ih]
    show (txt (shP p) ++ txt [44] ++ Str.join (txt [44]) ((q :: r).map fun p => txt (shP p)) : Str) = _
    rw [Str.append_assoc]
theorem join_sets (ps : List (Int × Int)) : Txt.join (txt [44]) (ps.map fun p => txt (shP p)) = txt (shS ps) := by
  show Builtin.Str.glued _ _ = _
  rw [StrLaws.glued_eq_join]
  exact join_sets0 ps
theorem shS_asc : ∀ ps : List (Int × Int), (∀ p ∈ ps, Good p) → Asc (shS ps) ∧ (shS ps).length ≤ 22 * ps.length
  | [], _ => ⟨fun _ h => (nomatch h), by simp [shS]⟩
  | [p], h => by
    have h1 := shP_asc (h p (.head _))
    exact ⟨h1.1, by simp [shS]; omega⟩
  | p :: q :: r, h => by
    have h1 := shP_asc (h p (.head _))
    have ih := shS_asc (q :: r) fun x hx => h x (.tail _ hx)
    refine ⟨fun c hc => ?_, by simp [shS]; have := ih.2; simp at this; omega⟩
    rcases List.mem_append.mp hc with hc | hc
    · exact h1.1 c hc
    · rcases List.mem_cons.mp hc with rfl | hc
      · decide
      · exact ih.1 c hc
theorem mem3 {α : Type} {a b c x : α} {l : List α} (h : x ∈ l) : x ∈ a :: b :: c :: l := .tail _ (.tail _ (.tail _ h))
theorem strs_get {ns : List Str} {i : Nat} {n : Str} (h : ns[i]? = some n) : ns.getD i Str.empty = n := by simp [List.getD_eq_getElem?_getD, h]
theorem sum_set : ∀ ps : List (Int × Int), (∀ p ∈ ps, Good p) → ((ps.map fun p => txt (shP p)).map (·.length)).sum ≤ 21 * ps.length
  | [], _ => by simp
  | p :: r, h => by
    have h1 := (shP_asc (h p (.head _))).2.2
    have ih := sum_set r fun x hx => h x (.tail _ hx)
    have e : (txt (shP p)).length = (shP p).length := txt_size _
    simp only [List.map_cons, List.sum_cons, List.length_cons, e]
    omega
theorem ok_set {ps : List (Int × Int)} (hg : ∀ p ∈ ps, Good p) (hn : ps.length ≤ 4) : ((ps.map fun p => txt (shP p)).map (·.length)).sum + (ps.map fun p => txt (shP p)).length * 64 ≤ 16777216 := by
  have := sum_set ps hg
  rw [List.length_map]
  omega
section
local macro_rules | `(tactic| walk_at "eval ListComp") => `(tactic| walk_at "LCS")
local macro_rules | `(tactic| walk_at "CONR") => `(tactic| (apply c_show_pair; walk_at "GO"))
theorem c_show_set {w : World} {v : Value} {led : List (Addr × Obj)} {ps : List (Int × Int)} (hv : DatIn led v (setD ps)) (hg : ∀ p ∈ ps, Good p) (hn : ps.length ≤ 4) :
    Con w 273 [v] 60 600 led (fun v tl => tl = led ∧ ∃ t, v = .str (txt (shS ps)) t) := by
  obtain ⟨a, vs, n, rfl, hm, hd⟩ := setD_in hv
  have hl : vs.length = ps.length := by rw [hd.length, List.length_map]
  walk_at "ENTER"
  k_steps
  refine SrcS.intro (fun i y => ∃ t, y = .str ((ps.map fun p => txt (shP p)).getD i Str.empty) t) (by rfl) (by k_asm) (by k_asm) (by k_mem) (.inr rfl) (by rfl) (by rw [sizeLine_eq]; simp; omega) (fun i v I oI C oC D m₂ ys h tk E' hi hv hC hx F N => ?_) (fun ys D h tk hl2 hg2 F N o1 => ?_)
  · obtain ⟨d, hdi, hdv⟩ := datAll_get hd (i := i) (v := v) (by simpa using hv)
    rw [List.getElem?_map] at hdi
    cases hpi : ps[i]? with
    | none => rw [hpi] at hdi; cases hdi
    | some p =>
      rw [hpi] at hdi
      cases hdi
      obtain ⟨b, n2, t1, t2, rfl, hb⟩ := pairD_in hdv
      have hgp : Good (p.1, p.2) := hg p (List.mem_of_getElem? hpi)
      have hb3 := mem3 (a := (I, oI)) (b := (C, oC)) (c := (D, LCg.lst ys)) hb
      k_steps
      have hpp : (ps.map fun p => txt (shP p)).getD i Str.empty = txt (shP p) := strs_get (by simp [hpi])
      exact CompEl.intro (by k_asm) (by k_asm) ⟨_, congrArg (fun z => Value.str z _) hpp.symm⟩
  · have hS : StrsAre ys (ps.map fun p => txt (shP p)) := strs_of (by rw [hl2]; simp [hl]) hg2
    k_steps
    have hA := shS_asc ps hg
    refine' join_listC (News.isList (by k_asm) (by k_mem)) hS (by decide) ?hok ?_
    case hok => exact ok_set hg hn
    intro t' k
    rw [lit_comma, join_sets]
    k_steps
    exact RetC.intro (news_sub (by k_asm) fun p hp => .tail _ hp) (news_sub (by k_asm) fun p hp => .tail _ hp) ⟨rfl, _, rfl⟩
end
end Mine
namespace Mine
theorem isdigit_no {cs : List Int} {c : Int} (hc : c ∈ cs) (hd : Unicode.isDigit c.toNat = false) : Txt.isdigit (txt cs) = false := by
  have e : (txt cs).cps.all Unicode.isDigit = false := by
    rw [Bool.eq_false_iff]
    intro h
    rw [Array.all_eq_true'] at h
    have := h c.toNat (by simp only [txt, KStt.txt]; simpa using ⟨c, hc, rfl⟩)
    rw [hd] at this
    cases this
  unfold Txt.isdigit
  rw [e, Bool.and_false]
theorem dig_text : ∀ n ∈ NUMS, Txt.isdigit (txt (dig n)) = true ∧ PySem.intText? (txt (dig n)) = some n ∧ (txt (dig n)).length ≤ 640 := by decide +kernel
/-- one number alone -/
def single : List (Int × Int) → Bool
  | [p] => decide (p.1 = p.2) && decide (0 < p.1)
  | _ => false
theorem isdigit_atom {p : Int × Int} (hg : Good p) (h : single [p] = false) : Txt.isdigit (txt (shS [p])) = false := by
  unfold single at h
  show Txt.isdigit (txt (shP p)) = false
  unfold shP
  split
  · rename_i he
    have h0 : ¬ 0 < p.1 := fun h0 => by simp [he] at h; omega
    have h1 := (nums_bound _ hg.1).1
    have h2 : p.1 = 0 := by omega
    rw [shE, if_pos h2]
    exact isdigit_no (c := 42) (by simp) (by decide +kernel)
  · exact isdigit_no (c := 58) (by simp) (by decide +kernel)
section
variable {prog : Program} {w : World} {A : Around} {E : Value → Shared → Prop} {s : Shared} {h₀ : Heap} {L a : Addr} {news : List (Addr × Obj)} {vs : List Value} {k n : Nat} {Q : Value → Shared → Prop}
theorem len_tup (N : News h₀ L s.heap news) (hm : (a, ({ cls := .type "tuple", data := .seq vs.toArray k } : Obj)) ∈ news) (hl : vs.length = n) (hz : n ≤ 1000) (h : Q (.int n (s.toks + 1)) { s with toks := s.toks + 1 + 1 }) :
    wpAny (model prog w) A (call (.builtin "len") [.ref a]) Q E s := by
  refine PyProof.Rows.len_tuple (items := vs.toArray) (News.isTup N hm) (by simp; omega) ?_
  rw [show vs.toArray.size = n from by simpa using hl]
  exact h
end
end Mine
local macro_rules | `(tactic| walk_at "call builtin:len") => `(tactic| (k_here; (with_reducible refine' len_tup ?a ?b ?c ?d ?_); k_dflt ((case a => k_asm); (case b => k_mem); (case c => assumption); (case d => omega))))
namespace Mine
section
local macro_rules | `(tactic| walk_at "CONR") => `(tactic| (apply c_show_set; walk_at "GO"))
local macro_rules | `(tactic| walk_at "no such key") => `(tactic| skip)
theorem c_set_value_n {w : World} {v : Value} {led : List (Addr × Obj)} {n : Int} (hv : DatIn led v (setD [(n, n)])) (hn : n ∈ NUMS) (h0 : 0 < n) :
    Con w 612 [v] 70 700 led (fun v tl => tl = led ∧ ∃ t, v = .int n t) := by
  obtain ⟨a, vs, k, rfl, hm, hd⟩ := setD_in hv
  have hg : ∀ p ∈ [(n, n)], Good p := fun p hp => by rw [List.mem_singleton.mp hp]; exact ⟨hn, hn⟩
  have hl : [(n, n)].length ≤ 4 := by simp
  cases hd with
  | cons h1 h2 =>
  cases h2
  have e : shS [(n, n)] = dig n := by
    have h1 : n ≠ 0 := by omega
    simp [shS, shP, shE, h1]
  have hx : Txt.isdigit (txt (shS [(n, n)])) = true := by rw [e]; exact (dig_text n hn).1
  have hy : PySem.intText? (txt (shS [(n, n)])) = some n := by rw [e]; exact (dig_text n hn).2.1
  have hz : (txt (shS [(n, n)])).length ≤ 640 := by rw [e]; exact (dig_text n hn).2.2
  walk_at "ENTER"
  k_steps
  exact RetC.intro (by k_asm) (by k_asm) ⟨rfl, _, rfl⟩
theorem c_set_value_a {w : World} {v : Value} {led : List (Addr × Obj)} {ps : List (Int × Int)} (hv : DatIn led v (setD ps)) (hg : ∀ p ∈ ps, Good p) (hn : ps.length ≤ 4) (h1 : 1 ≤ ps.length) (hs : single ps = false) :
    Con w 612 [v] 70 700 led (fun v tl => ∃ a da t t', tl = atomL w a da t (txt (shS ps)) t' ++ led ∧ v = .ref a) := by
  obtain ⟨a, vs, k, rfl, hm, hd⟩ := setD_in hv
  match ps, h1 with
  | [p], _ =>
    cases hd with
    | cons h1 h2 =>
    cases h2
    have hx := isdigit_atom (hg p (.head _)) hs
    walk_at "ENTER"
    k_steps
    exact RetC.intro (by k_asm) (by k_asm) ⟨_, _, _, _, rfl, rfl⟩
  | p :: q :: r, _ =>
    have hl3 : vs.length = (p :: q :: r).length := by rw [hd.length, List.length_map]
    have hl4 : (p :: q :: r).length ≠ 1 := by simp
    cases hd with
    | cons h1 h2 =>
    cases h2 with
    | cons h2 h3 =>
    walk_at "ENTER"
    k_steps
    exact RetC.intro (by k_asm) (by k_asm) ⟨_, _, _, _, rfl, rfl⟩
end
end Mine
namespace Mine
section
variable {prog : Program} {w : World} {A : Around} {E : Value → Shared → Prop} {s : Shared} {c d : Nat} {t u : Tok} {Q : Value → Shared → Prop} {X Y : Str}
theorem eq_sign (hx : X = ⟨#[c]⟩) (hy : Y = ⟨#[d]⟩) (h : Q (.bool (decide (c = d))) s) : wpAny (model prog w) A (compareOp .Eq (.str X t) (.str Y u)) Q E s := by
  subst hx hy
  refine PyProof.Rows.eq_str ?_
  have e : ((⟨#[c]⟩ : Str) == ⟨#[d]⟩) = decide (c = d) := by
    by_cases h : c = d
    · subst h; simp
    · have : ¬ (⟨#[c]⟩ : Str) = ⟨#[d]⟩ := fun e => h (by injection e with e; simpa using e)
      simp [h, this]
  rw [e]; exact h
theorem ne_sign (hx : X = ⟨#[c]⟩) (hy : Y = ⟨#[d]⟩) (h : Q (.bool (!decide (c = d))) s) : wpAny (model prog w) A (compareOp .NotEq (.str X t) (.str Y u)) Q E s := by
  subst hx hy
  refine PyProof.Rows.ne_str ?_
  have e : ((⟨#[c]⟩ : Str) == ⟨#[d]⟩) = decide (c = d) := by
    by_cases h : c = d
    · subst h; simp
    · have : ¬ (⟨#[c]⟩ : Str) = ⟨#[d]⟩ := fun e => h (by injection e with e; simpa using e)
      simp [h, this]
  simp only [bne, e]
  exact h
theorem le_sign (hx : X = ⟨#[c]⟩) (hy : Y = ⟨#[d]⟩) (h : Q (.bool (decide (c ≤ d))) s) : wpAny (model prog w) A (compareOp .LtE (.str X t) (.str Y u)) Q E s := by
  subst hx hy
  refine P.le_str ?_
  have e : (!decide ((#[d] : Array Nat).toList < (#[c] : Array Nat).toList)) = decide (c ≤ d) := by
    have : ([d] < [c]) ↔ d < c := by simp [List.cons_lt_cons_iff]
    by_cases h : c ≤ d
    · simp [h, this]
    · simp [h, this]; omega
  show Q (.bool (!decide ((#[d] : Array Nat).toList < (#[c] : Array Nat).toList))) s
  rw [e]; exact h
end
theorem s_star : Str.ofString "*" = ⟨#[42]⟩ := by decide +kernel
theorem s_nought : Str.ofString "0" = ⟨#[48]⟩ := by decide +kernel
theorem s_nine : Str.ofString "9" = ⟨#[57]⟩ := by decide +kernel
theorem s_colon : Str.ofString ":" = ⟨#[58]⟩ := by decide +kernel
theorem s_comma : Str.ofString "," = ⟨#[44]⟩ := by decide +kernel
/-- the number of the first figures -/
def dv (n : Int) (j : Nat) : Int := ((dig n).take j).foldl (fun a c => a * 10 + c - 48) 0
theorem dv_all : ∀ n ∈ NUMS, n ≠ 0 → dv n 0 = 0 ∧ dv n (dig n).length = n ∧ 0 < (dig n).length ∧ (dig n).length ≤ 10 ∧ (dig n).getD 0 0 ≠ 48 ∧ (dig n).getD 0 0 ≠ 42 ∧
    ∀ j < (dig n).length, dv n (j + 1) = dv n j * 10 + (dig n).getD j 0 - 48 ∧ 48 ≤ (dig n).getD j 0 ∧ (dig n).getD j 0 ≤ 57 ∧ 0 ≤ dv n j ∧ dv n j ≤ 4294967295 ∧ 0 ≤ dv n (j + 1) ∧ dv n (j + 1) ≤ 4294967295 := by decide +kernel
/-- at `k` stands the end `n`, behind it stands `k'` -/
structure EndAt (cs : List Int) (k n k' : Int) : Prop where
  hn : n ∈ NUMS
  h0 : 0 ≤ k
  hk : k' = k + (shE n).length
  hl : k' ≤ cs.length
  at_ : ∀ j : Nat, j < (shE n).length → cs.getD (k + (j : Int)).toNat 0 = (shE n).getD j 0
  off : k' < cs.length → ¬ (48 ≤ cs.getD k'.toNat 0 ∧ cs.getD k'.toNat 0 ≤ 57)
end Mine
local macro_rules | `(tactic| walk_at "SGN") => `(tactic| first | (with_reducible exact rfl) | exact s_star | exact s_nought | exact s_colon | exact s_comma | exact s_nine)
local macro_rules | `(tactic| walk_at "compareOp Eq str str") => `(tactic| (k_here; (with_reducible refine' eq_sign ?a ?b ?_); (case a => walk_at "SGN"); (case b => walk_at "SGN")))
local macro_rules | `(tactic| walk_at "compareOp NotEq str str") => `(tactic| (k_here; (with_reducible refine' ne_sign ?a ?b ?_); (case a => walk_at "SGN"); (case b => walk_at "SGN")))
local macro_rules | `(tactic| walk_at "compareOp LtE str str") => `(tactic| (k_here; (with_reducible refine' le_sign ?a ?b ?_); (case a => walk_at "SGN"); (case b => walk_at "SGN")))
namespace Mine
section
variable {prog : Program} {w : World} {A₁ : Around} {E : Value → Shared → Prop} {s : Shared} {h₀ : Heap} {L : Addr} {env : Env} {A B : Str} {m : Str → Option Value} {led : List (Addr × Obj)}
/-- a map with two names in front -/
def two (A B : Str) (m : Str → Option Value) (a b : Option Value) : Str → Option Value := fun y => if y = A then a else if y = B then b else m y
def TwoEnd (h₀ : Heap) (L : Addr) (A B : Str) (m : Str → Option Value) (led : List (Addr × Obj)) (s : Shared) (P : Nat → Int → Int → Prop) (μ : Nat → Nat) (j : Nat) (f : Flow) (s₂ : Shared) : Prop :=
  f = .next ∧ ∃ e x t1 t2 h' tk', s₂ = { s with heap := h', toks := tk' } ∧ Fr h₀ L h' (two A B m (some (.int e t1)) (some (.int x t2))) ∧ News h₀ L h' led ∧ P (j + 1) e x ∧ μ (j + 1) < μ j
theorem TwoEnd.intro {P : Nat → Int → Int → Prop} {μ : Nat → Nat} {j : Nat} {e x : Int} {t1 t2 : Tok} {a b : Option Value} {h' : Heap} {tk' : Nat} (F : Fr h₀ L h' (fun y => if y = A then some (.int e t1) else if y = B then some (.int x t2) else if y = A then a else if y = B then b else m y)) (N : News h₀ L h' led) (hp : P (j + 1) e x) (hm : μ (j + 1) < μ j) :
    TwoEnd h₀ L A B m led s P μ j .next { s with heap := h', toks := tk' } := by
  refine ⟨rfl, e, x, t1, t2, h', tk', rfl, ?_, N, hp, hm⟩
  have em : two A B m (some (.int e t1)) (some (.int x t2)) = fun y => if y = A then some (.int e t1) else if y = B then some (.int x t2) else if y = A then a else if y = B then b else m y := by
    funext y
    unfold two
    by_cases h1 : y = A
    · simp [h1]
    · by_cases h2 : y = B
      · simp [h1, h2]
      · simp [h1, h2]
  rw [em]; exact F
theorem while_two {test : Expr} {body : List Stmt} {pos : Pos} {Q : Flow → Shared → Prop} {e₀ x₀ : Int} {u1 u2 : Tok} (P : Nat → Int → Int → Prop) (μ : Nat → Nat) (hAB : A ≠ B) (F : Fr h₀ L s.heap (fun y => if y = B then some (.int x₀ u2) else if y = A then some (.int e₀ u1) else m y)) (N : News h₀ L s.heap led) (hp : P 0 e₀ x₀)
    (turn : ∀ j e x t1 t2 h tks, P j e x → Fr h₀ L h (fun y => if y = A then some (.int e t1) else if y = B then some (.int x t2) else m y) → News h₀ L h led →
      wpAny (model prog w) A₁ (isTrue test env (eval test env)) (fun b s₂ => if b = true then wpAny (model prog w) A₁ (execs body env) (TwoEnd h₀ L A B m led s P μ j) E s₂ else Q .next s₂) E { s with heap := h, toks := tks })
    (hE : PassesOwn (model prog w) A₁ env E := by passes_own) :
    wpAny (model prog w) A₁ (exec (.While test body [] pos) env) Q E s := by
  have em : (fun y => if y = B then some (.int x₀ u2) else if y = A then some (.int e₀ u1) else m y) = two A B m (some (.int e₀ u1)) (some (.int x₀ u2)) := by
    funext y
    unfold two
    by_cases h1 : y = A
    · simp [h1, hAB]
    · simp [h1]
  rw [em] at F
  refine While_inv2 (fun i m₁ nx => ∃ j e x t1 t2, i = μ j ∧ m₁ = two A B m (some (.int e t1)) (some (.int x t2)) ∧ nx = led ∧ P j e x) (n₀ := μ 0) F N ⟨0, e₀, x₀, u1, u2, rfl, rfl, rfl, hp⟩ ?_ hE
  rintro i m₁ nx h tks F₁ N₁ ⟨j, e, x, t1, t2, rfl, rfl, rfl, hj⟩
  refine wpAny_mono (turn j e x t1 t2 h tks hj F₁ N₁) (fun b s₂ hb => ?_) fun _ _ e => e
  cases b with
  | false => simpa using hb
  | true =>
    simp only [if_true] at hb ⊢
    refine wpAny_mono hb (fun f s₃ hf => ?_) fun _ _ e => e
    obtain ⟨rfl, e', x', t1', t2', h', tk', rfl, F₂, N₂, hp', hm⟩ := hf
    exact ⟨h', tk', _, _, μ (j + 1), rfl, F₂, N₂, hm, j + 1, e', x', t1', t2', rfl, rfl, rfl, hp'⟩
end
end Mine
namespace Mine
section
local macro_rules | `(tactic| walk_at "exec While BoolOp") => `(tactic| (refine Stop.out ?_))
theorem c_read_end {w : World} {cs : List Int} {k n k' : Int} {t u : Tok} (hA : Asc cs) (hz : cs.length ≤ 100000) (h : EndAt cs k n k') :
    Con w 247 [.str (txt cs) t, .int k u] 25 250 [] (fun v tl => ∃ T t1 t2, v = .ref T ∧ tl = [(T, ({ cls := .type "tuple", data := .seq #[.int n t1, .int k' t2] } : Obj))]) := by
  obtain ⟨hn, h0, hk, hl, hat, hoff⟩ := h
  by_cases hn0 : n = 0
  · subst hn0
    have e0 := hat 0 (by decide)
    have e1 : (shE 0).getD 0 0 = 42 := by decide
    have e2 : (shE 0).length = 1 := by decide
    rw [e1] at e0
    rw [e2] at hk
    simp only [Int.natCast_zero, Int.add_zero] at e0
    walk_at "ENTER"
    k_steps
    exact RetC.intro (by k_asm) (by k_asm) ⟨_, _, _, rfl, by rw [hk]; rfl⟩
  · obtain ⟨d0, dn, l0, l10, f1, f2, fs⟩ := dv_all n hn hn0
    rw [show shE n = dig n from by rw [shE, if_neg hn0]] at hk hat
    have e0 := hat 0 l0
    simp only [Int.natCast_zero, Int.add_zero] at e0
    walk_at "ENTER"
    k_steps
    unfold Stop
    k_here
    refine while_two (A := Str.ofString "end") (B := Str.ofString "number") (fun c e x => c ≤ (dig n).length ∧ e = k + c ∧ x = dv n c) (fun c => (dig n).length - c) (by decide) (by k_asm) (by k_asm) ⟨Nat.zero_le _, by simp, d0.symm⟩ (fun j e x t1 t2 h' tk' hc F N => ?_)
    obtain ⟨hj, he, hx⟩ := hc
    have h0e : 0 ≤ e := by omega
    by_cases hjl : j < (dig n).length
    · have hj2 := hat j hjl
      obtain ⟨g1, g2, g3, g4, g5, g6, g7⟩ := fs j hjl
      have hle : e < cs.length := by omega
      rw [← hj2, ← he] at g1 g2 g3
      rw [← hx] at g1 g4 g5
      clear fs hat hoff d0 dn f1 f2 e0 hj2
      have G2 : 48 ≤ (cs.getD e.toNat 0).toNat := by omega
      have G3 : (cs.getD e.toNat 0).toNat ≤ 57 := by omega
      k_steps
      exact TwoEnd.intro (by k_asm) (by k_asm) ⟨by omega, by omega, by rw [g1, Int.toNat_of_nonneg (by omega), if_neg (by omega)]⟩ (by omega)
    · have hje : j = (dig n).length := by omega
      have hek : e = k' := by rw [he, hje, hk]
      have hxn : x = n := by rw [hx, hje, dn]
      subst hek hxn
      have hke : k < e := by omega
      have hkl : k < cs.length := by omega
      have hk48 : (cs.getD k.toNat 0).toNat ≠ 48 := by omega
      have hxb := nums_bound x hn
      clear fs hat he hx hk d0 dn f1 f2 e0
      refine cut_val (fun b => b = false) F N ?_ ?_
      · by_cases hend : e < cs.length
        · have := hoff hend
          by_cases hlow : 48 ≤ (cs.getD e.toNat 0).toNat
          · have hhi : ¬ (cs.getD e.toNat 0).toNat ≤ 57 := by omega
            k_steps
            exact ⟨_, _, rfl, by k_asm, by k_asm, rfl⟩
          · k_steps
            exact ⟨_, _, rfl, by k_asm, by k_asm, rfl⟩
        · k_steps
          exact ⟨_, _, rfl, by k_asm, by k_asm, rfl⟩
      · intro b h2 tk2 hb F2 N2
        subst hb
        clear F N hoff
        k_steps
        exact RetC.intro (by k_asm) (by k_asm) ⟨_, _, _, rfl, rfl⟩
end
end Mine
namespace Mine
/-- at `k` stands the pair `p`, behind it stands `k'` -/
def PairAt (cs : List Int) (k : Int) (p : Int × Int) (k' : Int) : Prop :=
  (p.1 = p.2 ∧ EndAt cs k p.1 k' ∧ (k' < cs.length → cs.getD k'.toNat 0 ≠ 58)) ∨ (p.1 ≠ p.2 ∧ ∃ k1, EndAt cs k p.1 k1 ∧ k1 < cs.length ∧ cs.getD k1.toNat 0 = 58 ∧ EndAt cs (k1 + 1) p.2 k')
def SetAt (cs : List Int) : Int → List (Int × Int) → Prop
  | _, [] => False
  | k, [p] => PairAt cs k p cs.length
  | k, p :: q :: r => ∃ k', PairAt cs k p k' ∧ k' < cs.length ∧ cs.getD k'.toNat 0 = 44 ∧ SetAt cs (k' + 1) (q :: r)
section
variable {prog : Program} {w : World} {A₁ : Around} {E : Value → Shared → Prop} {s : Shared} {h₀ : Heap} {L : Addr} {env : Env} {A B C : Str} {m : Str → Option Value} {S : Addr}
/-- a map with three names in front -/
def three (A B C : Str) (m : Str → Option Value) (a b c : Option Value) : Str → Option Value := fun y => if y = A then a else if y = B then b else if y = C then c else m y
theorem three_of {m' : Str → Option Value} {c : Option Value} (hc : m' C = c) (hr : ∀ z, z ≠ A → z ≠ B → z ≠ C → m' z = m z) : m' = three A B C m (m' A) (m' B) c := by
  funext y
  unfold three
  by_cases h1 : y = A
  · simp [h1]
  · by_cases h2 : y = B
    · simp [h1, h2]
      intro e; rw [e]
    · by_cases h3 : y = C
      · rw [if_neg h1, if_neg h2, if_pos h3, h3, hc]
      · simp [h1, h2, h3, hr y h1 h2 h3]
/-- what a turn of the reading loop leaves -/
def RsState (cs : List Int) (ps : List (Int × Int)) (S : Addr) (i : Nat) (k : Int) (nx : List (Addr × Obj)) : Prop :=
  ∃ done rem vs n T, i = rem.length ∧ 0 < rem.length ∧ done ++ rem = ps ∧ SetAt cs k rem ∧ nx = (S, W.listOf (List.toArray vs) n) :: T ∧ DatAll T vs (done.map pairD) ∧ ∀ p ∈ T, p.1 ≠ S
def RsEnd (h₀ : Heap) (L : Addr) (A B C : Str) (m : Str → Option Value) (s : Shared) (Q : Flow → Shared → Prop) (J : Nat → Int → List (Addr × Obj) → Prop) (i : Nat) (f : Flow) (s₂ : Shared) : Prop :=
  match f with
  | .ret v => Q (.ret v) s₂
  | .brk => Q .next s₂
  | _ => ∃ m' k t h' tk' nx i', s₂ = { s with heap := h', toks := tk' } ∧ Fr h₀ L h' m' ∧ News h₀ L h' nx ∧ m' C = some (.int k t) ∧ (∀ z, z ≠ A → z ≠ B → z ≠ C → m' z = m z) ∧ i' < i ∧ J i' k nx
theorem while_three {test : Expr} {body : List Stmt} {pos : Pos} {Q : Flow → Shared → Prop} {k₀ : Int} {u : Tok} {m₀ : Str → Option Value} {news : List (Addr × Obj)} {n₀ : Nat} (J : Nat → Int → List (Addr × Obj) → Prop) (F : Fr h₀ L s.heap m₀) (hc₀ : m₀ C = some (.int k₀ u)) (hr₀ : ∀ z, z ≠ A → z ≠ B → z ≠ C → m₀ z = m z) (N : News h₀ L s.heap news) (hp : J n₀ k₀ news)
    (turn : ∀ i k a b t h tks nx, J i k nx → Fr h₀ L h (fun y => if y = A then a else if y = B then b else if y = C then some (.int k t) else m y) → News h₀ L h nx →
      wpAny (model prog w) A₁ (isTrue test env (eval test env)) (fun v s₂ => if v = true then wpAny (model prog w) A₁ (execs body env) (RsEnd h₀ L A B C m s Q J i) E s₂ else Q .next s₂) E { s with heap := h, toks := tks })
    (hE : PassesOwn (model prog w) A₁ env E := by passes_own) :
    wpAny (model prog w) A₁ (exec (.While test body [] pos) env) Q E s := by
  refine While_inv2 (fun i m₁ nx => ∃ k t, m₁ C = some (.int k t) ∧ (∀ z, z ≠ A → z ≠ B → z ≠ C → m₁ z = m z) ∧ J i k nx) (n₀ := n₀) F N ⟨k₀, u, hc₀, hr₀, hp⟩ ?_ hE
  rintro i m₁ nx h tks F₁ N₁ ⟨k, t, hc, hr, hj⟩
  rw [three_of hc hr] at F₁
  refine wpAny_mono (turn i k (m₁ A) (m₁ B) t h tks nx hj F₁ N₁) (fun b s₂ hb => ?_) fun _ _ e => e
  cases b with
  | false => simpa using hb
  | true =>
    simp only [if_true] at hb ⊢
    refine wpAny_mono hb (fun f s₃ hf => ?_) fun _ _ e => e
    cases f with
    | ret v => exact hf
    | brk => exact hf
    | next =>
      obtain ⟨m', k', t', h', tk', nx', i', rfl, F₂, N₂, hc', hr', hi, hj'⟩ := hf
      exact ⟨h', tk', m', nx', i', rfl, F₂, N₂, hi, k', t', hc', hr', hj'⟩
    | cont =>
      obtain ⟨m', k', t', h', tk', nx', i', rfl, F₂, N₂, hc', hr', hi, hj'⟩ := hf
      exact ⟨h', tk', m', nx', i', rfl, F₂, N₂, hi, k', t', hc', hr', hj'⟩
theorem read_loop {test : Expr} {body : List Stmt} {pos : Pos} {Q : Flow → Shared → Prop} {u : Tok} {m₀ : Str → Option Value} {cs : List Int} {ps : List (Int × Int)} (h1 : 1 ≤ ps.length) (hs : SetAt cs 0 ps) (F : Fr h₀ L s.heap m₀) (hc₀ : m₀ C = some (.int 0 u)) (hr₀ : ∀ z, z ≠ A → z ≠ B → z ≠ C → m₀ z = m z) (N : News h₀ L s.heap [(S, W.listOf #[] 0)])
    (turn : ∀ i k a b t h tks nx, RsState cs ps S i k nx → Fr h₀ L h (fun y => if y = A then a else if y = B then b else if y = C then some (.int k t) else m y) → News h₀ L h nx →
      wpAny (model prog w) A₁ (isTrue test env (eval test env)) (fun v s₂ => if v = true then wpAny (model prog w) A₁ (execs body env) (RsEnd h₀ L A B C m s Q (RsState cs ps S) i) E s₂ else Q .next s₂) E { s with heap := h, toks := tks })
    (hE : PassesOwn (model prog w) A₁ env E := by passes_own) :
    wpAny (model prog w) A₁ (exec (.While test body [] pos) env) Q E s :=
  while_three (RsState cs ps S) F hc₀ hr₀ N ⟨[], ps, [], 0, [], rfl, h1, rfl, hs, rfl, .nil, fun _ h => nomatch h⟩ turn hE
end
section
variable {prog : Program} {w : World} {A : Around} {E : Value → Shared → Prop} {s : Shared} {h₀ : Heap} {L l : Addr} {m : Str → Option Value} {news : List (Addr × Obj)} {vs : List Value} {x : Value} {n : Nat} {Q : Value → Shared → Prop}
theorem tup_of (F : Fr h₀ L s.heap m) (N : News h₀ L s.heap news) (hm : (l, W.listOf (vs.toArray.push x) n) ∈ news) (hz : vs.length ≤ 1000)
    (h : ∀ D h', Fr h₀ L h' m → News h₀ L h' ((D, ({ cls := .type "tuple", data := .seq (vs ++ [x]).toArray } : Obj)) :: news) → (∀ p ∈ news, p.1 < D) → Q (.ref D) { s with heap := h' }) : wpAny (model prog w) A (call (.type "tuple") [.ref l]) Q E s :=
  kde_tupleOf F N (News.isList N hm) (by simp; omega) (by simp) h
end
theorem pair_dat {news : List (Addr × Obj)} {D : Addr} {a b : Int} {t1 t2 : Tok} {p : Int × Int} (hm : (D, ({ cls := .type "tuple", data := .seq #[.int a t1, .int b t2] } : Obj)) ∈ news) (ha : a = p.1) (hb : b = p.2) : DatIn news (.ref D) (pairD p) := by
  subst ha hb
  exact .tuple (vs := [_, _]) hm (.cons (.int _ _) (.cons (.int _ _) .nil))
theorem set_dat {T news : List (Addr × Obj)} {vs : List Value} {done : List (Int × Int)} {v : Value} {p : Int × Int} (hD : DatAll T vs (done.map pairD)) (hs : ∀ q ∈ T, q ∈ news) (hp : DatIn news v (pairD p)) : DatAll news (vs ++ [v]) ((done ++ [p]).map pairD) := by
  rw [List.map_append]
  exact (hD.mono hs).append (.one hp)
def tupO (vs : Array Value) : Obj := { cls := Value.type "tuple", data := Data.seq vs }
theorem rs_end {s : Shared} {h₀ h' : Heap} {L : Addr} {A B C : Str} {m m' : Str → Option Value} {Q : Flow → Shared → Prop} {nx : List (Addr × Obj)} {D : Addr} {a b : Int} {t1 t2 t : Tok} {tk : Nat} {cs : List Int} {ps done rest : List (Int × Int)} {S : Addr} {p : Int × Int} {T : List (Addr × Obj)} {vs : List Value} {n i : Nat} {k : Int}
    (F : Fr h₀ L h' m') (N : News h₀ L h' nx) (hc : m' C = some (.int k t)) (hm : ∀ z, z ≠ A → z ≠ B → z ≠ C → m' z = m z) (hi : i = rest.length + 1)
    (hS : (S, W.listOf (vs.toArray.push (.ref D)) n) ∈ nx) (hDm : (D, (tupO #[.int a t1, .int b t2])) ∈ nx) (hT : ∀ q ∈ T, q ∈ nx)
    (hD : DatAll T vs (done.map pairD)) (hps : done ++ p :: rest = ps) (hr : 0 < rest.length) (hset : SetAt cs k rest) (ha : a = p.1) (hb : b = p.2) (hoff : ∀ q ∈ T, q.1 ≠ S) (hDS : D ≠ S) :
    RsEnd h₀ L A B C m s Q (RsState cs ps S) i .next { s with heap := h', toks := tk } := by
  refine ⟨m', k, t, h', tk, (S, W.listOf (vs.toArray.push (.ref D)) n) :: (D, tupO #[.int a t1, .int b t2]) :: T, rest.length, rfl, F, news_sub N ?_, hc, hm, by omega, done ++ [p], rest, vs ++ [.ref D], n, (D, tupO #[.int a t1, .int b t2]) :: T, rfl, hr, by rw [← hps]; simp, hset, by rw [List.push_toArray], set_dat hD (fun q hq => .tail _ hq) (pair_dat (t1 := t1) (t2 := t2) (.head _) ha hb), ?_⟩
  · intro q hq
    rcases List.mem_cons.mp hq with rfl | hq
    · exact hS
    · rcases List.mem_cons.mp hq with rfl | hq
      · exact hDm
      · exact hT q hq
  · intro q hq
    rcases List.mem_cons.mp hq with rfl | hq
    · exact hDS
    · exact hoff q hq
theorem rs_next {cs : List Int} {ps done rest : List (Int × Int)} {S : Addr} {p : Int × Int} {v : Value} {T T' : List (Addr × Obj)} {vs : List Value} {n : Nat} {k : Int} (hD : DatAll T vs (done.map pairD)) (hps : done ++ p :: rest = ps) (hr : 0 < rest.length) (hset : SetAt cs k rest) (hp : DatIn T' v (pairD p)) (hs : ∀ q ∈ T, q ∈ T') (hoff : ∀ q ∈ T', q.1 ≠ S) :
    RsState cs ps S rest.length k ((S, W.listOf (vs.toArray.push v) n) :: T') :=
  ⟨done ++ [p], rest, vs ++ [v], n, T', rfl, hr, by rw [← hps]; simp, hset, by rw [List.push_toArray], set_dat hD hs hp, hoff⟩
end Mine
local macro_rules | `(tactic| walk_at "CON") => `(tactic| (apply c_read_end; walk_at "GO"))
namespace Mine
section
variable {M : Model} {Ar : Around} {E : Value → Shared → Prop} {s : Shared} {h₀ : Heap} {L : Addr} {m : Str → Option Value} {env : Env} {news : List (Addr × Obj)} {A B : Str} {a b : Int}
/-- a statement gone by, two numbers stored, nothing else turned -/
def PairMid (h₀ : Heap) (L : Addr) (m : Str → Option Value) (s : Shared) (news : List (Addr × Obj)) (A B : Str) (a b : Int) (f : Flow) (s' : Shared) : Prop :=
  f = .next ∧ ∃ (t1 t2 : Tok) (h' : Heap) (tk' : Nat), s' = { s with heap := h', toks := tk' } ∧ Fr h₀ L h' (fun y => if y = B then some (.int b t2) else if y = A then some (.int a t1) else m y) ∧ News h₀ L h' news
theorem PairMid.same {t1 t2 : Tok} {h' : Heap} {tk' : Nat} (F : Fr h₀ L h' m) (N : News h₀ L h' news) (hA : m A = some (.int a t1)) (hB : m B = some (.int b t2)) : PairMid h₀ L m s news A B a b .next { s with heap := h', toks := tk' } := by
  refine ⟨rfl, t1, t2, h', tk', rfl, ?_, N⟩
  have e : (fun y => if y = B then some (.int b t2) else if y = A then some (.int a t1) else m y) = m := by
    funext y
    by_cases h1 : y = B
    · rw [if_pos h1, h1, hB]
    · rw [if_neg h1]
      by_cases h2 : y = A
      · rw [if_pos h2, h2, hA]
      · rw [if_neg h2]
  rw [e]; exact F
theorem cut_pair {st : Stmt} {Q : Flow → Shared → Prop} (A B : Str) (a b : Int) {x : Addr × Obj} (_F : Fr h₀ L s.heap m) (_N : News h₀ L s.heap (x :: news)) (h1 : wpAny M Ar (exec st env) (PairMid h₀ L m s news A B a b) E s)
    (h2 : ∀ t1 t2 h' tk', Fr h₀ L h' (fun y => if y = B then some (.int b t2) else if y = A then some (.int a t1) else m y) → News h₀ L h' news → Q .next { s with heap := h', toks := tk' }) : wpAny M Ar (exec st env) Q E s :=
  wpAny_mono h1 (fun v s' h => by
    obtain ⟨rfl, t1, t2, h', tk', rfl, F, N⟩ := h
    exact h2 t1 t2 h' tk' F N) fun _ _ h => h
end
end Mine
local macro_rules | `(tactic| walk_at "NEWT") => `(tactic| (k_dflt (walk_at "GO1"; k_whole); intro D' h' F' N' l1; (try k_lt l1); (try k_sweep)))
namespace Mine
section
local macro_rules | `(tactic| walk_at "exec While Constant") => `(tactic| (refine Stop.out ?_))
local macro_rules | `(tactic| walk_at "call type:tuple") => `(tactic| (k_here; (with_reducible refine' tup_of ?_ ?_ ?_ ?_ ?_); walk_at "NEWT"))
local macro_rules | `(tactic| walk_at "RsEnd") => `(tactic| (refine Stop.out ?_))
theorem c_read_set {w : World} {cs : List Int} {ps : List (Int × Int)} {t : Tok} (hA : Asc cs) (hz : cs.length ≤ 100000) (h : SetAt cs 0 ps) (hn : ps.length ≤ 4) (hg : ∀ p ∈ ps, Good p) (h1 : 1 ≤ ps.length) :
    Con w 254 [.str (txt cs) t] 50 500 [] (fun v tl => DatIn tl v (setD ps)) := by
  walk_at "ENTER"
  k_steps
  unfold Stop
  k_here
  refine' read_loop (A := Str.ofString "low") (B := Str.ofString "high") (C := Str.ofString "at") h1 h ?F ?hc ?hr ?N ?_
  (case F => k_asm)
  (case N => k_asm)
  (case hc => exact rfl)
  (case hr => intro z h1 h2 h3; rw [if_neg h3])
  intro i k a b u h' tk' nx hJ F N
  obtain ⟨done, rem, vs, n, T, rfl, hrem, hps, hset, rfl, hD, hoff⟩ := hJ
  match rem, hrem with
  | p :: rest, _ =>
  have hgp : Good p := hg p (by rw [← hps]; simp)
  obtain ⟨k', hpair, hend⟩ : ∃ k', PairAt cs k p k' ∧ ((rest = [] ∧ k' = cs.length) ∨ (0 < rest.length ∧ k' < cs.length ∧ cs.getD k'.toNat 0 = 44 ∧ SetAt cs (k' + 1) rest)) := by
    cases rest with
    | nil => exact ⟨_, hset, .inl ⟨rfl, rfl⟩⟩
    | cons q r =>
      obtain ⟨k', a, b, c, d⟩ := hset
      exact ⟨k', a, .inr ⟨by simp, b, c, d⟩⟩
  have hvs : vs.length ≤ 4 := by
    have := hD.length
    have h2 : done.length + (rest.length + 1) = ps.length := by rw [← hps]; simp
    rw [this, List.length_map]
    omega
  obtain ⟨k0, he, q4, hcase⟩ : ∃ k0, EndAt cs k p.1 k0 ∧ 0 ≤ k' ∧ ((p.1 = p.2 ∧ k0 = k' ∧ (k0 < cs.length → (cs.getD k0.toNat 0).toNat ≠ 58)) ∨ (k0 < cs.length ∧ (cs.getD k0.toNat 0).toNat = 58 ∧ EndAt cs (k0 + 1) p.2 k')) := by
    rcases hpair with ⟨hp12, he, hno⟩ | ⟨hp12, k1, he1, hk1, h58, he2⟩
    · exact ⟨k', he, by have := he.hk; have := he.h0; omega, .inl ⟨hp12, rfl, fun h => by have := hno h; omega⟩⟩
    · exact ⟨k1, he1, by have := he2.hk; have := he2.h0; omega, .inr ⟨hk1, by omega, he2⟩⟩
  clear hpair
  have q1 := he.h0
  have q2 := he.hl
  have q5 : 0 ≤ k0 := by have := he.hk; omega
  repeat ((fail_if_success (with_reducible show wpAny _ _ (exec (Stmt.If (Expr.BoolOp _ _ _) _ _ _) _) _ _ _)); walk_at "STEP")
  k_here
  refine' cut_pair (Str.ofString "high") (Str.ofString "at") p.2 k' ?F ?N ?h1 ?h2
  (case F => k_asm)
  (case N => k_asm)
  (case h1 =>
    rcases hcase with ⟨hp12, rfl, hno⟩ | ⟨hk1, h58, he2⟩
    · k_steps
      all_goals
        refine' PairMid.same ?F ?N ?a rfl
        (case F => k_asm)
        (case N => exact news_sub (by k_asm) fun p hp => .tail _ hp)
        (case a => rw [← hp12]; rfl)
    · k_steps
      exact ⟨rfl, _, _, _, _, rfl, by k_asm, news_sub (by k_asm) fun p hp => .tail _ (.tail _ hp)⟩)
  walk_at "SWEEP"
  intro t1 t2 h3 tk3 F3 N3
  have q6 : k' ≤ cs.length := by
    rcases hend with ⟨_, hk⟩ | ⟨_, hk, _⟩
    · omega
    · omega
  repeat ((fail_if_success (with_reducible show wpAny _ _ (exec (Stmt.If (Expr.Compare _ _ _ _) _ _ _) _) _ _ _)); walk_at "STEP")
  rcases hend with ⟨hr, hk⟩ | ⟨hr, hk, h44, hset'⟩
  · k_steps
    unfold Stop RsEnd
    dsimp only
    k_steps
    exact RetC.intro (by k_asm) (by k_asm) (by
      rw [← hps, hr]
      exact .tuple (by k_mem) (set_dat hD (fun q hq => .tail _ (.tail _ (.tail _ hq))) (pair_dat (by k_mem) rfl rfl)))
  · have h44n : (cs.getD k'.toNat 0).toNat = 44 := by omega
    k_steps
    unfold Stop
    refine' rs_end (D := _) ?F ?N ?hc ?hm rfl ?hS ?hDm ?hT hD hps hr hset' rfl rfl hoff ?ne
    (case F => k_asm)
    (case N => k_asm)
    (case hS => k_mem)
    (case hc => exact rfl)
    (case hDm => unfold tupO; k_mem)
    (case hT => exact fun q hq => .tail _ (.tail _ hq))
    (case hm => intro z h1 h2 h3; rw [if_neg h3]; simp only [h1, h2, h3, if_false])
    (case ne => refine neN ?_; (try dsimp only); omega)
end
end Mine
namespace Mine
abbrev srcL (S C : Addr) (at_ : Int) (t : Tok) (n : Nat) (vs : List Value) (k : Nat) : List (Addr × Obj) := [(S, W.listOf #[.ref C, .int at_ t] n), (C, W.listOf vs.toArray k)]
theorem fmod_ok (a : Int) {b : Int} (h : 0 < b) : 0 ≤ a.fmod b ∧ a.fmod b < b := by
  rw [Int.fmod_eq_emod_of_nonneg _ (Int.le_of_lt h)]
  exact ⟨Int.emod_nonneg _ (Int.ne_of_gt h), Int.emod_lt_of_pos _ h⟩
/-- a number drawn below `lim` -/
def InR (r lim : Int) : Prop := 0 ≤ r ∧ r < lim
theorem c_law_draw {w : World} {S C : Addr} {at_ lim : Int} {t u : Tok} {n k : Nat} {vs : List Value} {ns : List Int} (hi : IntsAre vs ns) (hl : 0 < ns.length) (hz : ns.length ≤ 60) (h0 : 0 ≤ at_) (h1 : at_ ≤ 1000) (l0 : 0 < lim) (l1 : lim ≤ 10) (hCS : C ≠ S) :
    Con w 812 [.ref S, .int lim u] 15 150 (srcL S C at_ t n vs k) (fun v tl => ∃ t' r u', tl = srcL S C (at_ + 1) t' n vs k ∧ v = .int r u' ∧ InR r lim) := by
  have hvl := hi.length
  walk_at "ENTER"
  k_steps
  exact RetC.intro (by k_asm) (by k_asm) ⟨_, _, _, rfl, rfl, fmod_ok _ l0⟩
end Mine
namespace Mine
section
variable {prog : Program} {w : World} {A₁ : Around} {E : Value → Shared → Prop} {s : Shared} {h₀ : Heap} {env : Env} {n1 n2 n3 n4 x : Str} {m : Str → Option Value} {S C so te : Addr} {vc : List Value} {kc : Nat} {a0 : Int}
/-- a map with five names in front -/
def five (n1 n2 n3 n4 x : Str) (m : Str → Option Value) (a b c d e : Option Value) : Str → Option Value := fun y => if y = n1 then a else if y = n2 then b else if y = n3 then c else if y = n4 then d else if y = x then e else m y
theorem five_of {m' : Str → Option Value} (hr : ∀ z, z ≠ n1 → z ≠ n2 → z ≠ n3 → z ≠ n4 → z ≠ x → m' z = m z) : m' = five n1 n2 n3 n4 x m (m' n1) (m' n2) (m' n3) (m' n4) (m' x) := by
  funext y
  unfold five
  by_cases h1 : y = n1
  · rw [if_pos h1, h1]
  · rw [if_neg h1]
    by_cases h2 : y = n2
    · rw [if_pos h2, h2]
    · rw [if_neg h2]
      by_cases h3 : y = n3
      · rw [if_pos h3, h3]
      · rw [if_neg h3]
        by_cases h4 : y = n4
        · rw [if_pos h4, h4]
        · rw [if_neg h4]
          by_cases h5 : y = x
          · rw [if_pos h5, h5]
          · rw [if_neg h5, hr y h1 h2 h3 h4 h5]
/-- what the drawing loop has made after `i` turns -/
def SoSt (S C so te : Addr) (vc : List Value) (kc : Nat) (a0 : Int) (i : Nat) (nx : List (Addr × Obj)) : Prop :=
  ∃ (ps : List (Int × Int)) (vs us : List Value) (k1 k2 : Nat) (at_ : Int) (t : Tok) (n : Nat) (T : List (Addr × Obj)), ps.length = i ∧ (∀ p ∈ ps, Good p) ∧ nx = (S, W.listOf #[.ref C, .int at_ t] n) :: (C, W.listOf vc.toArray kc) :: (so, W.listOf (List.toArray vs) k1) :: (te, W.listOf (List.toArray us) k2) :: T ∧
    DatAll T vs (ps.map pairD) ∧ StrsAre us (ps.map fun p => txt (shP p)) ∧ (∀ q ∈ T, q.1 ≠ S) ∧ (∀ q ∈ T, q.1 ≠ C) ∧ (∀ q ∈ T, q.1 ≠ so) ∧ (∀ q ∈ T, q.1 ≠ te) ∧ a0 ≤ at_ ∧ at_ ≤ a0 + 4 * i
def SoJ (n1 n2 n3 n4 x : Str) (m : Str → Option Value) (S C so te : Addr) (vc : List Value) (kc : Nat) (a0 : Int) (i : Nat) (m' : Str → Option Value) (nx : List (Addr × Obj)) : Prop :=
  (∀ z, z ≠ n1 → z ≠ n2 → z ≠ n3 → z ≠ n4 → z ≠ x → m' z = m z) ∧ SoSt S C so te vc kc a0 i nx
theorem draw_loop {body : List Stmt} {Q : Flow → Shared → Prop} {r : Addr} {b₀ : Int} {t₀ u₀ v₀ t' : Tok} {n k1 k2 k3 : Nat}
    (hh : A₁.handled = none) (hr : IsRange s.heap r 0 b₀ 1 t₀ u₀ v₀) (hsmall : Builtin.Range.small 0 b₀ 1 = true) (hsz : Builtin.Range.rangeSize 0 b₀ 1 = (n : Int)) (F : Fr h₀ env.locals s.heap m)
    (N : News h₀ env.locals s.heap [(S, W.listOf #[.ref C, .int a0 t'] k1), (C, W.listOf vc.toArray kc), (te, W.listOf #[] k2), (so, W.listOf #[] k3)])
    (turn : ∀ i t a b c d e nx h tk own, i < n → OwnOff own (nx.map (·.1)) → SoSt S C so te vc kc a0 i nx → Fr h₀ env.locals h (fun y => if y = x then some (.int i t) else five n1 n2 n3 n4 x m a b c d e y) → News h₀ env.locals h (nx ++ own) →
      wpAny (model prog w) A₁ (execs body env) (InvPostG h₀ env.locals (SoJ n1 n2 n3 n4 x m S C so te vc kc a0 (i + 1)) own { s with heap := h, toks := tk } Q) E { s with heap := h, toks := tk })
    (done : ∀ a b c d e nx h tk, SoSt S C so te vc kc a0 n nx → Fr h₀ env.locals h (fun y => five n1 n2 n3 n4 x m a b c d e y) → News h₀ env.locals h nx → Q .next { s with heap := h, toks := tk }) :
    wpAny (model prog w) A₁ (pyIter (.ref r)) (fun it s₂ => LoopAtV prog w A₁ h₀ env x body Q E it s₂) E s := by
  refine wpAny_pyIter_range hr hsmall ?_
  have WW : Walks prog w A₁ s.heap.objs.size [s.heap.objs.size] [s.heap.objs.size] n (fun i v => i < n ∧ ∃ t, v = .int (0 + i * 1) t)
      (fun i h => IsRangeIter h s.heap.objs.size (0 + (i : Nat) * 1) ((n : Int) - (i : Nat)) 1) := (Walks.range hh _ 0 1 n).bound
  refine kdr_loop (SoJ n1 n2 n3 n4 x m S C so te vc kc a0) WW (fun _ h => h) (fun _ h => h) ?_ ?_ ?_ ?_ (by show IsRangeIter _ _ _ _ _; rw [hsz]; simpa using Heap.get?_push_size _ rfl) (F.push _)
    (news := [(S, W.listOf #[.ref C, .int a0 t'] k1), (C, W.listOf vc.toArray kc), (so, W.listOf #[] k3), (te, W.listOf #[] k2)]) (fun p hp => ?_) ⟨fun _ _ _ _ _ _ => rfl, [], [], [], k3, k2, a0, t', k1, [], rfl, (fun _ h => nomatch h), rfl, .nil, .nil, (fun _ h => nomatch h), (fun _ h => nomatch h), (fun _ h => nomatch h), (fun _ h => nomatch h), by omega, by omega⟩ ?_ ?_
  · intro i h hi b hb
    rw [List.mem_singleton.mp hb]
    exact ⟨_, hi⟩
  · intro hm
    exact absurd F.ns.lt ((List.mem_singleton.mp hm) ▸ Nat.lt_irrefl _)
  · intro b hb
    rw [List.mem_singleton.mp hb]
    exact next_is_new F
  · intro p hp hI
    have hp' : p ∈ [(S, W.listOf #[.ref C, .int a0 t'] k1), (C, W.listOf vc.toArray kc), (te, W.listOf #[] k2), (so, W.listOf #[] k3)] := by
      simp at hp ⊢
      rcases hp with h | h | h | h <;> simp [h]
    exact absurd (Heap.lt_size (N p hp').1) ((List.mem_singleton.mp hI) ▸ Nat.lt_irrefl _)
  · have hp' : p ∈ [(S, W.listOf #[.ref C, .int a0 t'] k1), (C, W.listOf vc.toArray kc), (te, W.listOf #[] k2), (so, W.listOf #[] k3)] := by
      simp at hp ⊢
      rcases hp with h | h | h | h <;> simp [h]
    exact ⟨Heap.get?_push_of_some _ (N p hp').1, (N p hp').2⟩
  · rintro i v m₁ nx h tk own hi ⟨_, t, rfl⟩ hoff ⟨hm, hst⟩ F₁ N₁
    have e1 : (0 : Int) + (i : Int) * 1 = (i : Int) := by omega
    rw [e1, five_of hm] at F₁
    exact turn i t _ _ _ _ _ nx h tk own hi hoff hst F₁ N₁
  · rintro m₁ nx h tk ⟨hm, hst⟩ F₁ N₁
    rw [five_of hm] at F₁
    exact done _ _ _ _ _ nx h tk hst F₁ N₁
end
section
variable {M : Model} {A : Around} {E : Value → Shared → Prop} {s : Shared} {h₀ : Heap} {L : Addr} {m : Str → Option Value} {env : Env} {S C : Addr} {vs : List Value} {k n : Nat} {U : List (Addr × Obj)} {at1 : Int} {t : Tok}
/-- a number drawn, the counter moved on -/
def DrawMid (h₀ : Heap) (L : Addr) (m : Str → Option Value) (s : Shared) (S C : Addr) (vs : List Value) (k : Nat) (U : List (Addr × Obj)) (at1 : Int) (v : Value) (s' : Shared) : Prop :=
  ∃ (b : Int) (u t' : Tok) (at' : Int) (n' : Nat) (h' : Heap) (tk' : Nat), v = .int b u ∧ s' = { s with heap := h', toks := tk' } ∧ Fr h₀ L h' m ∧ News h₀ L h' ((S, W.listOf #[.ref C, .int at' t'] n') :: (C, W.listOf vs.toArray k) :: U) ∧ b ∈ NUMS ∧ at1 ≤ at' ∧ at' ≤ at1 + 2
theorem cut_draw {e : Expr} {Q : Value → Shared → Prop} (_F : Fr h₀ L s.heap m) (_N : News h₀ L s.heap ((S, W.listOf #[.ref C, .int at1 t] n) :: (C, W.listOf vs.toArray k) :: U)) (h1 : wpAny M A (eval e env) (DrawMid h₀ L m s S C vs k U at1) E s)
    (h2 : ∀ b u t' at' n' h' tk', b ∈ NUMS → at1 ≤ at' → at' ≤ at1 + 2 → Fr h₀ L h' m → News h₀ L h' ((S, W.listOf #[.ref C, .int at' t'] n') :: (C, W.listOf vs.toArray k) :: U) → Q (.int b u) { s with heap := h', toks := tk' }) : wpAny M A (eval e env) Q E s :=
  wpAny_mono h1 (fun v s' h => by
    obtain ⟨b, u, t', at', n', h', tk', rfl, rfl, F, N, a, b1, b2⟩ := h
    exact h2 b u t' at' n' h' tk' a b1 b2 F N) fun _ _ h => h
end
section
variable {M : Model} {A : Around} {E : Value → Shared → Prop} {s : Shared} {h₀ : Heap} {L : Addr} {m : Str → Option Value} {env : Env} {news : List (Addr × Obj)} {e : Expr} {Q : Value → Shared → Prop} {a b : Int}
def StrIs (x : Str) (v : Value) : Prop := ∃ t, v = .str x t
theorem StrIs.of {x y : Str} {t : Tok} (h : x = y) : StrIs x (.str y t) := ⟨t, by rw [h]⟩
theorem cut_one (_h : a ∈ NUMS) (F : Fr h₀ L s.heap m) (N : News h₀ L s.heap news) (h1 : wpAny M A (eval e env) (ValMid h₀ L m s news (StrIs (txt (shE a)))) E s)
    (h2 : ∀ t h' tk', Fr h₀ L h' m → News h₀ L h' news → Q (.str (txt (shE a)) t) { s with heap := h', toks := tk' }) : wpAny M A (eval e env) Q E s :=
  cut_val _ F N h1 fun v h' tk' p F N => by
    obtain ⟨t, rfl⟩ := p
    exact h2 t h' tk' F N
theorem cut_text (_h : a ∈ NUMS) (_h' : b ∈ NUMS) (F : Fr h₀ L s.heap m) (N : News h₀ L s.heap news) (h1 : wpAny M A (eval e env) (ValMid h₀ L m s news (StrIs (txt (shP (a, b))))) E s)
    (h2 : ∀ t h' tk', Fr h₀ L h' m → News h₀ L h' news → Q (.str (txt (shP (a, b))) t) { s with heap := h', toks := tk' }) : wpAny M A (eval e env) Q E s :=
  cut_val _ F N h1 fun v h' tk' p F N => by
    obtain ⟨t, rfl⟩ := p
    exact h2 t h' tk' F N
end
abbrev NUMT : Obj := { cls := .type "tuple", data := .seq #[] }
end Mine
section
local macro_rules | `(tactic| walk_at "CON") => `(tactic| (apply c_law_draw; walk_at "GO"))
namespace Mine
section
variable {prog : Program} {w : World} {A : Around} {E : Value → Shared → Prop} {s : Shared}
theorem num_item {K : Frag} {h₀ : Heap} {L a : Addr} {m : Str → Option Value} {n : Nat} {value slice : PySem.Expr} {l : List Value} {dd : Option Addr} {sl : Array (Option Value)} {k : Int} {u : Tok} {Q : Value → Shared → Prop} (F : Fr h₀ L s.heap m) (X₀ : K.In h₀)
    (hl : K.lookup a = some ⟨.type "tuple", dd, .seq l.toArray n, sl⟩) (hi : IntsAre l NUMS) (hk : InR k 7) (h : ∀ x t, x ∈ NUMS → 0 ≤ x → x ≤ 4294967295 → (shE x).length ≤ 10 → Q (.int x t) s)
    (hs : subscripted slice false (.ref a) (.int k u) = operate [.ref a, .int k u] (getItem (.ref a) (.int k u)) := by with_unfolding_all rfl) :
    wpAny (model prog w) A (subscriptTail value slice (.ref a) (.int k u)) Q E s := by
  obtain ⟨k0, k7⟩ := hk
  have hlen : NUMS.length = 7 := rfl
  refine topTupAny_K F X₀ hl hi k0 (by omega) (by omega) (fun t => ?_) hs
  have hm : NUMS.getD k.toNat 0 ∈ NUMS := by
    have hkt : k.toNat < NUMS.length := by omega
    rw [List.getD_eq_getElem?_getD, List.getElem?_eq_getElem hkt]
    exact List.getElem_mem hkt
  have hb := nums_bound _ hm
  exact h _ t hm hb.1 hb.2 (nums_asc _ hm).2.2
end
theorem ints7 {a b c d e f g : Tok} : IntsAre [.int 0 a, .int 1 b, .int 2 c, .int 3 d, .int 7 e, .int 10 f, .int 4294967295 g] NUMS := .cons _ _ (.cons _ _ (.cons _ _ (.cons _ _ (.cons _ _ (.cons _ _ (.cons _ _ .nil))))))
section
variable {prog : Program} {w : World} {A : Around} {E : Value → Shared → Prop} {s : Shared} {h₀ : Heap} {L l : Addr} {m : Str → Option Value} {news : List (Addr × Obj)} {vs : List Value} {n : Nat} {Q : Value → Shared → Prop}
theorem tup_of0 (F : Fr h₀ L s.heap m) (N : News h₀ L s.heap news) (hm : (l, W.listOf vs.toArray n) ∈ news) (hz : vs.length ≤ 1000)
    (h : ∀ D h', Fr h₀ L h' m → News h₀ L h' ((D, ({ cls := .type "tuple", data := .seq vs.toArray } : Obj)) :: news) → (∀ p ∈ news, p.1 < D) → Q (.ref D) { s with heap := h' }) : wpAny (model prog w) A (call (.type "tuple") [.ref l]) Q E s :=
  kde_tupleOf F N (News.isList N hm) (by simp; omega) (by simp) h
end
theorem own_split {own T : List (Addr × Obj)} {a b c d : Addr × Obj} (h : OwnOff own ((a :: b :: c :: d :: T).map (·.1))) (ha : ∀ q ∈ T, q.1 ≠ a.1) (hb : ∀ q ∈ T, q.1 ≠ b.1) (hc : ∀ q ∈ T, q.1 ≠ c.1) (hd : ∀ q ∈ T, q.1 ≠ d.1) :
    ∃ U, U = T ++ own ∧ (∀ q ∈ U, q.1 ≠ a.1) ∧ (∀ q ∈ U, q.1 ≠ b.1) ∧ (∀ q ∈ U, q.1 ≠ c.1) ∧ (∀ q ∈ U, q.1 ≠ d.1) ∧ OwnOff own (T.map (·.1)) :=
  ⟨_, rfl, fun q hq => (List.mem_append.mp hq).elim (ha q) fun x => h q x _ (by simp), fun q hq => (List.mem_append.mp hq).elim (hb q) fun x => h q x _ (by simp), fun q hq => (List.mem_append.mp hq).elim (hc q) fun x => h q x _ (by simp),
    fun q hq => (List.mem_append.mp hq).elim (hd q) fun x => h q x _ (by simp), fun q hq b hb => h q hq b (by simp only [List.map_cons, List.mem_cons]; exact .inr (.inr (.inr (.inr hb))))⟩
theorem shE_pos {a : Int} (h : 0 < a) : txt (shE a) = Str.ofString (toString a) := by rw [ofString_dig, shE, if_neg (by omega)]
theorem shE_zero {a : Int} (h : ¬ 0 < a) (h0 : 0 ≤ a) : txt (shE a) = Str.ofString "*" := by rw [lit_star, shE, if_pos (by omega)]
theorem shP_eq {a b : Int} (h : a = b) : txt (shP (a, b)) = txt (shE a) := by unfold shP; rw [if_pos h]
theorem shP_ne {a b : Int} (h : a ≠ b) : txt (shP (a, b)) = txt (shE a ++ [58] ++ shE b) := by unfold shP; rw [if_neg h]; simp
theorem so_end {S C so te D : Addr} {s : Shared} {h₀ h' : Heap} {L : Addr} {n1 n2 n3 n4 x : Str} {m m' : Str → Option Value} {a0 : Int} {vc : List Value} {kc n k1 k2 i tk : Nat} {a b at2 : Int} {t1 t2 t3 t : Tok} {X : Str} {ps : List (Int × Int)} {vs us : List Value} {T U own : List (Addr × Obj)}
    (F : Fr h₀ L h' m') (N : News h₀ L h' ((D, ({ cls := .type "tuple", data := .seq #[.int a t1, .int b t2] } : Obj)) :: (S, W.listOf #[.ref C, .int at2 t] n) :: (C, W.listOf vc.toArray kc) :: (so, W.listOf (vs.toArray.push (.ref D)) k1) :: (te, W.listOf (us.toArray.push (.str X t3)) k2) :: U))
    (hm : ∀ z, z ≠ n1 → z ≠ n2 → z ≠ n3 → z ≠ n4 → z ≠ x → m' z = m z) (hl : @LT.lt Nat _ S D ∧ @LT.lt Nat _ C D ∧ @LT.lt Nat _ so D ∧ @LT.lt Nat _ te D ∧ AllLt D U) (hU : U = T ++ own)
    (hi : ps.length = i) (hg : ∀ p ∈ ps, Good p) (hD : DatAll T vs (ps.map pairD)) (hS : StrsAre us (ps.map fun p => txt (shP p))) (ha : a ∈ NUMS) (hb : b ∈ NUMS) (hX : X = txt (shP (a, b)))
    (w1 : ∀ q ∈ U, q.1 ≠ S) (w2 : ∀ q ∈ U, q.1 ≠ C) (w3 : ∀ q ∈ U, q.1 ≠ so) (w4 : ∀ q ∈ U, q.1 ≠ te) (hoff : OwnOff own (T.map (·.1))) (b1 : a0 ≤ at2) (b2 : at2 ≤ a0 + 4 * (i + 1 : Nat)) :
    InvEndG h₀ L (SoJ n1 n2 n3 n4 x m S C so te vc kc a0 (i + 1)) own s { s with heap := h', toks := tk } := by
  subst hU hX
  obtain ⟨q1, q2, q3, q4, q5⟩ := hl
  have q6 : ∀ q ∈ T ++ own, q.1 ≠ D := by
    have key : ∀ (l : List (Addr × Obj)), AllLt D l → ∀ q ∈ l, q.1 ≠ D := by
      intro l
      induction l with
      | nil => intro _ q hq; cases hq
      | cons p r ih =>
        intro h q hq
        rcases List.mem_cons.mp hq with rfl | hq
        · exact Nat.ne_of_lt h.1
        · exact ih h.2 q hq
    exact key _ q5
  refine ⟨h', tk, m', _, (S, W.listOf #[.ref C, .int at2 t] n) :: (C, W.listOf vc.toArray kc) :: (so, W.listOf (vs.toArray.push (.ref D)) k1) :: (te, W.listOf (us.toArray.push (.str (txt (shP (a, b))) t3)) k2) :: (D, ({ cls := .type "tuple", data := .seq #[.int a t1, .int b t2] } : Obj)) :: T, rfl, F, N, ?_, ?_, ?_, hm, ps ++ [(a, b)], vs ++ [.ref D], us ++ [.str (txt (shP (a, b))) t3], k1, k2, at2, t, n, (D, ({ cls := .type "tuple", data := .seq #[.int a t1, .int b t2] } : Obj)) :: T, by simp [hi], ?_, ?_, ?_, ?_, ?_, ?_, ?_, ?_, b1, b2⟩
  · intro p hp
    simp only [List.mem_cons, List.mem_append] at hp ⊢
    rcases hp with h | h | h | h | h | h <;> simp [h]
  · intro p hp
    simp only [List.mem_cons, List.mem_append]
    exact .inr (.inr (.inr (.inr (.inr (.inr hp)))))
  · intro p hp b hb
    have hp' : p ∈ T ++ own := List.mem_append_right _ hp
    simp only [List.map_cons, List.mem_cons] at hb
    rcases hb with h | h | h | h | h | h
    · rw [h]; exact w1 p hp'
    · rw [h]; exact w2 p hp'
    · rw [h]; exact w3 p hp'
    · rw [h]; exact w4 p hp'
    · rw [h]; exact q6 p hp'
    · exact hoff p hp b h
  · intro p hp
    rcases List.mem_append.mp hp with hp | hp
    · exact hg p hp
    · rw [List.mem_singleton.mp hp]; exact ⟨ha, hb⟩
  · rw [List.push_toArray, List.push_toArray]
  · exact set_dat hD (fun q hq => .tail _ hq) (pair_dat (t1 := t1) (t2 := t2) (.head _) rfl rfl)
  · rw [List.map_append]
    exact StrsAre.append' hS (.cons _ _ .nil)
  · intro q hq
    rcases List.mem_cons.mp hq with rfl | hq
    · exact Nat.ne_of_gt q1
    · exact w1 q (List.mem_append_left _ hq)
  · intro q hq
    rcases List.mem_cons.mp hq with rfl | hq
    · exact Nat.ne_of_gt q2
    · exact w2 q (List.mem_append_left _ hq)
  · intro q hq
    rcases List.mem_cons.mp hq with rfl | hq
    · exact Nat.ne_of_gt q3
    · exact w3 q (List.mem_append_left _ hq)
  · intro q hq
    rcases List.mem_cons.mp hq with rfl | hq
    · exact Nat.ne_of_gt q4
    · exact w4 q (List.mem_append_left _ hq)
theorem so_sub {P S C so te D : Addr} {oP oD oS oC o1 o2 : Obj} {T : List (Addr × Obj)} : ∀ p ∈ (S, oS) :: (C, oC) :: (P, oP) :: (D, oD) :: T, p ∈ (P, oP) :: (D, oD) :: (S, oS) :: (C, oC) :: (so, o1) :: (te, o2) :: T := by
  intro p hp
  simp only [List.mem_cons] at hp ⊢
  rcases hp with h | h | h | h | h <;> simp [h]
theorem inR_nat {r : Int} (h : InR r 4) : ∃ n : Nat, 1 + r = (n : Int) ∧ 1 ≤ n ∧ n ≤ 4 := by
  obtain ⟨h1, h2⟩ := h
  exact ⟨(1 + r).toNat, by omega, by omega, by omega⟩
section
local macro_rules | `(tactic| walk_at "subscriptTail") => `(tactic| (k_here; (with_reducible show wpAny _ _ (subscriptTail _ _ (Value.ref _) (Value.int _ _)) _ _ _); k_dflt ((with_unfolding_all (refine' num_item ?F ?X ?l ?i ?k3 ?_; (case F => k_asm); (case X => k_asm); (case l => k_is); (case i => exact ints7); (case k3 => assumption); k_whole)); intro x9 t9 m9 lo9 hi9 ln9)))
local macro_rules | `(tactic| walk_at "pyIter ref") => `(tactic| (refine Stop.out ?_))
local macro_rules | `(tactic| walk_at "call type:tuple") => `(tactic| (k_here; (with_reducible refine' tup_of0 ?_ ?_ ?_ ?_ ?_); walk_at "NEWT"))
/-- what a set drawn hands back -/
def SomeQ (S C : Addr) (at_ : Int) (vs : List Value) (k : Nat) (v : Value) (tl : List (Addr × Obj)) : Prop :=
  ∃ t' n' at' Tp Sp tt l ps, tl = srcL S C at' t' n' vs k ++ (Tp, tupO #[Sp, .str (txt (shS ps)) tt]) :: l ∧ v = .ref Tp ∧ DatIn l Sp (setD ps) ∧ (∀ p ∈ ps, Good p) ∧ 1 ≤ ps.length ∧ ps.length ≤ 4 ∧ at_ ≤ at' ∧ at' ≤ at_ + 17 ∧
      (∀ q ∈ l, q.1 ≠ S) ∧ (∀ q ∈ l, q.1 ≠ C) ∧ Tp ≠ S ∧ Tp ≠ C
theorem c_law_some {w : World} {S C : Addr} {at_ : Int} {t : Tok} {n k : Nat} {vs : List Value} {ns : List Int} (hi : IntsAre vs ns) (hl : 0 < ns.length) (hz : ns.length ≤ 60) (h0 : 0 ≤ at_) (h1 : at_ ≤ 100) (hCS : C ≠ S) :
    Con w 819 [.ref S] 45 450 (srcL S C at_ t n vs k) (SomeQ S C at_ vs k) := by
  have hSC : S ≠ C := fun e => hCS e.symm
  walk_at "ENTER"
  k_steps
  have hin : ∃ n : Nat, 1 + _ = (n : Int) ∧ 1 ≤ n ∧ n ≤ 4 := inR_nat ‹InR _ 4›
  obtain ⟨q, hq, q1, q4⟩ := hin
  unfold Stop
  k_here
  refine' draw_loop (n1 := Str.ofString "low") (n2 := Str.ofString "high") (n3 := Str.ofString "one") (n4 := Str.ofString "other") (n := q) ?hh ?hr ?hsm ?hsz ?F ?N ?_ ?_
  (case hh => rfl)
  (case hr => assumption)
  (case hsm => exact small_one (by omega) (by omega) (by omega) (by omega))
  (case hsz => rw [hq]; exact rangeSize_nat _ _)
  (case F => k_asm)
  (case N => k_asm)
  · intro i t1 a b c d e nx h' tk' own hi' hoff hst F N
    obtain ⟨ps, vs1, us, k1, k2, at1, t2, n2, T, rfl, hg, rfl, hD, hS, o1, o2, o3, o4, b1, b2⟩ := hst
    dsimp only [five] at F
    obtain ⟨U, hU, w1, w2, w3, w4, hoff'⟩ := own_split hoff o1 o2 o3 o4
    simp only [List.cons_append] at N
    rw [← hU] at N
    dsimp only at w1 w2 w3 w4
    clear hoff
    have hvl : vs1.length ≤ 4 := by rw [hD.length, List.length_map]; omega
    have hul : us.length ≤ 4 := by rw [hS.length, List.length_map]; omega
    repeat ((fail_if_success (with_reducible show wpAny _ _ (eval (PySem.Expr.IfExp _ _ _ _) _) _ _ _)); walk_at "STEP")
    k_here
    rename _ ∈ NUMS => ha
    have ha0 := nums_bound _ ha
    refine' cut_draw ?zF ?zN ?zd ?_
    (case zF => k_asm)
    (case zN => k_asm)
    (case zd =>
      k_steps
      all_goals exact ⟨_, _, _, _, _, _, _, rfl, rfl, by k_asm, by k_asm, by assumption, by omega, by omega⟩)
    intro bb ub t4 at4 n4 hh4 tk4 hb c1 c2 F4 N4
    have hb0 := nums_bound _ hb
    have hbl := (nums_asc _ hb).2.2
    repeat ((fail_if_success (with_reducible show wpAny _ _ (eval (PySem.Expr.IfExp _ _ _ _) _) _ _ _)); walk_at "STEP")
    k_here
    refine' cut_one ha ?zF ?zN ?zd ?_
    (case zF => k_asm)
    (case zN => k_asm)
    (case zd =>
      k_steps
      · exact ⟨_, _, rfl, by k_asm, by k_asm, .of (shE_pos (by assumption))⟩
      · exact ⟨_, _, rfl, by k_asm, by k_asm, .of (shE_zero (by assumption) ha0.1)⟩)
    intro _ _ _ _ _
    repeat ((fail_if_success (with_reducible show wpAny _ _ (eval (PySem.Expr.IfExp _ _ _ _) _) _ _ _)); walk_at "STEP")
    k_here
    refine' cut_one hb ?zF ?zN ?zd ?_
    (case zF => k_asm)
    (case zN => k_asm)
    (case zd =>
      k_steps
      · exact ⟨_, _, rfl, by k_asm, by k_asm, .of (shE_pos (by assumption))⟩
      · exact ⟨_, _, rfl, by k_asm, by k_asm, .of (shE_zero (by assumption) hb0.1)⟩)
    intro _ _ _ _ _
    repeat ((fail_if_success (with_reducible show wpAny _ _ (eval (PySem.Expr.IfExp _ _ _ _) _) _ _ _)); walk_at "STEP")
    k_here
    refine' cut_text ha hb ?zF ?zN ?zd ?_
    (case zF => k_asm)
    (case zN => k_asm)
    (case zd =>
      k_steps
      · exact ⟨_, _, rfl, by k_asm, by k_asm, .of (shP_eq (by assumption))⟩
      · exact ⟨_, _, rfl, by k_asm, by k_asm, .of (shP_ne (by assumption))⟩)
    intro _ _ _ _ _
    k_steps
    refine' so_end ?zF ?zN ?zm ?zl hU rfl hg hD hS ha hb rfl w1 w2 w3 w4 hoff' ?zb1 ?zb2
    (case zF => k_asm)
    (case zN => k_asm)
    (case zm => intro z h1 h2 h3 h4 h5; simp only [h1, h2, h3, h4, h5, if_false])
    (case zl => assumption)
    (case zb1 => omega)
    (case zb2 => (try push_cast); omega)
  · intro a b c d e nx h' tk' hst F N
    obtain ⟨ps, vs1, us, k1, k2, at1, t2, n2, T, rfl, hg, rfl, hD, hS, o1, o2, o3, o4, b1, b2⟩ := hst
    dsimp only [five] at F
    have hvl : vs1.length ≤ 4 := by rw [hD.length, List.length_map]; omega
    k_steps
    refine' join_listC (News.isList (by k_asm) (by k_mem)) hS (by decide) ?hok ?_
    case hok => exact ok_set hg q4
    intro t' k'
    rw [lit_comma, join_sets]
    k_steps
    refine' RetC.intro (news_sub (N := ?zN1) so_sub) (news_sub (N := ?zN2) so_sub) ⟨_, _, at1, _, _, _, _, ps, rfl, rfl, .tuple (.head _) (hD.mono fun q hq => .tail _ hq), hg, q1, q4, by omega, by omega, all_cons ?zs o1, all_cons ?zc o2, ?zp, ?zq⟩
    (case zN1 => k_asm)
    (case zN2 => k_asm)
    (case zs => refine neN ?_; (try dsimp only); omega)
    (case zc => refine neN ?_; (try dsimp only); omega)
    (case zp => refine neN ?_; (try dsimp only); omega)
    (case zq => refine neN ?_; (try dsimp only); omega)
end
end Mine
end
end
local macro_rules | `(tactic| walk_at "CON") => `(tactic| ((first | apply c_peek | apply c_plain_value_n); walk_at "GO"))
local macro_rules | `(tactic| walk_at "CON") => `(tactic| (apply c_plain_value_a; walk_at "GO"))
namespace Mine
/-- the sign where a run begins -/
theorem peek_run {φ : Int → Bool} {ds cs : List Int} {k : Int} (h0 : 0 ≤ k) (hr : runL φ ds k = cs) (hne : 0 < cs.length) : φ (peekV ds k) = true := by
  unfold runL at hr
  have hd : k.toNat < ds.length := by
    rcases Nat.lt_or_ge k.toNat ds.length with h | h
    · exact h
    · rw [List.drop_eq_nil_of_le h] at hr
      subst hr
      simp at hne
  rw [List.drop_eq_getElem_cons hd] at hr
  have : φ ds[k.toNat] = true := by
    rcases Bool.eq_false_or_eq_true (φ ds[k.toNat]) with h | h
    · exact h
    · rw [List.takeWhile_cons, if_neg (by simp [h])] at hr
      subst hr
      exact absurd hne (by decide)
  unfold peekV
  rw [if_pos (by omega)]
  simpa [List.getD_eq_getElem?_getD, List.getElem?_eq_getElem hd] using this
theorem value_codes {n : Int} (h : isValue n = true) : n ≠ 34 ∧ n ≠ 123 ∧ n ≠ 40 := by
  simp [isValue, isPrint] at h
  omega
section
variable {w : World} {x dx : Addr} {D : Array UInt8} {ds : List Int} {tD t1 t2 : Tok} {k : Int} {tk : Tok} {cs : List Int}
theorem c_value_n (hk : KBw.bInts D = ds) (hc : Asc ds) (hz : ds.length ≤ 100000) (h0 : 0 ≤ k) (h1 : k ≤ 100000) (hlt : @LT.lt Nat _ dx x) (hr : runL isValue ds k = cs) (hne : 0 < cs.length) (hl19 : cs.length ≤ 19) (hfig : ∀ c ∈ cs, 48 ≤ c ∧ c ≤ 57) :
    Con w 546 [.ref x] 70 700 (wireL w x dx D tD t1 t2 k tk) (fun v tl => ∃ tk' t, tl = wireL w x dx D tD t1 t2 (k + cs.length) tk' ∧ v = .int (cs.foldl (fun n c => n * 10 + c - 48) 0) t) := by
  obtain ⟨q1, q2, q3⟩ := value_codes (peek_run h0 hr hne)
  walk_at "ENTER"
  k_steps
  exact RetC.intro (by k_asm) (by k_asm) ⟨_, _, rfl, rfl⟩
theorem c_value_a (hk : KBw.bInts D = ds) (hc : Asc ds) (hz : ds.length ≤ 100000) (h0 : 0 ≤ k) (h1 : k ≤ 100000) (hlt : @LT.lt Nat _ dx x) (hr : runL isValue ds k = cs) (hne : 0 < cs.length) (hnil : cs.map lowerC ≠ [110, 105, 108]) (hall : (cs.all fun x => isFigure x) = false) :
    Con w 546 [.ref x] 70 700 (wireL w x dx D tD t1 t2 k tk) (fun v tl => ∃ tk' a da t t', tl = atomL w a da t (txt cs) t' ++ wireL w x dx D tD t1 t2 (k + cs.length) tk' ∧ @LT.lt Nat _ x da ∧ @LT.lt Nat _ da a ∧ v = .ref a) := by
  obtain ⟨q1, q2, q3⟩ := value_codes (peek_run h0 hr hne)
  walk_at "ENTER"
  k_steps
  exact RetC.intro (by k_asm) (by k_asm) ⟨_, _, _, _, _, rfl, by omega, by omega, rfl⟩
/-- the octets `os` stand at `k`, behind them stands `k'` -/
def Eats (ds : List Int) (k : Int) (os : List Int) (k' : Int) : Prop := matchV ds k os = true ∧ k + (os.length : Int) = k'
/-- the run of `φ` at `k` is `cs`, behind it stands `k'` -/
def Runs (φ : Int → Bool) (ds : List Int) (k : Int) (cs : List Int) (k' : Int) : Prop := runL φ ds k = cs ∧ 0 < cs.length ∧ k + (cs.length : Int) = k'
variable {b : Array UInt8} {os : List Int} {tb : Tok} {k' : Int} {v : Value} {f : Addr} {φ : Int → Bool}
theorem c_skip_e (hk : KBw.bInts D = ds) (hz : ds.length ≤ 100000) (h0 : 0 ≤ k) (h1 : k ≤ 100000) (hlt : @LT.lt Nat _ dx x) (ho : KBw.bInts b = os) (hy : os.length ≤ 100000) (hm : Eats ds k os k') :
    Con w 400 [.ref x, .bytes b tb] 15 150 (wireL w x dx D tD t1 t2 k tk) (fun v tl => ∃ tk', tl = wireL w x dx D tD t1 t2 k' tk' ∧ v = .bool true) := by
  obtain ⟨hm, rfl⟩ := hm
  exact c_skip_y hk hz h0 h1 hlt ho hy hm
theorem c_need_e (hk : KBw.bInts D = ds) (hz : ds.length ≤ 100000) (h0 : 0 ≤ k) (h1 : k ≤ 100000) (hlt : @LT.lt Nat _ dx x) (ho : KBw.bInts b = os) (hy : os.length ≤ 100000) (hm : Eats ds k os k') :
    Con w 407 [.ref x, .bytes b tb, v] 25 250 (wireL w x dx D tD t1 t2 k tk) (fun v tl => ∃ tk', tl = wireL w x dx D tD t1 t2 k' tk' ∧ v = .none) := by
  obtain ⟨hm, rfl⟩ := hm
  exact c_need hk hz h0 h1 hlt ho hy hm
theorem c_word_e (hf : keepIn (Mine.k0.heap_1 w.params) (.ref f) = true) (hφ : ∀ n t, 0 ≤ n → n < 256 → ConV w f [.int n t] 35 350 (fun _ => .bool (φ n))) (hk : KBw.bInts D = ds) (hc : Asc ds) (hz : ds.length ≤ 100000) (h0 : 0 ≤ k) (h1 : k ≤ 100000) (hlt : @LT.lt Nat _ dx x) (hr : Runs φ ds k cs k') :
    Con w 435 [.ref x, .ref f, v] 60 600 (wireL w x dx D tD t1 t2 k tk) (fun v tl => ∃ tk' t, tl = wireL w x dx D tD t1 t2 k' tk' ∧ v = .str (txt cs) t) := by
  obtain ⟨hr, hne, rfl⟩ := hr
  exact c_word_of hf hφ hk hc hz h0 h1 hlt hr hne
theorem c_run_e (hf : keepIn (Mine.k0.heap_1 w.params) (.ref f) = true) (hφ : ∀ n t, 0 ≤ n → n < 256 → ConV w f [.int n t] 35 350 (fun _ => .bool (φ n))) (hk : KBw.bInts D = ds) (hc : Asc ds) (hz : ds.length ≤ 100000) (h0 : 0 ≤ k) (h1 : k ≤ 100000) (hlt : @LT.lt Nat _ dx x) (hr : Runs φ ds k cs k') :
    Con w 428 [.ref x, .ref f] 45 450 (wireL w x dx D tD t1 t2 k tk) (fun v tl => ∃ tk' b t, tl = wireL w x dx D tD t1 t2 k' tk' ∧ v = .bytes b t ∧ KBw.bInts b = cs) := by
  obtain ⟨hr, hne, rfl⟩ := hr
  exact c_run2 hf hφ hk hc hz h0 h1 hlt hr
end
end Mine
local macro_rules | `(tactic| walk_at "CON") => `(tactic| (apply c_skip_e; walk_at "GO"))
local macro_rules | `(tactic| walk_at "CON") => `(tactic| ((first | apply c_need_e | apply c_word_e | apply c_run_e); walk_at "GO"))
namespace Mine
section
variable {w : World} {x dx : Addr} {D : Array UInt8} {ds : List Int} {tD t1 t2 : Tok} {k k' : Int} {tk : Tok} {cs : List Int}
theorem c_space (hk : KBw.bInts D = ds) (hz : ds.length ≤ 100000) (h0 : 0 ≤ k) (h1 : k ≤ 100000) (hlt : @LT.lt Nat _ dx x) (hm : Eats ds k [32] k') :
    Con w 414 [.ref x] 35 350 (wireL w x dx D tD t1 t2 k tk) (fun v tl => ∃ tk', tl = wireL w x dx D tD t1 t2 k' tk' ∧ v = .none) := by
  walk_at "ENTER"
  k_steps
  exact RetC.intro (by k_asm) (by k_asm) ⟨_, rfl, rfl⟩
theorem fits_name (w : World) : ∀ n t, 0 ≤ n → n < 256 → ConV w 693 [.int n t] 35 350 (fun _ => .bool (isName n)) := fun n t h0 h1 =>
  fun dp un gd env outer A₀ base h₀ L m rest s loose mean mg mb R a1 a2 a3 a4 => c_is_name_code w n t h0 h1 dp un gd env outer A₀ base h₀ L m rest s loose mean mg mb R a1 a2 (by omega) (by omega)
theorem fits_text (w : World) : ∀ n t, 0 ≤ n → n < 256 → ConV w 700 [.int n t] 35 350 (fun _ => .bool (isText n)) := fun n t h0 h1 =>
  fun dp un gd env outer A₀ base h₀ L m rest s loose mean mg mb R a1 a2 a3 a4 => c_is_text_code w n t dp un gd env outer A₀ base h₀ L m rest s loose mean mg mb R a1 a2 (by omega) (by omega)
theorem c_wire_word (hk : KBw.bInts D = ds) (hc : Asc ds) (hz : ds.length ≤ 100000) (h0 : 0 ≤ k) (h1 : k ≤ 100000) (hlt : @LT.lt Nat _ dx x) (hr : Runs isName ds k cs k') :
    Con w 707 [.ref x] 70 700 (wireL w x dx D tD t1 t2 k tk) (fun v tl => ∃ tk' t, tl = wireL w x dx D tD t1 t2 k' tk' ∧ v = .str (txt cs) t) := by
  have hf : keepIn (Mine.k0.heap_1 w.params) (.ref 693) = true := by k_dflt k_is
  have hφ := fits_name w
  walk_at "ENTER"
  k_steps
  exact RetC.intro (by k_asm) (by k_asm) ⟨_, _, rfl, rfl⟩
end
end Mine
local macro_rules | `(tactic| walk_at "CON") => `(tactic| (apply c_skip_n; walk_at "GO"))
namespace Mine
theorem getD_map {α β : Type} {cs : List α} {i : Nat} {n : α} {f : α → β} {d : β} (h : cs[i]? = some n) : (cs.map f).getD i d = f n := by simp [List.getD_eq_getElem?_getD, h]
section
variable {w : World} {x dx : Addr} {D : Array UInt8} {ds : List Int} {tD t1 t2 : Tok} {k k' : Int} {tk : Tok} {cs : List Int}
theorem c_done (hk : KBw.bInts D = ds) (hz : ds.length ≤ 100000) (h0 : 0 ≤ k) (h1 : k = ds.length) (hlt : @LT.lt Nat _ dx x) (hm : matchV ds k [13, 10] = false) :
    Con w 421 [.ref x] 25 250 (wireL w x dx D tD t1 t2 k tk) (fun v tl => ∃ tk', tl = wireL w x dx D tD t1 t2 k tk' ∧ v = .none) := by
  walk_at "ENTER"
  k_steps
  exact RetC.intro (by k_asm) (by k_asm) ⟨_, rfl, rfl⟩
local macro_rules | `(tactic| walk_at "eval ListComp") => `(tactic| walk_at "LCB")
theorem c_rest_text (hk : KBw.bInts D = ds) (hc : Asc ds) (hz : ds.length ≤ 100000) (h0 : 0 ≤ k) (h1 : k ≤ 100000) (hlt : @LT.lt Nat _ dx x) (hr : Runs isText ds k [100, 111, 110, 101] k') :
    Con w 764 [.ref x] 70 700 (wireL w x dx D tD t1 t2 k tk) (fun v tl => ∃ tk' t, tl = wireL w x dx D tD t1 t2 k' tk' ∧ v = .str (Str.ofString "done") t) := by
  have hf : keepIn (Mine.k0.heap_1 w.params) (.ref 700) = true := by k_dflt k_is
  have hφ := fits_text w
  walk_at "ENTER"
  k_steps
  refine SrcB.intro (fun i y => ∃ t, y = .str ((([100, 111, 110, 101] : List Int).map fun c => (⟨#[c.toNat]⟩ : Str)).getD i Str.empty) t) (by rfl) (by k_asm) (by k_asm) (by rw [sizeLine_eq, ← KBw.ints_length, ‹KBw.bInts _ = [100, 111, 110, 101]›]; decide) (fun i n u I oI C oC D m₂ ys h tk E' hi hn h0 h1 hC hx F N => ?_) (fun ys D h tk hl hg F N o1 => ?_)
  · k_steps
    rw [‹KBw.bInts _ = [100, 111, 110, 101]›] at hn
    exact CompEl.intro (by k_asm) (by k_asm) ⟨_, by rw [getD_map hn]⟩
  · have hS : StrsAre ys (([100, 111, 110, 101] : List Int).map fun c => (⟨#[c.toNat]⟩ : Str)) := strs_of (by rw [hl, ← KBw.ints_length, ‹KBw.bInts _ = [100, 111, 110, 101]›]; rfl) hg
    k_steps
    refine' join_listC (News.isList (by k_asm) (by k_mem)) hS (by decide) ?hok ?_
    case hok => decide
    intro t' k
    rw [show Txt.join (Str.ofString "") (([100, 111, 110, 101] : List Int).map fun c => (⟨#[c.toNat]⟩ : Str)) = Str.ofString "done" from by decide +kernel]
    k_steps
    exact RetC.intro (news_sub (by k_asm) fun p hp => .tail _ hp) (news_sub (by k_asm) fun p hp => .tail _ hp) ⟨_, _, rfl, rfl⟩
end
end Mine
namespace Mine
section
variable {w : World}
local macro_rules | `(tactic| walk_at "eval ListComp") => `(tactic| walk_at "LCT")
local macro_rules | `(tactic| walk_at "no such key") => `(tactic| skip)
theorem c_upper_OK {X : Str} {t : Tok} (hX : X.cps = #[79, 75]) : ConV w 230 [.str X t] 15 150 (fun t => .str (Str.ofString "OK") t) := by
  walk_at "ENTER"
  k_steps
  refine SrcT.intro (fun i y => ∃ t, y = .str ((([79, 75] : List Int).map fun c => (⟨#[c.toNat]⟩ : Str)).getD i Str.empty) t) (by rfl) (by k_asm) (by k_asm) (by rw [hX]; decide) (fun i c u I oI C oC D m₂ ys h tk E' hi hn hC hx F N => ?_) (fun ys D h tk hl hg F N o1 => ?_)
  · rw [hX] at hn hi
    have : i = 0 ∨ i = 1 := by simp at hi; omega
    rcases this with rfl | rfl
    · cases hn
      k_steps
      exact CompEl.intro (by k_asm) (by k_asm) ⟨_, rfl⟩
    · cases hn
      k_steps
      exact CompEl.intro (by k_asm) (by k_asm) ⟨_, rfl⟩
  · have hS : StrsAre ys (([79, 75] : List Int).map fun c => (⟨#[c.toNat]⟩ : Str)) := strs_of (by rw [hl, hX]; rfl) hg
    k_steps
    refine' join_listC (News.isList (by k_asm) (by k_mem)) hS (by decide) ?hok ?_
    case hok => decide
    intro t' k
    rw [show Txt.join (Str.ofString "") (([79, 75] : List Int).map fun c => (⟨#[c.toNat]⟩ : Str)) = Str.ofString "OK" from by decide +kernel]
    k_steps
    exact retS rfl
theorem c_upper_ok {X : Str} {t : Tok} (hX : X.cps = #[111, 107]) : ConV w 230 [.str X t] 15 150 (fun t => .str (Str.ofString "OK") t) := by
  walk_at "ENTER"
  k_steps
  refine SrcT.intro (fun i y => ∃ t, y = .str ((([79, 75] : List Int).map fun c => (⟨#[c.toNat]⟩ : Str)).getD i Str.empty) t) (by rfl) (by k_asm) (by k_asm) (by rw [hX]; decide) (fun i c u I oI C oC D m₂ ys h tk E' hi hn hC hx F N => ?_) (fun ys D h tk hl hg F N o1 => ?_)
  · rw [hX] at hn hi
    have : i = 0 ∨ i = 1 := by simp at hi; omega
    rcases this with rfl | rfl
    · cases hn
      k_steps
      exact CompEl.intro (by k_asm) (by k_asm) ⟨_, rfl⟩
    · cases hn
      k_steps
      exact CompEl.intro (by k_asm) (by k_asm) ⟨_, rfl⟩
  · have hS : StrsAre ys (([79, 75] : List Int).map fun c => (⟨#[c.toNat]⟩ : Str)) := strs_of (by rw [hl, hX]; rfl) hg
    k_steps
    refine' join_listC (News.isList (by k_asm) (by k_mem)) hS (by decide) ?hok ?_
    case hok => decide
    intro t' k
    rw [show Txt.join (Str.ofString "") (([79, 75] : List Int).map fun c => (⟨#[c.toNat]⟩ : Str)) = Str.ofString "OK" from by decide +kernel]
    k_steps
    exact retS rfl
theorem c_lower_OK {X : Str} {t : Tok} (hX : X.cps = #[79, 75]) : ConV w 225 [.str X t] 15 150 (fun t => .str (Str.ofString "ok") t) := by
  walk_at "ENTER"
  k_steps
  refine SrcT.intro (fun i y => ∃ t, y = .str ((([111, 107] : List Int).map fun c => (⟨#[c.toNat]⟩ : Str)).getD i Str.empty) t) (by rfl) (by k_asm) (by k_asm) (by rw [hX]; decide) (fun i c u I oI C oC D m₂ ys h tk E' hi hn hC hx F N => ?_) (fun ys D h tk hl hg F N o1 => ?_)
  · rw [hX] at hn hi
    have : i = 0 ∨ i = 1 := by simp at hi; omega
    rcases this with rfl | rfl
    · cases hn
      k_steps
      exact CompEl.intro (by k_asm) (by k_asm) ⟨_, rfl⟩
    · cases hn
      k_steps
      exact CompEl.intro (by k_asm) (by k_asm) ⟨_, rfl⟩
  · have hS : StrsAre ys (([111, 107] : List Int).map fun c => (⟨#[c.toNat]⟩ : Str)) := strs_of (by rw [hl, hX]; rfl) hg
    k_steps
    refine' join_listC (News.isList (by k_asm) (by k_mem)) hS (by decide) ?hok ?_
    case hok => decide
    intro t' k
    rw [show Txt.join (Str.ofString "") (([111, 107] : List Int).map fun c => (⟨#[c.toNat]⟩ : Str)) = Str.ofString "ok" from by decide +kernel]
    k_steps
    exact retS rfl
end
end Mine
local macro_rules | `(tactic| walk_at "CON") => `(tactic| ((first | apply c_space | apply c_done | apply c_wire_word | apply c_rest_text); walk_at "GO"))
local macro_rules | `(tactic| walk_at "CONV") => `(tactic| (apply c_upper_OK; walk_at "GO"))
local macro_rules | `(tactic| walk_at "CONV") => `(tactic| (apply c_upper_ok; walk_at "GO"))
local macro_rules | `(tactic| walk_at "CONV") => `(tactic| (apply c_lower_OK; walk_at "GO"))
namespace Mine
/-- a number | an atom stands at `k` -/
def NumAt (ds : List Int) (k n k' : Int) : Prop := ∃ cs, Runs isValue ds k cs k' ∧ cs.length ≤ 19 ∧ (∀ c ∈ cs, 48 ≤ c ∧ c ≤ 57) ∧ n = cs.foldl (fun n c => n * 10 + c - 48) 0
def AtmAt (ds : List Int) (k : Int) (T : Str) (k' : Int) : Prop := ∃ cs, Runs isValue ds k cs k' ∧ cs.map lowerC ≠ [110, 105, 108] ∧ (cs.all fun x => isFigure x) = false ∧ T = txt cs
section
variable {w : World} {x dx : Addr} {D : Array UInt8} {ds : List Int} {tD t1 t2 : Tok} {k k' n : Int} {tk : Tok} {cs : List Int} {T : Str}
theorem c_value_N (hk : KBw.bInts D = ds) (hc : Asc ds) (hz : ds.length ≤ 100000) (h0 : 0 ≤ k) (h1 : k ≤ 100000) (hlt : @LT.lt Nat _ dx x) (h : NumAt ds k n k') :
    Con w 546 [.ref x] 70 700 (wireL w x dx D tD t1 t2 k tk) (fun v tl => ∃ tk' t, tl = wireL w x dx D tD t1 t2 k' tk' ∧ v = .int n t) := by
  obtain ⟨cs, ⟨hr, hne, rfl⟩, h19, hf, rfl⟩ := h
  exact c_value_n hk hc hz h0 h1 hlt hr hne h19 hf
theorem c_value_A (hk : KBw.bInts D = ds) (hc : Asc ds) (hz : ds.length ≤ 100000) (h0 : 0 ≤ k) (h1 : k ≤ 100000) (hlt : @LT.lt Nat _ dx x) (h : AtmAt ds k T k') :
    Con w 546 [.ref x] 70 700 (wireL w x dx D tD t1 t2 k tk) (fun v tl => ∃ tk' a da t t', tl = atomL w a da t T t' ++ wireL w x dx D tD t1 t2 k' tk' ∧ @LT.lt Nat _ x da ∧ @LT.lt Nat _ da a ∧ v = .ref a) := by
  obtain ⟨cs, ⟨hr, hne, rfl⟩, h19, hf, rfl⟩ := h
  exact c_value_a hk hc hz h0 h1 hlt hr hne h19 hf
end
end Mine
local macro_rules | `(tactic| walk_at "CON") => `(tactic| (apply c_value_N; walk_at "GO"))
local macro_rules | `(tactic| walk_at "CON") => `(tactic| (apply c_value_A; walk_at "GO"))
namespace Mine
section
variable {w : World} {x dx : Addr} {D : Array UInt8} {ds : List Int} {tD t1 t2 : Tok} {k k' n : Int} {tk : Tok} {cs : List Int} {T : Str}
theorem c_flags_N (hk : KBw.bInts D = ds) (hc : Asc ds) (hz : ds.length ≤ 100000) (h0 : 0 ≤ k) (h1 : k ≤ 100000) (hlt : @LT.lt Nat _ dx x) (h : NumAt ds k n k') :
    Con w 726 [.ref x, .bool false] 80 800 (wireL w x dx D tD t1 t2 k tk) (fun v tl => ∃ tk' t, tl = wireL w x dx D tD t1 t2 k' tk' ∧ v = .int n t) := by
  walk_at "ENTER"
  k_steps
  exact RetC.intro (by k_asm) (by k_asm) ⟨_, _, rfl, rfl⟩
theorem c_flags_A (hk : KBw.bInts D = ds) (hc : Asc ds) (hz : ds.length ≤ 100000) (h0 : 0 ≤ k) (h1 : k ≤ 100000) (hlt : @LT.lt Nat _ dx x) (h : AtmAt ds k T k') :
    Con w 726 [.ref x, .bool false] 80 800 (wireL w x dx D tD t1 t2 k tk) (fun v tl => ∃ tk' a da t t', tl = atomL w a da t T t' ++ wireL w x dx D tD t1 t2 k' tk' ∧ @LT.lt Nat _ x da ∧ @LT.lt Nat _ da a ∧ v = .ref a) := by
  walk_at "ENTER"
  k_steps
  exact RetC.intro (by k_asm) (by k_asm) ⟨_, _, _, _, _, rfl, by omega, by omega, rfl⟩
end
end Mine
namespace Mine
inductive Wo where
  | num (n : Int)
  | atm (T : Str)
def woL (w : World) (q : Wo) (a da : Addr) (t t' : Tok) : List (Addr × Obj) := match q with
  | .num _ => []
  | .atm T => atomL w a da t T t'
def woV (q : Wo) (a : Addr) (t : Tok) : Value := match q with
  | .num n => .int n t
  | .atm _ => .ref a
def WoAt (ds : List Int) (k : Int) (q : Wo) (k' : Int) : Prop := match q with
  | .num n => NumAt ds k n k'
  | .atm T => AtmAt ds k T k'
def tupObj (vs : Array Value) : Obj := { cls := Value.type "tuple", data := Data.seq vs }
/-- an answer with a code: the tuple, the code's list, the atoms -/
def AnsIs (w : World) (q1 q2 : Wo) (v : Value) (l : List (Addr × Obj)) : Prop :=
  ∃ (T C a0 d0 a1 d1 a2 d2 : Addr) (oT oC : Obj) (e1 e2 e3 e4 e5 e6 e7 e8 f1 f2 f3 f4 : Tok) (n : Nat), v = .ref T ∧ oT = tupObj #[.str (Str.ofString "ok") e1, .str (Str.ofString "t") e2, .ref C, .str (Str.ofString "done") e3] ∧
    oC = W.listOf #[.ref a0, .int 7 e4, woV q1 a1 e5, woV q2 a2 e6] n ∧ l = (T, oT) :: (C, oC) :: (atomL w a0 d0 e7 (Str.ofString "COPYUID") e8 ++ (woL w q1 a1 d1 f1 f2 ++ woL w q2 a2 d2 f3 f4))
section
variable {w : World} {x dx : Addr} {D : Array UInt8} {ds : List Int} {tD t1 t2 : Tok} {k k' k1 k2 : Int} {tk : Tok} {T : Str} {tt tw : Tok} {q q1 q2 : Wo}
theorem c_flags_W (hk : KBw.bInts D = ds) (hc : Asc ds) (hz : ds.length ≤ 100000) (h0 : 0 ≤ k) (h1 : k ≤ 100000) (hlt : @LT.lt Nat _ dx x) (h : WoAt ds k q k') :
    Con w 726 [.ref x, .bool false] 80 800 (wireL w x dx D tD t1 t2 k tk) (fun v tl => ∃ tk' a da t f1 f2, tl = woL w q a da f1 f2 ++ wireL w x dx D tD t1 t2 k' tk' ∧ v = woV q a t ∧ ∀ y ∈ woL w q a da f1 f2, y.1 ≠ x ∧ y.1 ≠ dx) := by
  cases q with
  | num n =>
    refine (c_flags_N hk hc hz h0 h1 hlt h).mono fun v tl p => ?_
    obtain ⟨a, b, c, d⟩ := p
    exact ⟨a, 0, 0, b, 0, 0, c, d, fun _ h => nomatch h⟩
  | atm T =>
    refine (c_flags_A hk hc hz h0 h1 hlt h).mono fun v tl p => ?_
    obtain ⟨a, b, c, d, e, f, g, i, j⟩ := p
    exact ⟨a, b, c, 0, d, e, f, j, all_cons ⟨Nat.ne_of_gt (Nat.lt_trans g i), Nat.ne_of_gt (Nat.lt_trans hlt (Nat.lt_trans g i))⟩ (all_cons ⟨Nat.ne_of_gt g, Nat.ne_of_gt (Nat.lt_trans hlt g)⟩ all_nil)⟩
end
end Mine
namespace Mine
theorem flags_turn {w : World} {x dx C : Addr} {oC : Obj} {U news : List (Addr × Obj)} {D : Array UInt8} {ds : List Int} {tD t1 t2 : Tok} {k k' : Int} {tk : Tok} {q : Wo} {A A₀ : Around} {env : Env} {outer : List Env} {base h₀ : Heap} {L : Addr} {m : Str → Option Value} {s : Shared} {loose : List Str} {mean : ExcName → Option Value} {mg mb : Str → Option Value} {Q E : Value → Shared → Prop}
    (hk : KBw.bInts D = ds) (hc : Asc ds) (hz : ds.length ≤ 100000) (h0 : 0 ≤ k) (h1 : k ≤ 100000) (hlt : @LT.lt Nat _ dx x) (h : WoAt ds k q k') (H : Here w A 80 800 env outer A₀ base h₀ L m s.heap news loose mean mg mb)
    (hw : ∀ p ∈ wireL w x dx D tD t1 t2 k tk, p ∈ news) (hC : (C, oC) ∈ news) (hU : ∀ p ∈ U, p ∈ news) (cx : C ≠ x) (cd : C ≠ dx) (ux : ∀ y ∈ U, y.1 ≠ x) (ud : ∀ y ∈ U, y.1 ≠ dx) (uc : ∀ y ∈ U, y.1 ≠ C)
    (hret : ∀ a da t f1 f2 tk' U' h' tk9, Fr h₀ L h' m → News h₀ L h' ((x, instObj 549 dx) :: (dx, dictOf [⟨PyData.keyHash w.params (Str.ofString "data"), .str (Str.ofString "data") t1, .bytes D tD⟩, ⟨PyData.keyHash w.params (Str.ofString "at"), .str (Str.ofString "at") t2, .int k' tk'⟩] 2) :: (C, oC) :: U') →
      (∀ y ∈ U', y.1 ≠ x) → (∀ y ∈ U', y.1 ≠ dx) → (∀ y ∈ U', y.1 ≠ C) → (∀ p ∈ U, p ∈ U') → (∀ p ∈ woL w q a da f1 f2, p ∈ U') → Q (woV q a t) { s with heap := h', toks := tk9 }) :
    wpAny (model PR w) A (call (.ref 726) [.ref x, .bool false]) Q E s :=
  Con.call (rest := (C, oC) :: U) (c_flags_W hk hc hz h0 h1 hlt h) H hw ⟨all_cons hC hU, all_cons (all_cons cx (all_cons cd all_nil)) fun y hy => all_cons (ux y hy) (all_cons (ud y hy) all_nil)⟩ fun v tl h' tk9 F N dd p => by
    obtain ⟨tk', a, da, t, f1, f2, rfl, rfl, off⟩ := p
    refine hret a da t f1 f2 tk' (woL w q a da f1 f2 ++ U) h' tk9 F (news_sub N fun p hp => ?_) ?_ ?_ ?_ (fun p hp => List.mem_append_right _ hp) fun p hp => List.mem_append_left _ hp
    · simp only [List.mem_cons, List.mem_append] at hp ⊢
      rcases hp with h | h | h | h | h <;> simp [h]
    · exact fun y hy => (List.mem_append.mp hy).elim (fun h => (off y h).1) (ux y)
    · exact fun y hy => (List.mem_append.mp hy).elim (fun h => (off y h).2) (ud y)
    · exact fun y hy => (List.mem_append.mp hy).elim (fun h e => dd (C, oC) (.head _) y (List.mem_append_left _ h) e.symm) (uc y)
theorem ans_all {w : World} {q1 q2 : Wo} {T C a0 d0 a1 d1 a2 d2 x dx : Addr} {ox od oT oC : Obj} {e1 e2 e3 e4 e5 e6 e7 e8 f1 f2 f3 f4 : Tok} {n : Nat} {U : List (Addr × Obj)} (hT : oT = tupObj #[.str (Str.ofString "ok") e1, .str (Str.ofString "t") e2, .ref C, .str (Str.ofString "done") e3])
    (hC : oC = W.listOf #[.ref a0, .int 7 e4, woV q1 a1 e5, woV q2 a2 e6] n) (sa : ∀ p ∈ atomL w a0 d0 e7 (Str.ofString "COPYUID") e8, p ∈ U) (s1 : ∀ p ∈ woL w q1 a1 d1 f1 f2, p ∈ U) (s2 : ∀ p ∈ woL w q2 a2 d2 f3 f4, p ∈ U)
    (tx : T ≠ x) (td : T ≠ dx) (cx : C ≠ x) (cd : C ≠ dx) (ux : ∀ y ∈ U, y.1 ≠ x) (ud : ∀ y ∈ U, y.1 ≠ dx) :
    ∃ l, (∀ p ∈ (x, ox) :: (dx, od) :: l, p ∈ (T, oT) :: (x, ox) :: (dx, od) :: (C, oC) :: U) ∧ AnsIs w q1 q2 (.ref T) l ∧ (∀ y ∈ l, y.1 ≠ x) ∧ ∀ y ∈ l, y.1 ≠ dx := by
  have key : ∀ P : Addr × Obj → Prop, P (T, oT) → P (C, oC) → (∀ y ∈ U, P y) → ∀ y ∈ (T, oT) :: (C, oC) :: (atomL w a0 d0 e7 (Str.ofString "COPYUID") e8 ++ (woL w q1 a1 d1 f1 f2 ++ woL w q2 a2 d2 f3 f4)), P y := fun P p1 p2 p3 =>
    all_cons p1 (all_cons p2 fun y hy => p3 y ((List.mem_append.mp hy).elim (sa y) fun hy => (List.mem_append.mp hy).elim (s1 y) (s2 y)))
  refine ⟨_, all_cons (by simp) (all_cons (by simp) (key _ (by simp) (by simp) fun y hy => by simp [hy])), ⟨T, C, a0, d0, a1, d1, a2, d2, oT, oC, e1, e2, e3, e4, e5, e6, e7, e8, f1, f2, f3, f4, n, rfl, hT, hC, rfl⟩, key _ tx cx ux, key _ td cd ud⟩
theorem status_end {w : World} {q1 q2 : Wo} {T C a0 d0 a1 d1 a2 d2 x dx L L₁ : Addr} {s : Shared} {h₀ g h' h₁ : Heap} {ox oT oC : Obj} {od : Tok → Obj} {tk : Tok} {tks : Nat} {e1 e2 e3 e4 e5 e6 e7 e8 f1 f2 f3 f4 : Tok} {n : Nat} {U : List (Addr × Obj)} (N : News h₀ L h' ((T, oT) :: (x, ox) :: (dx, od tk) :: (C, oC) :: U)) (N' : News g L₁ h₁ ((T, oT) :: (x, ox) :: (dx, od tk) :: (C, oC) :: U))
    (hT : oT = tupObj #[.str (Str.ofString "ok") e1, .str (Str.ofString "t") e2, .ref C, .str (Str.ofString "done") e3])
    (hC : oC = W.listOf #[.ref a0, .int 7 e4, woV q1 a1 e5, woV q2 a2 e6] n) (sa : ∀ p ∈ atomL w a0 d0 e7 (Str.ofString "COPYUID") e8, p ∈ U) (s1 : ∀ p ∈ woL w q1 a1 d1 f1 f2, p ∈ U) (s2 : ∀ p ∈ woL w q2 a2 d2 f3 f4, p ∈ U)
    (tx : T ≠ x) (td : T ≠ dx) (cx : C ≠ x) (cd : C ≠ dx) (ux : ∀ y ∈ U, y.1 ≠ x) (ud : ∀ y ∈ U, y.1 ≠ dx) :
    RetC s h₀ L g (fun v tl => ∃ tk' l, tl = (x, ox) :: (dx, od tk') :: l ∧ AnsIs w q1 q2 v l ∧ (∀ y ∈ l, y.1 ≠ x) ∧ ∀ y ∈ l, y.1 ≠ dx) (.ok (.ret (.ref T))) { s with heap := h', toks := tks } := by
  obtain ⟨l, hs, r⟩ := ans_all (ox := ox) (od := od tk) hT hC sa s1 s2 tx td cx cd ux ud
  exact RetC.intro (news_sub N hs) (news_sub N' hs) ⟨tk, l, rfl, r⟩
section
local macro_rules | `(tactic| walk_at "call ref") => `(tactic| ((with_reducible show wpAny _ _ (call (Value.ref 726) _) _ _ _); refine Stop.out ?_))
variable {w : World} {x dx : Addr} {D : Array UInt8} {ds : List Int} {tD t1 t2 : Tok} {k k' k1 k2 : Int} {tk : Tok} {T : Str} {tt tw : Tok} {q q1 q2 : Wo}
theorem c_status (hk : KBw.bInts D = ds) (hc : Asc ds) (hz : ds.length ≤ 100000) (hlt : @LT.lt Nat _ dx x)
    (a1 : Eats ds 4 [32] 5) (a2 : Eats ds 5 [91] 6) (a3 : AtmAt ds 6 (Str.ofString "COPYUID") 13) (a4 : matchV ds 13 [93] = false) (a5 : Eats ds 13 [32] 14) (a6 : NumAt ds 14 7 15)
    (a7 : matchV ds 15 [93] = false) (a8 : Eats ds 15 [32] 16) (a9 : WoAt ds 16 q1 k1) (b1 : matchV ds k1 [93] = false) (b2 : Eats ds k1 [32] (k1 + 1)) (b3 : WoAt ds (k1 + 1) q2 k2)
    (b4 : Eats ds k2 [93] (k2 + 1)) (b5 : Eats ds (k2 + 1) [32] (k2 + 2)) (b6 : Runs isText ds (k2 + 2) [100, 111, 110, 101] (k2 + 6)) (b7 : 0 ≤ k1 ∧ k1 ≤ 1000) (b8 : 0 ≤ k2 ∧ k2 ≤ 2000) :
    Con w 771 [.ref x, .str (txt [116]) tt, .str (Str.ofString "OK") tw] 90 900 (wireL w x dx D tD t1 t2 4 tk) (fun v tl => ∃ tk' l, tl = wireL w x dx D tD t1 t2 (k2 + 6) tk' ++ l ∧ AnsIs w q1 q2 v l ∧ (∀ y ∈ l, y.1 ≠ x) ∧ ∀ y ∈ l, y.1 ≠ dx) := by
  walk_at "ENTER"
  walk1
  k_here
  refine' cut_flo (news := wireL w x dx D tD t1 t2 4 tk) ?F ?N ?h1 ?h2
  (case F => k_asm)
  (case N => k_asm)
  (case h1 =>
    k_steps
    exact ⟨rfl, _, _, rfl, by k_asm, news_sub (by k_asm) (by walk_at "PRE")⟩)
  walk_at "SWEEP"
  intro h' tk' F N
  k_steps
  unfold Stop
  k_here
  refine' flags_turn (q := .num 7) (oC := W.listOf #[.ref _] _) (U := atomL w _ _ _ (Str.ofString "COPYUID") _) hk hc hz (by decide) (by decide) hlt a6 ?H ?hw ?hC ?hU ?cx ?cd ?ux ?ud ?uc ?_
  (case H => walk_at "HERE")
  (case hw => walk_at "PRE")
  (case hU => walk_at "PRE")
  (case hC => k_mem)
  (case cx => refine neN ?_; omega)
  (case cd => refine neN ?_; omega)
  (case ux => exact all_cons (neN (by dsimp only; omega)) (all_cons (neN (by dsimp only; omega)) all_nil))
  (case ud => exact all_cons (neN (by dsimp only; omega)) (all_cons (neN (by dsimp only; omega)) all_nil))
  (case uc => exact all_cons (neN (by dsimp only; omega)) (all_cons (neN (by dsimp only; omega)) all_nil))
  k_whole
  (try (rename Fr _ _ _ _ => F0; clear F0)); (try (rename News _ _ _ _ => N0; clear N0))
  intro aa da ta fa ga tka Ua ha tkb F1 N1 xa dda ca sa wa
  clear wa
  k_steps
  unfold Stop
  k_here
  refine' flags_turn (oC := W.listOf _ _) (U := Ua) hk hc hz ?z0 ?z1 hlt a9 ?H ?hw ?hC ?hU ?cx ?cd ?ux ?ud ?uc ?_
  (case H => walk_at "HERE")
  (case hw => walk_at "PRE")
  (case hU => intro p hp; k_mem)
  (case hC => k_mem)
  (case z0 => omega)
  (case z1 => omega)
  (case cx => refine neN ?_; omega)
  (case cd => refine neN ?_; omega)
  (case ux => assumption)
  (case ud => assumption)
  (case uc => assumption)
  k_whole
  (try (rename Fr _ _ _ _ => F0; clear F0)); (try (rename News _ _ _ _ => N0; clear N0))
  intro a1 d1 t1 f1 g1 tk1 U1 h1 tkk1 F1 N1 x1 y1 c1 s1 w1
  k_steps
  unfold Stop
  k_here
  refine' flags_turn (oC := W.listOf _ _) (U := U1) hk hc hz ?z0 ?z1 hlt b3 ?H ?hw ?hC ?hU ?cx ?cd ?ux ?ud ?uc ?_
  (case H => walk_at "HERE")
  (case hw => walk_at "PRE")
  (case hU => intro p hp; k_mem)
  (case hC => k_mem)
  (case z0 => omega)
  (case z1 => omega)
  (case cx => refine neN ?_; omega)
  (case cd => refine neN ?_; omega)
  (case ux => assumption)
  (case ud => assumption)
  (case uc => assumption)
  k_whole
  (try (rename Fr _ _ _ _ => F0; clear F0)); (try (rename News _ _ _ _ => N0; clear N0))
  intro a2 d2 t2 f2 g2 tk2 U2 h2 tkk2 F2 N2 x2 y2 c2 s2 w2
  k_steps
  refine' status_end ?zN ?zN' rfl rfl (fun p hp => s2 p (s1 p (sa p hp))) (fun p hp => s2 p (w1 p hp)) w2 ?tx ?td ?cx ?cd x2 y2
  (case zN => k_asm)
  (case zN' => k_asm)
  all_goals (refine neN ?_; omega)
end
end Mine
namespace Mine
structure LineAt (ds : List Int) (q1 q2 : Wo) (k1 k2 : Int) : Prop where
  m1 : matchV ds 0 [43, 32] = false
  m2 : matchV ds 0 [42, 32] = false
  m3 : Runs isTag ds 0 [116] 1
  m4 : Eats ds 1 [32] 2
  m5 : Runs isName ds 2 [79, 75] 4
  a1 : Eats ds 4 [32] 5
  a2 : Eats ds 5 [91] 6
  a3 : AtmAt ds 6 (Str.ofString "COPYUID") 13
  a4 : matchV ds 13 [93] = false
  a5 : Eats ds 13 [32] 14
  a6 : NumAt ds 14 7 15
  a7 : matchV ds 15 [93] = false
  a8 : Eats ds 15 [32] 16
  a9 : WoAt ds 16 q1 k1
  b1 : matchV ds k1 [93] = false
  b2 : Eats ds k1 [32] (k1 + 1)
  b3 : WoAt ds (k1 + 1) q2 k2
  b4 : Eats ds k2 [93] (k2 + 1)
  b5 : Eats ds (k2 + 1) [32] (k2 + 2)
  b6 : Runs isText ds (k2 + 2) [100, 111, 110, 101] (k2 + 6)
  b7 : 0 ≤ k1 ∧ k1 ≤ 1000
  b8 : 0 ≤ k2 ∧ k2 ≤ 2000
  d1 : Eats ds (k2 + 6) [13, 10] (k2 + 8)
  d2 : matchV ds (k2 + 8) [13, 10] = false
  d3 : k2 + 8 = (ds.length : Int)
end Mine
local macro_rules | `(tactic| walk_at "CON") => `(tactic| (apply c_status; walk_at "GO"))
namespace Mine
theorem fits_tag (w : World) : ∀ n t, 0 ≤ n → n < 256 → ConV w 329 [.int n t] 35 350 (fun _ => .bool (isTag n)) := fun n t h0 h1 => c_is_tag_code w n t h0 h1
section
variable {w : World} {x dx : Addr} {D : Array UInt8} {ds : List Int} {tD t1 t2 : Tok} {k1 k2 : Int} {q1 q2 : Wo}
local macro_rules | `(tactic| walk_at "no such key") => `(tactic| skip)
theorem c_read_answer (hk : KBw.bInts D = ds) (hc : Asc ds) (hz : ds.length ≤ 100000) (h : LineAt ds q1 q2 k1 k2) :
    Con w 804 [.bytes D tD] 100 1000 [] (fun v tl => AnsIs w q1 q2 v tl) := by
  obtain ⟨m1, m2, m3, m4, m5, a1, a2, a3, a4, a5, a6, a7, a8, a9, b1, b2, b3, b4, b5, b6, b7, b8, d1, d2, d3⟩ := h
  have hf : keepIn (Mine.k0.heap_1 w.params) (.ref 329) = true := by k_dflt k_is
  have hφ := fits_tag w
  walk_at "ENTER"
  k_steps
  exact RetC.intro (news_sub (by k_asm) fun p hp => .tail _ (.tail _ hp)) (news_sub (by k_asm) fun p hp => .tail _ (.tail _ hp)) (by assumption)
end
end Mine
namespace Mine
section
variable {prog : Program} {w : World} {A₀ A : Around} {s : Shared} {base h₀ : Heap} {outer : List Env} {L : Addr} {m : Str → Option Value} {env : Env} {pre rest : List (Addr × Obj)} {K : Frag} {p : Program} {loose : List Str} {mean : ExcName → Option Value} {mg mb : Str → Option Value}
  {R : Result → Shared → Prop} {name qual : Str} {params : Arguments} {body : List Stmt} {scope : Scope} {dV kV doc pm cdv ct oc : Value} {an od : Option Addr} {osl : Array (Option Value)} {f : Addr} {args : Args} {binds : List (Str × Value)} {post : Value → List (Addr × Obj) → Prop}
theorem leave_rest (F : Fr h₀ L s.heap m) (N : News h₀ L s.heap (pre ++ rest)) (D : ∀ x ∈ rest, ∀ y ∈ pre, x.1 ≠ y.1)
    (hret : ∀ v tl h' tk', Fr h₀ L h' m → News h₀ L h' (tl ++ rest) → (∀ x ∈ rest, ∀ y ∈ tl, x.1 ≠ y.1) → post v tl → R (.ok (.ret v)) { s with heap := h', toks := tk' })
    (FG : Fr h₀ L (hideAll s.heap (pre.map (·.1))) m) (st : h₀.StaysIn (hideAll s.heap (pre.map (·.1))))
    (lv : ∀ v s', LeaveK h₀ L m (hideAll s.heap (pre.map (·.1))) (RetC s h₀ L (hideAll s.heap (pre.map (·.1))) post) v s' → RetC s h₀ L (hideAll s.heap (pre.map (·.1))) post (.ok (.ret v)) s')
    {v : Value} {s' : Shared} (hl : LeaveK h₀ L m (hideAll s.heap (pre.map (·.1))) (RetC s h₀ L (hideAll s.heap (pre.map (·.1))) post) v s') : R (.ok (.ret v)) s' := by
  have hr := lv _ _ hl
  obtain ⟨L', m', news', F', N', _⟩ := hl
  obtain ⟨v', tl, h', tk', e1, e2, Nt, ng, hp⟩ := hr
  subst e2
  suffices hs : R (.ok (.ret v')) { s with heap := h', toks := tk' } by rw [← e1] at hs; exact hs
  have inG : ∀ x ∈ rest, (hideAll s.heap (pre.map (·.1))).get? x.1 = some x.2 := fun x hx => by
    refine hideAll_get _ (N x (List.mem_append_right _ hx)).1 fun q => ?_
    obtain ⟨y, hy, e⟩ := List.mem_map.mp q
    exact D x hx y hy e.symm
  have keepG : ∀ x ∈ rest, h'.get? x.1 = some x.2 := fun x hx => F'.keep _ _ (inG x hx)
  obtain ⟨oL, es, ep, hL, hLd, hLk, hLf⟩ := FG.ns
  exact hret v' tl h' tk' ⟨⟨oL, es, ep, F'.keep L oL hL, hLd, hLk, hLf⟩, fun b o e => F'.keep b o (st b o e), F.above⟩
    (fun x hx => (List.mem_append.mp hx).elim (fun hx => Nt x hx) fun hx => ⟨keepG x hx, (N x (List.mem_append_right _ hx)).2⟩) (fun x hx y hy e => by
      have h1 := inG x hx
      rw [e, ng y hy] at h1
      cases h1) hp
theorem code_FC (B : Below A₀ base outer h₀) (F : Fr h₀ L s.heap m) (X₀ : K.In h₀) (N : News h₀ L s.heap (pre ++ rest)) (D : ∀ x ∈ rest, ∀ y ∈ pre, x.1 ≠ y.1) (T : Top p loose mean mg mb h₀) (hA : A.frames = some (env :: outer)) (hf : env.frame = some L) (hke : env.scope.kind = .function)
    (hret : ∀ v tl h' tk', Fr h₀ L h' m → News h₀ L h' (tl ++ rest) → (∀ x ∈ rest, ∀ y ∈ tl, x.1 ≠ y.1) → post v tl → R (.ok (.ret v)) { s with heap := h', toks := tk' })
    (ho : K.lookup f = some ⟨oc, od, .func (fnOf name qual params body scope dV kV doc pm an cdv ct), osl⟩) (hcd : codeIn K cdv qual = true) (hroom : A.depth < recursionLimit)
    (hbind : BindsTo s (fnOf name qual params body scope dV kV doc pm an cdv ct) args binds) (hkind : (binds.all fun y => scope.names.lookup y.1 == some .local || scope.names.lookup y.1 == some .cell) = true)
    (hnd : ((cellsFrom 0 scope.names []).map (·.1)).Nodup)
    (h : ∀ g L' h₁ tk cells, Fr h₀ L g m → Fr g L' h₁ (bindL (envOfC qual scope L' f cdv).kindOf binds fun _ => none) → News g L' h₁ (cells ++ pre) →
      CellsAre (bindC (envOfC qual scope L' f cdv).kindOf binds fun _ => none) (cellsFrom (L' + 1) scope.names []) cells → Below A base (env :: outer) g → K.In g → Top p loose mean mg mb g → (∀ p ∈ pre, p.1 < L') →
      wpAny (model prog w) (A.deeper (envOfC qual scope L' f cdv)) (execs body (envOfC qual scope L' f cdv))
        (fun fl s' => LeaveK h₀ L m g (RetC s h₀ L g post) (match fl with | .ret v => v | _ => .none) s')
        (fun e s' => wpAny (model prog w) (A.deeper (envOfC qual scope L' f cdv)) (leaving (envOfC qual scope L' f cdv) e) (fun _ s'' => R (.error e) s'') (fun e' s'' => R (.error e') s'') s')
        { s with heap := h₁, toks := tk })
    (hco : scope.isCoroutine = false) (hgen : scope.isGenerator = false) (hk : scope.kind = .function) : codeAny (model prog w) A (.call (.ref f) args) R s := by
  have N₁ : News h₀ L s.heap pre := news_sub N fun p hp => List.mem_append_left _ hp
  obtain ⟨FG, BG, st, lv⟩ := groundX (R := RetC s h₀ L (hideAll s.heap (pre.map (·.1))) post) B F N₁ hA hf hke
  have X := X₀.keeps F.keep
  refine codeAny_call_function hroom (X _ _ ho) rfl hco hgen rfl (codeRec_of X hcd) (hbind _ _ _ _ ?_)
  refine wpAny_newFunctionEnv_cells hk (kindsX hkind _) fun env' he s' x => ?_
  subst he
  refine ⟨(T.nolimit.keeps F.keep).keeps x.toInCall.keep, codeAny_func ?_⟩
  obtain ⟨h₁, tk, rfl, _⟩ := x.done
  have hk₁ := x.toInCall.keep
  obtain ⟨cells, NC, Y⟩ := Cl.news (h₀ := s.heap) (Nat.le_refl _) fun n c hm => ⟨x.cell n c (lookup_of_mem_nodup (cellsFrom_names scope.names 0 (s.heap.objs.size + 1) [] [] rfl ▸ hnd) hm), x.above n c hm⟩
  refine wpAny_mono (h _ s.heap.objs.size h₁ tk cells FG ⟨x.toInCall.ns, fun b o e => hk₁ b o (of_hideAll _ e), Nat.le_of_eq (hideAll_size _ _)⟩ (fun p hp => ?_) Y BG (X₀.keeps st) (T.keeps st) (fun p hp => Heap.lt_size (N₁ p hp).1)) (fun fl s' hl => leave_rest F N D hret FG st lv hl) fun _ _ y => y
  rcases List.mem_append.mp hp with hp | hp
  · refine ⟨(NC p hp).1, (NC p hp).2.1, ?_⟩
    cases q : (hideAll s.heap (pre.map (·.1))).get? p.1 with
    | none => rfl
    | some o => have := of_hideAll _ q; rw [(NC p hp).2.2] at this; cases this
  · exact ⟨hk₁ _ _ (N₁ p hp).1, Nat.ne_of_lt (Heap.lt_size (N₁ p hp).1), hideAll_none _ (List.mem_map_of_mem hp)⟩
end
end Mine
local macro_rules | `(tactic| walk_at "ENTERC") => `(tactic| (
  intro dp un gd env outer A₀ base h₀ L m rest s loose mean mg mb R hfr hke hd9 hu9 B F X N D T hret
  k_dflt (
    refine' code_FC B F X N D T rfl hfr hke hret ?k6 ?k7 ?k8 ?k9 ?kB ?kD ?_ ?c3 ?c4 ?c5
    (case k6 => k_is)
    (case k7 => k_is)
    (case k8 => k_room)
    (case k9 => first | exact BindsTo.of_eq rfl | exact binds_K (by k_in) rfl (by k_is) rfl rfl rfl | fail "ENTER: no rule for these arguments")
    (case kD => decide +kernel)
    (case kB => exact rfl)
    (case c3 => exact rfl)
    (case c4 => exact rfl)
    (case c5 => exact rfl)
    k_whole
    clear hret D N F B
    intro g' L' h' tk' cells' FG' F' N' Y' B' X' T' l1
    (try k_lt l1)
    k_cells Y'
    (try simp only [List.cons_append, List.nil_append] at N')
    (try dsimp only)
    (try k_fold))))
namespace Mine
theorem c_text_X {w : World} {X : Str} {cs : List Int} {t : Tok} (hX : X = txt cs) (hc : Asc cs) (hz : cs.length ≤ 100000) : ConV w 240 [.str X t] 15 150 (fun t => .bytes (byteArr cs) t) := by
  subst hX
  exact c_text_octets w cs t hc hz
end Mine
local macro_rules | `(tactic| walk_at "CONV") => `(tactic| (apply c_text_X; walk_at "GO"))
namespace Mine
/-- the signs of a text -/
def codes (s : String) : List Int := s.toList.map fun c => (c.toNat : Int)
theorem ofString_txt (s : String) : Str.ofString s = txt (codes s) := by
  rw [Str.ofString_eq_toList]
  simp [txt, KStt.txt, codes, Function.comp_def]
theorem c_figures_of {w : World} {n : Int} {t : Tok} (h0 : 0 ≤ n) (h1 : n ≤ 4294967295) (hA : Asc (codes (toString n))) (hl : (codes (toString n)).length ≤ 10) : ConV w 364 [.int n t] 25 250 (fun t => .bytes (byteArr (codes (toString n))) t) := by
  have hX := ofString_txt (toString n)
  walk_at "ENTER"
  k_steps
  exact retY rfl
theorem key : ∀ (i : Nat) (a : Str), (signs (Str.ofString "done"))[i]? = some a → a = ⟨#[100]⟩ ∨ a = ⟨#[111]⟩ ∨ a = ⟨#[110]⟩ ∨ a = ⟨#[101]⟩ := by
  intro i a h
  have e : signs (Str.ofString "done") = [⟨#[100]⟩, ⟨#[111]⟩, ⟨#[110]⟩, ⟨#[101]⟩] := by decide +kernel
  rw [e] at h
  have := List.mem_of_getElem? h
  simpa using this
theorem c_checked {w : World} {t : Tok} : ConV w 619 [.str (Str.ofString "done") t] 25 250 (fun t => .bytes #[100, 111, 110, 101] t) := by
  have hX : Str.ofString "done" = txt [100, 111, 110, 101] := by decide +kernel
  have hA : Asc [100, 111, 110, 101] := by intro c hc; simp at hc; omega
  walk_at "ENTER"
  k_steps
  case pz => exact false
  case g1 => rcases key _ _ ‹(signs (Str.ofString "done"))[_]? = some _› with rfl | rfl | rfl | rfl <;> k_steps
  · exact absurd ‹(false : Bool) = true› (by decide)
  · exact retY (by decide +kernel)
end Mine
local macro_rules | `(tactic| walk_at "CONV") => `(tactic| ((first | apply c_checked | apply c_figures_of); walk_at "GO"))
namespace Mine
theorem c_write_N {w : World} {n : Int} {t : Tok} (h0 : 0 ≤ n) (h1 : n ≤ 4294967295) (hA : Asc (codes (toString n))) (hl : (codes (toString n)).length ≤ 10) : ConV w 593 [.int n t] 35 350 (fun t => .bytes (byteArr (codes (toString n))) t) := by
  walk_at "ENTERC"
  k_steps
  exact retY rfl
section
theorem c_write_A {w : World} {a da : Addr} {led : List (Addr × Obj)} {t t' : Tok} {T : Str} {cs : List Int} (ha : (a, instObj 297 da) ∈ led) (hd : (da, dictOf [⟨PyData.keyHash w.params (Str.ofString "text"), .str (Str.ofString "text") t, .str T t'⟩] 1) ∈ led) (hX : T = txt cs) (hA : Asc cs) (hl : cs.length ≤ 100000) :
    Con w 593 [.ref a] 35 350 led (fun v tl => tl = led ∧ ∃ t, v = .bytes (byteArr cs) t) := by
  walk_at "ENTERC"
  k_steps
  exact RetC.intro (news_sub (by k_asm) fun p hp => .tail _ hp) (news_sub (by k_asm) fun p hp => .tail _ hp) ⟨rfl, _, rfl⟩
end
end Mine
namespace Mine
open Builtin
theorem slot_bytes_join : Slot "bytes" "join" "bytes.join" :=
  .of (owner := "bytes") (n := "join") (by rw [typeLookup_type, builtinLookup_eq_fast]; kernel_rfl) (by decide +kernel) (by decide +kernel) (by decide +kernel)
    (by first | exact .inl (by decide +kernel) | exact .inr (by decide +kernel)) (by rw [isSubtype_type]; kernel_rfl)
theorem type_bytes_join : typeOf (.builtin "bytes.join") = pure (.type "method_descriptor") := by show builtinType _ = _; rw [builtinType_eq_fast]; kernel_rfl
theorem entry_bytes_join : entryFor table "bytes.join" = some Builtin.«bytes.join» := entryFor_of_tree (by kernel_rfl)
theorem args_bytes_join_2 (a b : Value) : argsOk "bytes.join" ⟨[a, b], []⟩ := by
  unfold argsOk; rw [signature?_of (id := "bytes.join") (n := ['n', 'i', 'o', 'j']) (o := ['s', 'e', 't', 'y', 'b']) (by kernel_rfl) FB.owner_bytes]; kernel_rfl
section
variable {prog : Program} {w : World} {A : Around} {E : Value → Shared → Prop} {s : Shared}
theorem join_method {M : Model} {b : Array UInt8} {t : Tok} {pl : Sem Bool} {Q : Value × List Value → Shared → Prop} (h : Q (.builtin "bytes.join", [.bytes b t]) s) : wpAny M A (getMethod (.bytes b t) "join" pl) Q E s := by
  with_reducible exact KBd.method_of (.bytes b t) (typeIs_bytes _ _ _) slot_bytes_join type_bytes_join KBd.noRef h
end
theorem take_eq {b : Array UInt8} {t : Tok} {id : String} : Bytes.takeBufferQuiet? id (.bytes b t) 0 = pure (some (b, none)) := by
  unfold Bytes.takeBufferQuiet? Bytes.takeBuffer?
  rw [KBy.special_eq KBy.look_buffer]
  simp only [pure_bind]
  rw [KBy.own_buffer]
  simp only [pure_bind]
  rw [show ((0 : Int) == Bytes.fullReadOnly) = false from rfl, KBy.buffer_eq]
  rfl
theorem wp_for4 {M : Model} {A : Around} {E : Value → Shared → Prop} {s : Shared} {β : Type} {f : Nat → β → Sem (ForInStep β)} {b0 b1 b2 b3 b4 : β} {n : Nat} (hn : n = 4) {Q : β → Shared → Prop}
    (h0 : ∀ Q : ForInStep β → Shared → Prop, Q (.yield b1) s → wpAny M A (f 0 b0) Q E s) (h1 : ∀ Q : ForInStep β → Shared → Prop, Q (.yield b2) s → wpAny M A (f 1 b1) Q E s)
    (h2 : ∀ Q : ForInStep β → Shared → Prop, Q (.yield b3) s → wpAny M A (f 2 b2) Q E s) (h3 : ∀ Q : ForInStep β → Shared → Prop, Q (.yield b4) s → wpAny M A (f 3 b3) Q E s) (h : Q b4 s) : wpAny M A (forIn [:n] b0 f) Q E s := by
  subst hn
  have e : forIn [:4] b0 f = (f 0 b0 >>= fun r => match r with
    | .done b => pure b
    | .yield b => f 1 b >>= fun r => match r with
      | .done b => pure b
      | .yield b => f 2 b >>= fun r => match r with
        | .done b => pure b
        | .yield b => f 3 b >>= fun r => match r with
          | .done b => pure b
          | .yield b => pure b) := by
    simp [List.range'] <;> rfl
  rw [e]
  refine wpAny_bind (h0 _ ?_)
  refine wpAny_bind (h1 _ ?_)
  refine wpAny_bind (h2 _ ?_)
  refine wpAny_bind (h3 _ ?_)
  exact wpAny_pure h
theorem join_let {M : Model} {A : Around} {E : Value → Shared → Prop} {s : Shared} {keep : List Value} {Q : Unit → Shared → Prop} : ∀ {taken : List (Value × Option Value)}, (∀ p ∈ taken, p.2 = none) → Q () s → wpAny M A (Bytes.joinLetGo taken keep) Q E s
  | [], _, h => wpAny_pure h
  | (x, w) :: r, hw, h => by
    have e : w = none := hw (x, w) (.head _)
    subst e
    unfold Bytes.joinLetGo
    refine wpAny_bind (wpAny_letGo ?_)
    exact join_let (fun p hp => hw p (.tail _ hp)) h
theorem meets_join4 {sep b0 b1 b2 b3 : Array UInt8} {t t0 t1 t2 t3 : Tok} {D : Addr} {k : Nat} {o : Obj} :
    Meets («bytes.join» ⟨[.bytes sep t, .ref D], []⟩) (fun _ R s => s.heap.get? D = some o ∧ o.cls = .type "list" ∧ o.data = .seq #[.bytes b0 t0, .bytes b1 t1, .bytes b2 t2, .bytes b3 t3] k ∧
      Bytes.tooLong (#[b0, b1, b2, b3].foldl (· + ·.size) (sep.size * 3)) = false ∧ (Bytes.joined sep [b0, b1, b2, b3]).size ≤ sizeLine ∧ R (.ok (.ret (.bytes (Bytes.joined sep [b0, b1, b2, b3]) s.toks))) { s with toks := s.toks + 1 }) := by
  refine .of_wp fun prog w A R s hS => ?_
  obtain ⟨h1, h2, h3, h4, h5, h⟩ := hS
  have hT : s.TypeIs (.ref D) "list" := ⟨o, h1, h2⟩
  have hj : ∀ {M : Model} {A : Around} {E : Value → Shared → Prop} {Q : Value → Shared → Prop}, Q (.ref D) s → wpAny M A (Bytes.joinItems (.ref D)) Q E s := fun {M A E Q} hq => by
    unfold Bytes.joinItems
    refine wpAny_bind (wpAny_typeOf hT ?_)
    rw [if_pos (by rfl)]
    exact wpAny_pure hq
  unfold «bytes.join» Bytes.joinM
  refine wpAny_bind (wpAny_of_eq (a := (Value.bytes sep t, Value.ref D)) rfl ?_)
  refine wpAny_bind ?_
  show wpAny _ _ (Bytes.joinItems (.ref D)) _ _ _
  refine hj ?_
  refine wpAny_bind (wpAny_seqItems h1 h3 ?_)
  show wpAny _ _ (forIn [:4] _ _ >>= fun r => _) _ _ _
  refine wpAny_bind (wp_for4 rfl (b1 := (#[b0], [(Value.bytes b0 t0, none)])) (b2 := (#[b0, b1], [(Value.bytes b0 t0, none), (Value.bytes b1 t1, none)])) (b3 := (#[b0, b1, b2], [(Value.bytes b0 t0, none), (Value.bytes b1 t1, none), (Value.bytes b2 t2, none)]))
    (b4 := (#[b0, b1, b2, b3], [(Value.bytes b0 t0, none), (Value.bytes b1 t1, none), (Value.bytes b2 t2, none), (Value.bytes b3 t3, none)])) (fun Q hQ => ?_) (fun Q hQ => ?_) (fun Q hQ => ?_) (fun Q hQ => ?_) ?_)
  · refine wpAny_bind (wpAny_seqItems h1 h3 ?_)
    show wpAny _ _ (holding _ _ >>= fun r => _) _ _ _
    refine wpAny_bind (wpAny_holding (wpAny_of_eq take_eq ?_))
    refine wpAny_bind (wpAny_seqItems h1 h3 ?_)
    exact wpAny_pure hQ
  · refine wpAny_bind (wpAny_seqItems h1 h3 ?_)
    show wpAny _ _ (holding _ _ >>= fun r => _) _ _ _
    refine wpAny_bind (wpAny_holding (wpAny_of_eq take_eq ?_))
    refine wpAny_bind (wpAny_seqItems h1 h3 ?_)
    exact wpAny_pure hQ
  · refine wpAny_bind (wpAny_seqItems h1 h3 ?_)
    show wpAny _ _ (holding _ _ >>= fun r => _) _ _ _
    refine wpAny_bind (wpAny_holding (wpAny_of_eq take_eq ?_))
    refine wpAny_bind (wpAny_seqItems h1 h3 ?_)
    exact wpAny_pure hQ
  · refine wpAny_bind (wpAny_seqItems h1 h3 ?_)
    show wpAny _ _ (holding _ _ >>= fun r => _) _ _ _
    refine wpAny_bind (wpAny_holding (wpAny_of_eq take_eq ?_))
    refine wpAny_bind (wpAny_seqItems h1 h3 ?_)
    exact wpAny_pure hQ
  refine wpAny_bind (wpAny_of_eq (a := sep) rfl ?_)
  show wpAny _ _ (if Bytes.tooLong (#[b0, b1, b2, b3].foldl (· + ·.size) (sep.size * 3)) = true then _ else _) _ _ _
  rw [if_neg (by rw [h4]; exact Bool.false_ne_true)]
  refine wpAny_bind (wpAny_mkBytes ?_ h5)
  refine wpAny_bind (wpAny_holding (wpAny_point ?_))
  refine wpAny_bind (join_let (by simp) ?_)
  exact wpAny_pure ⟨_, rfl, h⟩
section
variable {prog : Program} {w : World} {A : Around} {E : Value → Shared → Prop} {s : Shared} {Q : Value → Shared → Prop}
theorem join_bytes4 {sep b0 b1 b2 b3 : Array UInt8} {t t0 t1 t2 t3 : Tok} {D : Addr} {k : Nat} {o : Obj} (h1 : s.heap.get? D = some o) (h2 : o.cls = .type "list") (h3 : o.data = .seq #[.bytes b0 t0, .bytes b1 t1, .bytes b2 t2, .bytes b3 t3] k)
    (h4 : sep.size * 3 + b0.size + b1.size + b2.size + b3.size ≤ 16777216) (h : ∀ t' k, Q (.bytes (b0 ++ sep ++ b1 ++ sep ++ b2 ++ sep ++ b3) t') { s with toks := k }) :
    wpAny (model prog w) A (call (.builtin "bytes.join") [.bytes sep t, .ref D]) Q E s := by
  have e : Bytes.joined sep [b0, b1, b2, b3] = b0 ++ sep ++ b1 ++ sep ++ b2 ++ sep ++ b3 := by
    simp [Bytes.joined, List.zipIdx]
  refine call_meets slot_bytes_join (typeIs_bytes _ _ _) entry_bytes_join (args_bytes_join_2 _ _) meets_join4 ⟨h1, h2, h3, KBy.tooLong_not (by simp; omega), ?_, ?_⟩
  · rw [e, sizeLine_eq]; simp; omega
  · rw [e]; exact h _ _
end
end Mine
local macro_rules | `(tactic| walk_at "getMethod bytes") => `(tactic| (k_here; (with_reducible show wpAny _ _ (getMethod (Value.bytes _ _) (PySem.Str.ofString "join") _) _ _ _); (with_reducible refine join_method ?_)))
namespace Mine
/-- the signs of a worth -/
def woC : Wo → List Int
  | .num n => codes (toString n)
  | .atm T => T.cps.toList.map fun (c : Nat) => (c : Int)
def WoOk : Wo → Prop
  | .num n => 0 ≤ n ∧ n ≤ 4294967295 ∧ Asc (codes (toString n)) ∧ (codes (toString n)).length ≤ 10
  | .atm T => Asc (T.cps.toList.map fun (c : Nat) => (c : Int)) ∧ T.cps.toList.length ≤ 1000
theorem atm_txt (T : Str) : T = txt (T.cps.toList.map fun (c : Nat) => (c : Int)) := by
  obtain ⟨⟨l⟩⟩ := T
  simp [txt, KStt.txt, Function.comp_def]
theorem c_write_Q {w : World} {q : Wo} {a da : Addr} {led : List (Addr × Obj)} {t f1 f2 : Tok} (hq : WoOk q) (hm : ∀ p ∈ woL w q a da f1 f2, p ∈ led) :
    Con w 593 [woV q a t] 35 350 led (fun v tl => tl = led ∧ ∃ t, v = .bytes (byteArr (woC q)) t) := by
  cases q with
  | num n => exact (c_write_N hq.1 hq.2.1 hq.2.2.1 hq.2.2.2).led
  | atm T => exact c_write_A (hm _ (.head _)) (hm _ (.tail _ (.head _))) (atm_txt T) hq.1 (by have := hq.2; simp [woC] at this ⊢; omega)
theorem codes7 : Asc (codes (toString (7 : Int))) ∧ (codes (toString (7 : Int))).length ≤ 10 := by
  have e : codes (toString (7 : Int)) = [55] := by decide +kernel
  rw [e]
  exact ⟨by unfold Asc; decide +kernel, by decide⟩
theorem ascCOPY : Asc (codes "COPYUID") := by
  have e : codes "COPYUID" = [67, 79, 80, 89, 85, 73, 68] := by decide +kernel
  rw [e]
  unfold Asc
  decide +kernel
theorem i4 {α : Type} {a b c d v : α} {i : Nat} (h : (#[a, b, c, d] : Array α)[i]? = some v) : (i = 0 ∧ v = a) ∨ (i = 1 ∧ v = b) ∨ (i = 2 ∧ v = c) ∨ (i = 3 ∧ v = d) := by
  have hi : i < 4 := by
    have := (Array.getElem?_eq_some_iff.mp h).1
    simpa using this
  have hc : i = 0 ∨ i = 1 ∨ i = 2 ∨ i = 3 := by omega
  rcases hc with rfl | rfl | rfl | rfl <;> simp_all
theorem ys4 {ys : List Value} {G : Nat → Value → Prop} (hl : ys.length = 4) (hg : ∀ i y, ys[i]? = some y → G i y) : ∃ y0 y1 y2 y3, ys = [y0, y1, y2, y3] ∧ G 0 y0 ∧ G 1 y1 ∧ G 2 y2 ∧ G 3 y3 := by
  match ys, hl with
  | [a, b, c, d], _ => exact ⟨a, b, c, d, rfl, hg 0 a rfl, hg 1 b rfl, hg 2 c rfl, hg 3 d rfl⟩
theorem woOk_len {q : Wo} (h : WoOk q) : (woC q).length ≤ 1000 := by
  cases q with
  | num n => have := h.2.2.2; simp only [woC]; omega
  | atm T => have := h.2; simpa [woC] using this
theorem woOk_asc {q : Wo} (h : WoOk q) : Asc (woC q) := by
  cases q with
  | num n => exact h.2.2.1
  | atm T => exact h.1
theorem byteArr_append (a b : List Int) : byteArr (a ++ b) = byteArr a ++ byteArr b := by simp [byteArr]
/-- the code between the brackets; the answer's line without its end -/
def coL (q1 q2 : Wo) : List Int := codes "COPYUID" ++ [32] ++ codes (toString (7 : Int)) ++ [32] ++ woC q1 ++ [32] ++ woC q2
def stL (q1 q2 : Wo) : List Int := [116, 32, 79, 75, 32] ++ ([91] ++ coL q1 q2 ++ [93, 32]) ++ [100, 111, 110, 101]
theorem joined_eq {q1 q2 : Wo} : byteArr ([codes "COPYUID", codes (toString (7 : Int)), woC q1, woC q2].getD 0 []) ++ #[32] ++ byteArr ([codes "COPYUID", codes (toString (7 : Int)), woC q1, woC q2].getD 1 []) ++ #[32] ++ byteArr ([codes "COPYUID", codes (toString (7 : Int)), woC q1, woC q2].getD 2 []) ++ #[32] ++ byteArr ([codes "COPYUID", codes (toString (7 : Int)), woC q1, woC q2].getD 3 []) = byteArr (coL q1 q2) := by
  simp only [coL, byteArr_append]
  rfl
theorem coL_len {q1 q2 : Wo} (h1 : WoOk q1) (h2 : WoOk q2) : (coL q1 q2).length ≤ 2100 := by
  have z1 := woOk_len h1
  have z2 := woOk_len h2
  have z3 : (codes "COPYUID").length = 7 := by decide +kernel
  have z4 := codes7.2
  simp only [coL, List.length_append, List.length_cons, List.length_nil]
  omega
section
variable {prog : Program} {w : World} {A : Around} {E : Value → Shared → Prop} {s : Shared} {a b : List Int} {t u : Tok} {Q : Value → Shared → Prop} {X Y : Array UInt8}
theorem add_bA (hx : X = byteArr a) (hy : Y = byteArr b) (hz : a.length + b.length ≤ 100000) (h : ∀ t' tk, Q (.bytes (byteArr (a ++ b)) t') { s with toks := tk }) : wpAny (model prog w) A (binaryOp .Add (.bytes X t) (.bytes Y u)) Q E s := by
  subst hx hy
  refine KBy.add_bytes (by simp only [byteArr_size]; omega) fun t' k => ?_
  rw [← byteArr_append]
  exact h t' k
end
theorem lb91 : (#[91] : Array UInt8) = byteArr [91] := by decide +kernel
theorem lb93 : (#[93, 32] : Array UInt8) = byteArr [93, 32] := by decide +kernel
theorem lbdone : (#[100, 111, 110, 101] : Array UInt8) = byteArr [100, 111, 110, 101] := by decide +kernel
theorem lbcrlf : (#[13, 10] : Array UInt8) = byteArr [13, 10] := by decide +kernel
theorem mem3' {α : Type} {a b c x : α} {l : List α} (h : x ∈ l) : x ∈ a :: b :: c :: l := .tail _ (.tail _ (.tail _ h))
end Mine
local macro_rules | `(tactic| walk_at "LIT") => `(tactic| first | exact lb91 | exact lb93 | exact lbdone | exact lbcrlf)
local macro_rules | `(tactic| walk_at "binaryOp Add bytes bytes") => `(tactic| (k_here; (with_reducible refine' add_bA ?a ?b ?c ?_); (case a => walk_at "LIT"); (case b => walk_at "LIT"); (case c => walk_at "SUM"); intro _ _))
namespace Mine
section
local macro_rules | `(tactic| walk_at "eval ListComp") => `(tactic| walk_at "LCS")
local macro_rules | `(tactic| walk_at "CONR") => `(tactic| (assumption; walk_at "GO"))
theorem c_status_octets {w : World} {T C a0 d0 a1 d1 a2 d2 : Addr} {led : List (Addr × Obj)} {e1 e2 e3 e4 e5 e6 e7 e8 f1 f2 f3 f4 : Tok} {n : Nat} {q1 q2 : Wo} (h1 : WoOk q1) (h2 : WoOk q2)
    (m1 : (T, ({ cls := Value.type "tuple", data := Data.seq #[.str (Str.ofString "ok") e1, .str (Str.ofString "t") e2, .ref C, .str (Str.ofString "done") e3] } : Obj)) ∈ led) (m2 : (C, W.listOf #[.ref a0, .int 7 e4, woV q1 a1 e5, woV q2 a2 e6] n) ∈ led)
    (m3 : (a0, instObj 297 d0) ∈ led) (m4 : (d0, dictOf [⟨PyData.keyHash w.params (Str.ofString "text"), .str (Str.ofString "text") e7, .str (Str.ofString "COPYUID") e8⟩] 1) ∈ led)
    (m5 : ∀ p ∈ woL w q1 a1 d1 f1 f2, p ∈ led) (m6 : ∀ p ∈ woL w q2 a2 d2 f3 f4, p ∈ led) :
    Con w 658 [.ref T] 60 600 led (fun v tl => tl = led ∧ ∃ t, v = .bytes (byteArr (stL q1 q2)) t) := by
  have z1 := woOk_len h1
  have z2 := woOk_len h2
  have z3 : (codes "COPYUID").length = 7 := by decide +kernel
  have z4 := codes7.2
  have z5 := coL_len h1 h2
  have hX : Str.ofString "t" ++ Str.ofString " " ++ Str.ofString "OK" ++ Str.ofString " " = txt [116, 32, 79, 75, 32] := by decide +kernel
  have hA : Asc [116, 32, 79, 75, 32] := by unfold Asc; decide +kernel
  walk_at "ENTER"
  k_steps
  refine SrcS.intro (fun i y => ∃ t, y = .bytes (byteArr (([codes "COPYUID", codes (toString (7 : Int)), woC q1, woC q2] : List (List Int)).getD i [])) t) (by rfl) (by k_asm) (by k_asm) (by k_mem) (.inl rfl) (by rfl) (by rw [sizeLine_eq]; simp) (fun i v I oI C' oC D m₂ ys h tk E' hi hv hC hx F N => ?_) (fun ys D h tk hl2 hg2 F N o1 => ?_)
  · rcases i4 hv with ⟨rfl, rfl⟩ | ⟨rfl, rfl⟩ | ⟨rfl, rfl⟩ | ⟨rfl, rfl⟩
    · have hq := c_write_A (w := w) (led := (I, oI) :: (C', oC) :: (D, LCg.lst ys) :: led) (mem3' m3) (mem3' m4) (ofString_txt "COPYUID") ascCOPY (by decide)
      k_steps
      exact CompEl.intro (by k_asm) (by k_asm) ⟨_, rfl⟩
    · have hq := (c_write_N (w := w) (n := 7) (t := e4) (by decide) (by decide) codes7.1 codes7.2).led (led := (I, oI) :: (C', oC) :: (D, LCg.lst ys) :: led)
      k_steps
      exact CompEl.intro (by k_asm) (by k_asm) ⟨_, rfl⟩
    · have hq := c_write_Q (w := w) (q := q1) (a := a1) (da := d1) (t := e5) (f1 := f1) (f2 := f2) (led := (I, oI) :: (C', oC) :: (D, LCg.lst ys) :: led) h1 (fun p hp => mem3' (m5 p hp))
      k_steps
      exact CompEl.intro (by k_asm) (by k_asm) ⟨_, rfl⟩
    · have hq := c_write_Q (w := w) (q := q2) (a := a2) (da := d2) (t := e6) (f1 := f3) (f2 := f4) (led := (I, oI) :: (C', oC) :: (D, LCg.lst ys) :: led) h2 (fun p hp => mem3' (m6 p hp))
      k_steps
      exact CompEl.intro (by k_asm) (by k_asm) ⟨_, rfl⟩
  · obtain ⟨y0, y1, y2, y3, rfl, ⟨t0, rfl⟩, ⟨t1, rfl⟩, ⟨t2, rfl⟩, ⟨t3, rfl⟩⟩ := ys4 (by simpa using hl2) hg2
    k_steps
    refine join_bytes4 (News.get (by k_asm) (by k_mem)) rfl rfl ?_ fun t' k => ?_
    · simp only [byteArr_size]
      show 3 + (codes "COPYUID").length + (codes (toString (7 : Int))).length + (woC q1).length + (woC q2).length ≤ _
      omega
    rw [joined_eq]
    k_steps
    exact RetC.intro (news_sub (by k_asm) fun p hp => .tail _ hp) (news_sub (by k_asm) fun p hp => .tail _ hp) ⟨rfl, _, rfl⟩
end
end Mine
namespace Mine
section
local macro_rules | `(tactic| walk_at "call ref") => `(tactic| (first | (with_reducible show wpAny _ _ (call (Value.ref 658) _) _ _ _) | (with_reducible show wpAny _ _ (call (Value.ref (658 : Nat)) _) _ _ _)); (refine Stop.out ?_))
theorem c_write_answer {w : World} {v : Value} {l led : List (Addr × Obj)} {q1 q2 : Wo} (h1 : WoOk q1) (h2 : WoOk q2) (h : AnsIs w q1 q2 v l) (hl : ∀ p ∈ l, p ∈ led) :
    Con w 686 [v] 80 800 led (fun v tl => tl = led ∧ ∃ t, v = .bytes (byteArr (stL q1 q2 ++ [13, 10])) t) := by
  obtain ⟨T, C, a0, d0, a1, d1, a2, d2, oT, oC, e1, e2, e3, e4, e5, e6, e7, e8, f1, f2, f3, f4, n, rfl, rfl, rfl, rfl⟩ := h
  have z5 : (stL q1 q2).length ≤ 3000 := by
    have := coL_len h1 h2
    simp only [stL, List.length_append, List.length_cons, List.length_nil]
    omega
  have m1 := hl _ (.head _)
  have m2 := hl _ (.tail _ (.head _))
  have m3 := hl (a0, instObj 297 d0) (by simp [atomL])
  have m4 := hl (d0, dictOf [⟨PyData.keyHash w.params (Str.ofString "text"), .str (Str.ofString "text") e7, .str (Str.ofString "COPYUID") e8⟩] 1) (by simp [atomL])
  have m5 : ∀ p ∈ woL w q1 a1 d1 f1 f2, p ∈ led := fun p hp => hl p (by simp [hp])
  have m6 : ∀ p ∈ woL w q2 a2 d2 f3 f4, p ∈ led := fun p hp => hl p (by simp [hp])
  have hst : ∀ news, (∀ p ∈ led, p ∈ news) → Con w 658 [.ref T] 60 600 news (fun v tl => tl = news ∧ ∃ t, v = .bytes (byteArr (stL q1 q2)) t) := fun news hs =>
    c_status_octets h1 h2 (hs _ m1) (hs _ m2) (hs _ m3) (hs _ m4) (fun p hp => hs p (m5 p hp)) (fun p hp => hs p (m6 p hp))
  clear hl m2 m3 m4 m5 m6
  unfold tupObj at m1
  walk_at "ENTER"
  k_steps
  · unfold Stop
    k_here
    k_dflt (refine' conR_call (hst _ ?sub) ?H ?_)
    (case H => walk_at "HERE")
    (case sub => (first | exact fun _ h => h | exact fun _ h => List.mem_cons_of_mem _ h))
    k_whole
    intro v9 h9 tk9 F9 N9 P9
    obtain ⟨t9, e9⟩ := P9
    subst e9
    k_steps
    exact RetC.intro (news_sub (by k_asm) fun p hp => .tail _ hp) (news_sub (by k_asm) fun p hp => .tail _ hp) ⟨rfl, _, rfl⟩
end
end Mine
namespace Mine
/-- what is told of a worth: new objects on top of the ledger, a datum -/
def Grow (led : List (Addr × Obj)) (d : Dat) : Value → List (Addr × Obj) → Prop := fun v tl => ∃ l, tl = l ++ led ∧ DatIn tl v d
/-- told_part tells `v` as `d` wherever the ledger holds `led` -/
def Told1 (w : World) (led : List (Addr × Obj)) (dd uu : Nat) (v : Value) (d : Dat) : Prop := ∀ led', (∀ p ∈ led, p ∈ led') → Con w 598 [v] dd uu led' (Grow led' d)
theorem c_told_str {w : World} {led : List (Addr × Obj)} {X : Str} {t : Tok} : Told1 w led 15 150 (.str X t) (.str X) := by
  intro led' hs
  walk_at "ENTER"
  k_steps
  exact RetC.intro (tl := led') (news_sub (by k_asm) fun p hp => .tail _ hp) (news_sub (by k_asm) fun p hp => .tail _ hp) ⟨[], rfl, .str _ _⟩
theorem c_told_int {w : World} {led : List (Addr × Obj)} {n : Int} {t : Tok} : Told1 w led 15 150 (.int n t) (.int n) := by
  intro led' hs
  walk_at "ENTER"
  k_steps
  exact RetC.intro (tl := led') (news_sub (by k_asm) fun p hp => .tail _ hp) (news_sub (by k_asm) fun p hp => .tail _ hp) ⟨[], rfl, .int _ _⟩
section
theorem c_told_atom {w : World} {led : List (Addr × Obj)} {a da : Addr} {T : Str} {t t' : Tok} (ha : (a, instObj 297 da) ∈ led) (hd : (da, dictOf [⟨PyData.keyHash w.params (Str.ofString "text"), .str (Str.ofString "text") t, .str T t'⟩] 1) ∈ led) :
    Told1 w led 15 150 (.ref a) (.tuple [.str (Str.ofString "atom"), .str T]) := by
  intro led' hs
  have ha := hs _ ha
  have hd := hs _ hd
  walk_at "ENTER"
  k_steps
  exact RetC.intro (tl := _ :: _ :: led') (by k_asm) (by k_asm) ⟨[_, _], rfl, .tuple (vs := [_, _]) (.head _) (.cons (.str _ _) (.cons (.str _ _) .nil))⟩
end
/-- two lists, item by item -/
inductive All2 (R : Value → Dat → Prop) : List Value → List Dat → Prop
  | nil : All2 R [] []
  | cons {v d vs ds} : R v d → All2 R vs ds → All2 R (v :: vs) (d :: ds)
theorem All2.length {R : Value → Dat → Prop} : ∀ {vs ds}, All2 R vs ds → vs.length = ds.length
  | _, _, .nil => rfl
  | _, _, .cons _ r => by rw [List.length_cons, List.length_cons, r.length]
theorem All2.get {R : Value → Dat → Prop} : ∀ {vs ds} {i : Nat} {v : Value}, All2 R vs ds → vs[i]? = some v → ∃ d, ds[i]? = some d ∧ R v d
  | _, _, i, v, .nil, h => by simp at h
  | _, _, 0, v, .cons h _, e => by simp at e; subst e; exact ⟨_, rfl, h⟩
  | _, _, i + 1, v, .cons _ r, e => by
    obtain ⟨d, hd, h⟩ := r.get (i := i) (v := v) (by simpa using e)
    exact ⟨d, by simpa using hd, h⟩
section
variable {prog : Program} {w : World} {A : Around} {E : Value → Shared → Prop} {s : Shared} {h₀ : Heap} {L : Addr} {m : Str → Option Value} {env : Env}
/-- the end of a comprehension's element that makes a datum -/
def GrowEl (h₀ : Heap) (L : Addr) (m : Str → Option Value) (s : Shared) (I C D : Addr) (oI oC oD : Obj) (news : List (Addr × Obj)) (d : Dat) (y : Value) (s₂ : Shared) : Prop :=
  ∃ h' tk' l, s₂ = { s with heap := h', toks := tk' } ∧ Fr h₀ L h' m ∧ News h₀ L h' ((I, oI) :: (C, oC) :: (D, oD) :: (l ++ news)) ∧ LCg.Off3 I C D (l ++ news) ∧ DatIn (l ++ news) y d
theorem grow_rest {elt : Expr} {x : Str} {scope : Scope} {cl : List (Str × Addr)} {S : List (Addr × Obj) → Prop} {vs : List Value} {ds : List Dat} {Fin : List Value → List (Addr × Obj) → Prop} {news : List (Addr × Obj)} (hS : ∀ nw, (∀ p ∈ news, p ∈ nw) → S nw) (hlen : vs.length = ds.length)
    (turn : ∀ (i : Nat) v d nw I oI C oC D m₂ ys h tk (E' : Value → Shared → Prop), vs[i]? = some v → ds[i]? = some d → (∀ p ∈ news, p ∈ nw) → LCg.NsObj oC m₂ → m₂ x = some v → Fr h₀ L h m → News h₀ L h ((I, oI) :: (C, oC) :: (D, LCg.lst ys) :: nw) → LCg.Off3 I C D nw →
      wpAny (model prog w) A (eval elt (compEnvC scope cl C env)) (GrowEl h₀ L m { s with heap := h, toks := tk } I C D oI oC (LCg.lst ys) nw d) E' { s with heap := h, toks := tk })
    (fin : ∀ ys l, DatAll (l ++ news) ys ds → Fin ys (l ++ news)) : LCg.CompRest prog w A h₀ L m env elt x scope cl s S (fun i v => vs.toArray[i]? = some v) Fin vs.length 0 [] news := by
  have key : ∀ (j i : Nat) (ys : List Value) (l : List (Addr × Obj)), i + j = vs.length → DatAll (l ++ news) ys (ds.take i) → LCg.CompRest prog w A h₀ L m env elt x scope cl s S (fun i v => vs.toArray[i]? = some v) Fin j i ys (l ++ news) := by
    intro j
    induction j with
    | zero =>
      intro i ys l hi hy
      rw [List.take_of_length_le (by omega)] at hy
      exact LCg.CompRest.zero (fin ys l hy)
    | succ j ih =>
      intro i ys l hi hy
      refine LCg.CompRest.succ fun v I oI C oC D m₂ h tk E' hv hC hx F N off ne => ?_
      have hv' : vs[i]? = some v := by simpa using hv
      have hid : i < ds.length := by omega
      have hd : ds[i]? = some ds[i] := List.getElem?_eq_getElem hid
      refine wpAny_mono (turn i v ds[i] (l ++ news) I oI C oC D m₂ ys h tk E' hv' hd (fun p hp => List.mem_append_right _ hp) hC hx F N off) (fun y s₂ hq => ?_) fun _ _ e => e
      obtain ⟨h', tk', l', e, F', N', off', g⟩ := hq
      refine ⟨h', tk', l' ++ (l ++ news), e, F', N', off', hS _ fun p hp => List.mem_append_right _ (List.mem_append_right _ hp), ?_⟩
      rw [← List.append_assoc]
      refine ih (i + 1) _ (l' ++ l) (by omega) ?_
      rw [List.take_add_one, hd]
      refine DatAll.append (hy.mono fun p hp => by rw [List.append_assoc]; exact List.mem_append_right _ hp) (.one ?_)
      rw [List.append_assoc]
      exact g
  have := key vs.length 0 [] [] (by omega) (by simpa using DatAll.nil)
  simpa using this
theorem SrcS.grow {elt : Expr} {x : Str} {scope : Scope} {cl : List (Str × Addr)} {Q : Value → Shared → Prop} {ax : Addr} {o : Obj} {vs : List Value} {ds : List Dat} {n : Nat} {s₁ : Shared} {news : List (Addr × Obj)} (hh : A.handled = none) (F : Fr h₀ L s₁.heap m) (N : News h₀ L s₁.heap news)
    (hm : (ax, o) ∈ news) (hcls : o.cls = .type "list" ∨ o.cls = .type "tuple") (hd : o.data = .seq vs.toArray n) (hsz : vs.length ≤ 1000) (hlen : vs.length = ds.length)
    (turn : ∀ (i : Nat) v d nw I oI C oC D m₂ ys h tk (E' : Value → Shared → Prop), vs[i]? = some v → ds[i]? = some d → (∀ p ∈ news, p ∈ nw) → LCg.NsObj oC m₂ → m₂ x = some v → Fr h₀ L h m → News h₀ L h ((I, oI) :: (C, oC) :: (D, LCg.lst ys) :: nw) → LCg.Off3 I C D nw →
      wpAny (model prog w) A (eval elt (compEnvC scope cl C env)) (GrowEl h₀ L m { s₁ with heap := h, toks := tk } I C D oI oC (LCg.lst ys) nw d) E' { s₁ with heap := h, toks := tk })
    (fin : ∀ ys l D h tk, DatAll (l ++ news) ys ds → Fr h₀ L h m → News h₀ L h ((D, LCg.lst ys) :: (l ++ news)) → LCg.Off1 D (l ++ news) → Q (.ref D) { s₁ with heap := h, toks := tk }) : SrcS prog w A h₀ L m env elt x scope cl Q (.ref ax) s₁ := by
  refine ⟨ax, o, vs.toArray, news, rfl, hh, F, N, hm, hcls, ⟨n, hd⟩, by rw [sizeLine_eq]; simp; omega, fun g => ?_⟩
  have := grow_rest (prog := prog) (w := w) (A := A) (s := { s₁ with heap := g }) (h₀ := h₀) (L := L) (m := m) (env := env) (elt := elt) (x := x) (scope := scope) (cl := cl) (S := fun nw => (ax, o) ∈ nw) (vs := vs) (ds := ds) (Fin := LCg.FinE h₀ L m { s₁ with heap := g } Q) (news := news) (fun nw h => h _ hm) hlen turn
    (fun ys l hy D h tk F N o1 => fin ys l D h tk hy F N o1)
  simpa using this
end
end Mine
namespace Mine
theorem split3 {I C D : Addr} {oI oC oD : Obj} {nw : List (Addr × Obj)} (off : LCg.Off3 I C D nw) : Split ((I, oI) :: (C, oC) :: (D, oD) :: nw) nw [(I, oI), (C, oC), (D, oD)] :=
  ⟨fun p hp => by simp only [List.mem_cons, List.not_mem_nil, or_false] at hp ⊢; rcases hp with h | h | h <;> simp [h], fun x hx y hy => by
    have := off.mem y hy
    simp only [List.mem_cons, List.not_mem_nil, or_false] at hx
    rcases hx with rfl | rfl | rfl
    · exact Ne.symm this.1
    · exact Ne.symm this.2.1
    · exact Ne.symm this.2.2⟩
theorem grow_el {h₀ h' : Heap} {L I C D : Addr} {oI oC oD : Obj} {m : Str → Option Value} {s : Shared} {tk : Nat} {nw tl l : List (Addr × Obj)} {v : Value} {d : Dat} (F : Fr h₀ L h' m) (N : News h₀ L h' (tl ++ [(I, oI), (C, oC), (D, oD)])) (DD : ∀ x ∈ [(I, oI), (C, oC), (D, oD)], ∀ y ∈ tl, x.1 ≠ y.1) (e : tl = l ++ nw) (hd : DatIn tl v d) :
    GrowEl h₀ L m s I C D oI oC oD nw d v { s with heap := h', toks := tk } := by
  subst e
  refine ⟨h', tk, l, rfl, F, news_sub N fun p hp => ?_, LCg.Off3.of fun p hp => ⟨Ne.symm (DD _ (.head _) p hp), Ne.symm (DD _ (.tail _ (.head _)) p hp), Ne.symm (DD _ (.tail _ (.tail _ (.head _))) p hp)⟩, hd⟩
  simp only [List.mem_cons, List.mem_append, List.not_mem_nil, or_false] at hp ⊢
  rcases hp with h | h | h | h <;> simp [h]
theorem told_sub {D D2 : Addr} {o1 o2 oX : Obj} {l led : List (Addr × Obj)} {X : Addr} : ∀ p ∈ (D2, o2) :: (l ++ (X, oX) :: led), p ∈ (D2, o2) :: (D, o1) :: (l ++ (X, oX) :: led) := fun p hp => by
  simp only [List.mem_cons] at hp ⊢
  rcases hp with h | h
  · exact .inl h
  · exact .inr (.inr h)
theorem told_ret {D2 X : Addr} {oX : Obj} {l led : List (Addr × Obj)} {ys : List Value} {ds : List Dat} (hy : DatAll (l ++ (X, oX) :: led) ys ds) : Grow led (.tuple ds) (.ref D2) ((D2, ({ cls := .type "tuple", data := .seq ys.toArray } : Obj)) :: (l ++ (X, oX) :: led)) :=
  ⟨(D2, ({ cls := .type "tuple", data := .seq ys.toArray } : Obj)) :: (l ++ [(X, oX)]), by simp, .tuple (.head _) (hy.mono fun p hp => .tail _ hp)⟩
section
local macro_rules | `(tactic| walk_at "eval ListComp") => `(tactic| (k_here; k_dflt (refine' listcomp_seq (by k_asm) (by with_unfolding_all rfl) (by decide) (by rfl) (by decide) (by rfl) ?_)))
local macro_rules | `(tactic| walk_at "call ref") => `(tactic| (refine Stop.out ?_))
local macro_rules | `(tactic| walk_at "call type:tuple") => `(tactic| (refine Stop.out ?_))
local macro_rules | `(tactic| walk_at "GrowEl") => `(tactic| (refine Stop.out ?_))
theorem c_told_seq {w : World} {led : List (Addr × Obj)} {a : Addr} {o : Obj} {vs : List Value} {ds : List Dat} {n dd uu : Nat} (hm : (a, o) ∈ led) (ho : o = { cls := .type "list", data := .seq vs.toArray n } ∨ o = { cls := .type "tuple", data := .seq vs.toArray n }) (hz : vs.length ≤ 100)
    (hi : All2 (Told1 w led dd uu) vs ds) : Told1 w led (dd + 10) (uu + 100) (.ref a) (.tuple ds) := by
  intro led' hs
  have hm := hs _ hm
  rcases ho with rfl | rfl
  · walk_at "ENTER"
    k_steps
    refine' SrcS.grow (vs := vs) (ds := ds) (n := n) rfl ?zF ?zN (List.mem_cons_of_mem _ hm) (.inl rfl) rfl (by omega) hi.length ?zt ?zf
    (case zF => k_asm)
    (case zN => k_asm)
    (case zt =>
      intro i v d nw I oI C oC D m₂ ys h tk E' hv hd hnw hC hx F N off
      obtain ⟨d', hd', ht⟩ := hi.get hv
      rw [hd] at hd'
      cases hd'
      k_steps
      unfold Stop
      k_here
      refine' Con.call (rest := [(I, oI), (C, oC), (D, LCg.lst ys)]) (ht nw fun p hp => hnw _ (.tail _ (hs p hp))) ?yH (fun p hp => .tail _ (.tail _ (.tail _ hp))) (split3 off) ?_
      (case yH => walk_at "HERE")
      intro v9 tl9 h9 tk9 F9 N9 D9 ⟨l, e, hdat⟩
      exact grow_el F9 N9 D9 e hdat)
    (case zf =>
      intro ys l D h tk hy F N o1
      k_steps
      unfold Stop
      k_here
      have hyl : ys.length ≤ 100 := by rw [hy.length, ← hi.length]; exact hz
      refine' kde_tupleOf (zs := ys) F N (News.isList N (List.mem_cons_self)) (by simp; omega) (by simp) fun D2 h2 F2 N2 lt2 => ?_
      clear lt2
      k_steps
      exact RetC.intro (news_sub (by k_asm) told_sub) (news_sub (by k_asm) told_sub) (told_ret hy))
  · walk_at "ENTER"
    k_steps
    refine' SrcS.grow (vs := vs) (ds := ds) (n := n) rfl ?zF ?zN (List.mem_cons_of_mem _ hm) (.inr rfl) rfl (by omega) hi.length ?zt ?zf
    (case zF => k_asm)
    (case zN => k_asm)
    (case zt =>
      intro i v d nw I oI C oC D m₂ ys h tk E' hv hd hnw hC hx F N off
      obtain ⟨d', hd', ht⟩ := hi.get hv
      rw [hd] at hd'
      cases hd'
      k_steps
      unfold Stop
      k_here
      refine' Con.call (rest := [(I, oI), (C, oC), (D, LCg.lst ys)]) (ht nw fun p hp => hnw _ (.tail _ (hs p hp))) ?yH (fun p hp => .tail _ (.tail _ (.tail _ hp))) (split3 off) ?_
      (case yH => walk_at "HERE")
      intro v9 tl9 h9 tk9 F9 N9 D9 ⟨l, e, hdat⟩
      exact grow_el F9 N9 D9 e hdat)
    (case zf =>
      intro ys l D h tk hy F N o1
      k_steps
      unfold Stop
      k_here
      have hyl : ys.length ≤ 100 := by rw [hy.length, ← hi.length]; exact hz
      refine' kde_tupleOf (zs := ys) F N (News.isList N (List.mem_cons_self)) (by simp; omega) (by simp) fun D2 h2 F2 N2 lt2 => ?_
      clear lt2
      k_steps
      exact RetC.intro (news_sub (by k_asm) told_sub) (news_sub (by k_asm) told_sub) (told_ret hy))
end
/-- a worth as it is told -/
def woD : Wo → Dat
  | .num n => .int n
  | .atm T => .tuple [.str (Str.ofString "atom"), .str T]
def toldD (q1 q2 : Wo) : Dat := .tuple [.str (Str.ofString "ok"), .str (Str.ofString "t"), .tuple [.tuple [.str (Str.ofString "atom"), .str (Str.ofString "COPYUID")], .int 7, woD q1, woD q2], .str (Str.ofString "done")]
theorem Told1.mono {w : World} {led : List (Addr × Obj)} {dd uu d2 u2 : Nat} {v : Value} {d : Dat} (h : Told1 w led dd uu v d) (hd : dd ≤ d2) (hu : uu ≤ u2) : Told1 w led d2 u2 v d :=
  fun led' hs dp un gd env outer A₀ base h₀ L m rest s loose mean mg mb R a1 a2 a3 a4 => h led' hs dp un gd env outer A₀ base h₀ L m rest s loose mean mg mb R a1 a2 (by omega) (by omega)
theorem c_told_wo {w : World} {led : List (Addr × Obj)} {q : Wo} {a da : Addr} {t f1 f2 : Tok} (hm : ∀ p ∈ woL w q a da f1 f2, p ∈ led) : Told1 w led 15 150 (woV q a t) (woD q) := by
  cases q with
  | num n => exact c_told_int
  | atm T => exact c_told_atom (hm _ (.head _)) (hm _ (.tail _ (.head _)))
theorem c_told_ans {w : World} {v : Value} {l led : List (Addr × Obj)} {q1 q2 : Wo} (h : AnsIs w q1 q2 v l) (hl : ∀ p ∈ l, p ∈ led) : Told1 w led 35 350 v (toldD q1 q2) := by
  obtain ⟨T, C, a0, d0, a1, d1, a2, d2, oT, oC, e1, e2, e3, e4, e5, e6, e7, e8, f1, f2, f3, f4, n, rfl, rfl, rfl, rfl⟩ := h
  have m1 := hl _ (.head _)
  have m2 := hl _ (.tail _ (.head _))
  have m3 := hl (a0, instObj 297 d0) (by simp [atomL])
  have m4 := hl (d0, dictOf [⟨PyData.keyHash w.params (Str.ofString "text"), .str (Str.ofString "text") e7, .str (Str.ofString "COPYUID") e8⟩] 1) (by simp [atomL])
  have m5 : ∀ p ∈ woL w q1 a1 d1 f1 f2, p ∈ led := fun p hp => hl p (by simp [hp])
  have m6 : ∀ p ∈ woL w q2 a2 d2 f3 f4, p ∈ led := fun p hp => hl p (by simp [hp])
  have hC : Told1 w led 25 250 (.ref C) (.tuple [.tuple [.str (Str.ofString "atom"), .str (Str.ofString "COPYUID")], .int 7, woD q1, woD q2]) :=
    c_told_seq (dd := 15) (uu := 150) (vs := [.ref a0, .int 7 e4, woV q1 a1 e5, woV q2 a2 e6]) m2 (.inl rfl) (by simp) (.cons (c_told_atom m3 m4) (.cons c_told_int (.cons (c_told_wo m5) (.cons (c_told_wo m6) .nil))))
  exact c_told_seq (dd := 25) (uu := 250) (vs := [.str (Str.ofString "ok") e1, .str (Str.ofString "t") e2, .ref C, .str (Str.ofString "done") e3]) m1 (.inr rfl) (by simp)
    (.cons (c_told_str.mono (by omega) (by omega)) (.cons (c_told_str.mono (by omega) (by omega)) (.cons hC (.cons (c_told_str.mono (by omega) (by omega)) .nil))))
end Mine
section
local macro_rules | `(tactic| walk_at "call ref") => `(tactic| (refine Stop.out ?_))
theorem Mine.c_told_answer {w : World} {v : Value} {l led : List (Addr × Obj)} {q1 q2 : Wo} (h : AnsIs w q1 q2 v l) (hl : ∀ p ∈ l, p ∈ led) : Con w 605 [v] 45 450 led (Grow led (toldD q1 q2)) := by
  have ht := c_told_ans h hl led fun _ h => h
  walk_at "ENTER"
  k_steps
  unfold Stop
  k_here
  refine' Con.call (rest := []) ht ?yH (fun p hp => hp) ⟨(fun _ h => nomatch h), (fun _ h => nomatch h)⟩ ?_
  (case yH => walk_at "HERE")
  intro v9 tl9 h9 tk9 F9 N9 D9 P9
  rw [List.append_nil] at N9
  k_steps
  exact RetC.intro (by k_asm) (by k_asm) P9
end
namespace Mine
/-- a worth's plain value -/
def woP : Wo → Tok → Value
  | .num n, t => .int n t
  | .atm T, t => .str T t
theorem c_plain_N {w : World} {n : Int} {t : Tok} {led : List (Addr × Obj)} : Con w 826 [.int n t] 15 150 led (fun v tl => tl = led ∧ ∃ t, v = .int n t) := by
  walk_at "ENTER"
  k_steps
  exact RetC.intro (by k_asm) (by k_asm) ⟨rfl, _, rfl⟩
section
theorem c_plain_A {w : World} {a da : Addr} {led : List (Addr × Obj)} {t t' : Tok} {T : Str} (ha : (a, instObj 297 da) ∈ led) (hd : (da, dictOf [⟨PyData.keyHash w.params (Str.ofString "text"), .str (Str.ofString "text") t, .str T t'⟩] 1) ∈ led) :
    Con w 826 [.ref a] 15 150 led (fun v tl => tl = led ∧ ∃ t, v = .str T t) := by
  walk_at "ENTER"
  k_steps
  exact RetC.intro (by k_asm) (by k_asm) ⟨rfl, _, rfl⟩
end
theorem c_law_plain {w : World} {led : List (Addr × Obj)} {q : Wo} {a da : Addr} {t f1 f2 : Tok} (hm : ∀ p ∈ woL w q a da f1 f2, p ∈ led) : Con w 826 [woV q a t] 15 150 led (fun v tl => tl = led ∧ ∃ t, v = woP q t) := by
  cases q with
  | num n => exact c_plain_N
  | atm T => exact c_plain_A (hm _ (.head _)) (hm _ (.tail _ (.head _)))
end Mine
namespace Mine
/-- the signs of a set's text -/
def Sgn (c : Int) : Prop := (48 ≤ c ∧ c ≤ 57) ∨ c = 42 ∨ c = 44 ∨ c = 58
theorem shE_sgn : ∀ n ∈ NUMS, ∀ c ∈ shE n, Sgn c := by unfold Sgn; decide +kernel
theorem shP_sgn {p : Int × Int} (h : Good p) : ∀ c ∈ shP p, Sgn c := by
  intro c hc
  unfold shP at hc
  split at hc
  · exact shE_sgn _ h.1 c hc
  · rcases List.mem_append.mp hc with hc | hc
    · exact shE_sgn _ h.1 c hc
    · rcases List.mem_cons.mp hc with rfl | hc
      · exact .inr (.inr (.inr rfl))
      · exact shE_sgn _ h.2 c hc
theorem shS_sgn : ∀ ps : List (Int × Int), (∀ p ∈ ps, Good p) → ∀ c ∈ shS ps, Sgn c
  | [], _, c, hc => by cases hc
  | [p], h, c, hc => shP_sgn (h p (.head _)) c hc
  | p :: q :: r, h, c, hc => by
    rcases List.mem_append.mp hc with hc | hc
    · exact shP_sgn (h p (.head _)) c hc
    · rcases List.mem_cons.mp hc with rfl | hc
      · exact .inr (.inr (.inl rfl))
      · exact shS_sgn (q :: r) (fun x hx => h x (.tail _ hx)) c hc
theorem shS_pos {ps : List (Int × Int)} (h : ∀ p ∈ ps, Good p) (h1 : 1 ≤ ps.length) : 0 < (shS ps).length := by
  match ps, h1 with
  | [p], _ => exact (shP_asc (h p (.head _))).2.1
  | p :: q :: r, _ =>
    have := (shP_asc (h p (.head _))).2.1
    simp only [shS, List.length_append, List.length_cons]
    omega
/-- the worth of a set -/
def setW (ps : List (Int × Int)) : Wo := if single ps = true then .num (ps.headD (0, 0)).1 else .atm (txt (shS ps))
theorem single_ex {ps : List (Int × Int)} (h : single ps = true) (hg : ∀ p ∈ ps, Good p) : ∃ n, ps = [(n, n)] ∧ n ∈ NUMS ∧ 0 < n ∧ shS ps = dig n := by
  match ps, h with
  | [p], h =>
    simp only [single, Bool.and_eq_true, decide_eq_true_eq] at h
    obtain ⟨a, b⟩ := p
    obtain ⟨h1, h2⟩ := h
    dsimp only at h1 h2
    subst h1
    refine ⟨a, rfl, (hg _ (.head _)).1, h2, ?_⟩
    have : a ≠ 0 := by omega
    simp [shS, shP, shE, this]
theorem txt_codes {cs : List Int} (h : Asc cs) : (txt cs).cps.toList.map (fun (c : Nat) => (c : Int)) = cs := by
  have : ∀ l : List Int, Asc l → (l.map Int.toNat).map (fun (c : Nat) => (c : Int)) = l := by
    intro l
    induction l with
    | nil => intro _; rfl
    | cons a r ih =>
      intro h
      have h1 := (h a (.head _)).1
      simp only [List.map_cons, ih fun c hc => h c (.tail _ hc), Int.toNat_of_nonneg h1]
  simpa [txt, KStt.txt] using this cs h
theorem woC_setW {ps : List (Int × Int)} (hg : ∀ p ∈ ps, Good p) : woC (setW ps) = shS ps := by
  by_cases h : single ps = true
  · obtain ⟨n, rfl, _, _, hs⟩ := single_ex h hg
    rw [hs, setW, if_pos h]
    rfl
  · rw [setW, if_neg h]
    exact txt_codes (shS_asc ps hg).1
theorem woOk_setW {ps : List (Int × Int)} (hg : ∀ p ∈ ps, Good p) (h4 : ps.length ≤ 4) : WoOk (setW ps) := by
  by_cases h : single ps = true
  · obtain ⟨n, rfl, hn, h0, hs⟩ := single_ex h hg
    have ha := shS_asc _ hg
    have hb := nums_bound n hn
    have hc := nums_asc n hn
    have e : shE n = dig n := by rw [shE, if_neg (by omega)]
    rw [e] at hc
    rw [setW, if_pos h]
    exact ⟨by show 0 ≤ n; omega, hb.2, hc.1, hc.2.2⟩
  · rw [setW, if_neg h]
    have ha := shS_asc ps hg
    refine ⟨by rw [txt_codes ha.1]; exact ha.1, ?_⟩
    have := txt_size (shS ps)
    rw [Array.length_toList]
    rw [show (txt (shS ps)).cps.size = (shS ps).length from this]
    omega
section
variable {ds pre os post cs : List Int} {k k' : Int} {φ : Int → Bool}
theorem drop_pre (pre r : List Int) : (pre ++ r).drop pre.length = r := by simp
theorem eats_of (hds : ds = pre ++ (os ++ post)) (hk : k = (pre.length : Int)) (hk' : k' = k + os.length) : Eats ds k os k' := by
  subst hds hk
  refine ⟨decide_eq_true ?_, hk'.symm⟩
  rw [show ((pre.length : Int)).toNat = pre.length from by omega, drop_pre]
  simp
theorem noteat_of {os : List Int} (hds : ds = pre ++ post) (hk : k = (pre.length : Int)) (h : post.take os.length ≠ os) : matchV ds k os = false := by
  subst hds hk
  refine decide_eq_false ?_
  rw [show ((pre.length : Int)).toNat = pre.length from by omega, drop_pre]
  exact h
theorem runs_of (hds : ds = pre ++ (cs ++ post)) (hk : k = (pre.length : Int)) (hk' : k' = k + cs.length) (hc : ∀ c ∈ cs, φ c = true) (hne : 0 < cs.length) (hp : ∀ c, post.head? = some c → φ c = false) : Runs φ ds k cs k' := by
  subst hds hk
  exact ⟨runL_at hc hp, hne, hk'.symm⟩
end
/-- the line: the head, a set, a blank, a set, the end -/
def HEAD : List Int := [116, 32, 79, 75, 32, 91, 67, 79, 80, 89, 85, 73, 68, 32, 55, 32]
def TAIL : List Int := [93, 32, 100, 111, 110, 101, 13, 10]
def lineL (x y : List Int) : List Int := HEAD ++ (x ++ (32 :: (y ++ TAIL)))
theorem stL_line {q1 q2 : Wo} : stL q1 q2 ++ [13, 10] = lineL (woC q1) (woC q2) := by
  have e1 : codes "COPYUID" = [67, 79, 80, 89, 85, 73, 68] := by decide +kernel
  have e2 : codes (toString (7 : Int)) = [55] := by decide +kernel
  simp only [stL, coL, lineL, HEAD, TAIL, e1, e2, List.append_assoc, List.cons_append, List.nil_append]
theorem sgn_value {c : Int} (h : Sgn c) : isValue c = true ∧ lowerC c = c ∧ c ≠ 110 ∧ c ≠ 93 := by
  unfold Sgn at h
  exact b256 (P := fun c => ((48 ≤ c ∧ c ≤ 57) ∨ c = 42 ∨ c = 44 ∨ c = 58) → isValue c = true ∧ lowerC c = c ∧ c ≠ 110 ∧ c ≠ 93) (by decide +kernel) (by omega) (by omega) h
theorem dig_val : ∀ n ∈ NUMS, n ≠ 0 → (∀ c ∈ dig n, 48 ≤ c ∧ c ≤ 57) ∧ n = (dig n).foldl (fun n c => n * 10 + c - 48) 0 := by decide +kernel
theorem not_fig {cs : List Int} {c : Int} (hc : c ∈ cs) (h : isFigure c = false) : (cs.all fun x => isFigure x) = false := by
  rw [Bool.eq_false_iff]
  intro e
  rw [List.all_eq_true] at e
  have := e c hc
  rw [h] at this
  cases this
theorem atm_fig {ps : List (Int × Int)} (hg : ∀ p ∈ ps, Good p) (h1 : 1 ≤ ps.length) (hs : single ps = false) : ((shS ps).all fun x => isFigure x) = false := by
  match ps, h1 with
  | [p], _ =>
    simp only [shS]
    unfold shP
    split
    · rename_i he
      have h0 : ¬ 0 < p.1 := fun h0 => by simp [single, he] at hs; omega
      have h1 := (nums_bound _ (hg p (.head _)).1).1
      rw [shE, if_pos (by omega)]
      decide
    · exact not_fig (c := 58) (by simp) (by decide)
  | p :: q :: r, _ => exact not_fig (c := 44) (by simp [shS]) (by decide)
theorem woAt_of {ds pre post : List Int} {k k' : Int} {ps : List (Int × Int)} (hg : ∀ p ∈ ps, Good p) (h1 : 1 ≤ ps.length) (hds : ds = pre ++ (shS ps ++ post)) (hk : k = (pre.length : Int)) (hk' : k' = k + (shS ps).length) (hp : ∀ c, post.head? = some c → isValue c = false) : WoAt ds k (setW ps) k' := by
  have hr : Runs isValue ds k (shS ps) k' := runs_of hds hk hk' (fun c hc => (sgn_value (shS_sgn ps hg c hc)).1) (shS_pos hg h1) hp
  by_cases h : single ps = true
  · obtain ⟨n, rfl, hn, h0, hs⟩ := single_ex h hg
    have hd := dig_val n hn (by omega)
    have hl := (nums_asc n hn).2.2
    rw [shE, if_neg (by omega)] at hl
    rw [setW, if_pos h]
    rw [hs] at hr
    exact ⟨dig n, hr, by omega, hd.1, hd.2⟩
  · rw [setW, if_neg h]
    refine ⟨shS ps, hr, fun e => ?_, atm_fig hg h1 (by simpa using h), rfl⟩
    have hpos := shS_pos hg h1
    cases hx : shS ps with
    | nil => rw [hx] at hpos; simp at hpos
    | cons c r =>
      rw [hx] at e
      have := sgn_value (shS_sgn ps hg c (by rw [hx]; exact .head _))
      simp only [List.map_cons, List.cons.injEq] at e
      rw [this.2.1] at e
      exact this.2.2.1 e.1
theorem line_pre {x y : List Int} (pre r : List Int) (h : HEAD = pre ++ r) : lineL x y = pre ++ (r ++ (x ++ (32 :: (y ++ TAIL)))) := by
  rw [lineL, h, List.append_assoc]
theorem line_os {x y : List Int} (pre os r : List Int) (h : HEAD = pre ++ (os ++ r)) : lineL x y = pre ++ (os ++ (r ++ (x ++ (32 :: (y ++ TAIL))))) := by
  rw [lineL, h]; simp
theorem line_oe {x y : List Int} (pre os r : List Int) (h : TAIL = pre ++ (os ++ r)) : lineL x y = (HEAD ++ x ++ [32] ++ y ++ pre) ++ (os ++ r) := by
  rw [lineL, h]; simp
theorem line_mid {x y : List Int} : lineL x y = (HEAD ++ x) ++ (32 :: (y ++ TAIL)) := by rw [lineL, List.append_assoc]
theorem line_mid2 {x y : List Int} : lineL x y = (HEAD ++ x ++ [32]) ++ (y ++ TAIL) := by simp [lineL]
theorem line_end {x y : List Int} (pre r : List Int) (h : TAIL = pre ++ r) : lineL x y = (HEAD ++ x ++ [32] ++ y ++ pre) ++ r := by
  rw [lineL, h]; simp
theorem head_len : HEAD.length = 16 := rfl
theorem lineAt {ps qs : List (Int × Int)} (hp : ∀ p ∈ ps, Good p) (hq : ∀ p ∈ qs, Good p) (p1 : 1 ≤ ps.length) (q1 : 1 ≤ qs.length) (p4 : ps.length ≤ 4) (q4 : qs.length ≤ 4) :
    LineAt (lineL (shS ps) (shS qs)) (setW ps) (setW qs) (16 + (shS ps).length) (16 + (shS ps).length + 1 + (shS qs).length) := by
  have lp := shS_asc ps hp
  have lq := shS_asc qs hq
  have np := shS_pos hp p1
  have nq := shS_pos hq q1
  have cp : Str.ofString "COPYUID" = txt [67, 79, 80, 89, 85, 73, 68] := by decide +kernel
  constructor
  · exact noteat_of (pre := []) (line_pre [] [116, 32, 79, 75, 32, 91, 67, 79, 80, 89, 85, 73, 68, 32, 55, 32] rfl) rfl (by simp [HEAD])
  · exact noteat_of (pre := []) (line_pre [] [116, 32, 79, 75, 32, 91, 67, 79, 80, 89, 85, 73, 68, 32, 55, 32] rfl) rfl (by simp [HEAD])
  · exact runs_of (pre := []) (cs := [116]) (line_os [] [116] [32, 79, 75, 32, 91, 67, 79, 80, 89, 85, 73, 68, 32, 55, 32] rfl) rfl rfl (by decide) (by decide) (by intro c h; cases h; decide)
  · exact eats_of (pre := [116]) (os := [32]) (line_os [116] [32] [79, 75, 32, 91, 67, 79, 80, 89, 85, 73, 68, 32, 55, 32] rfl) rfl rfl
  · exact runs_of (pre := [116, 32]) (cs := [79, 75]) (line_os [116, 32] [79, 75] [32, 91, 67, 79, 80, 89, 85, 73, 68, 32, 55, 32] rfl) rfl rfl (by decide) (by decide) (by intro c h; cases h; decide)
  · exact eats_of (pre := [116, 32, 79, 75]) (os := [32]) (line_os [116, 32, 79, 75] [32] [91, 67, 79, 80, 89, 85, 73, 68, 32, 55, 32] rfl) rfl rfl
  · exact eats_of (pre := [116, 32, 79, 75, 32]) (os := [91]) (line_os [116, 32, 79, 75, 32] [91] [67, 79, 80, 89, 85, 73, 68, 32, 55, 32] rfl) rfl rfl
  · refine ⟨[67, 79, 80, 89, 85, 73, 68], runs_of (pre := [116, 32, 79, 75, 32, 91]) (line_os [116, 32, 79, 75, 32, 91] [67, 79, 80, 89, 85, 73, 68] [32, 55, 32] rfl) rfl rfl (by decide) (by decide) (by intro c h; cases h; decide), by decide, by decide, cp⟩
  · exact noteat_of (pre := [116, 32, 79, 75, 32, 91, 67, 79, 80, 89, 85, 73, 68]) (line_pre [116, 32, 79, 75, 32, 91, 67, 79, 80, 89, 85, 73, 68] [32, 55, 32] rfl) rfl (by simp)
  · exact eats_of (pre := [116, 32, 79, 75, 32, 91, 67, 79, 80, 89, 85, 73, 68]) (os := [32]) (line_os [116, 32, 79, 75, 32, 91, 67, 79, 80, 89, 85, 73, 68] [32] [55, 32] rfl) rfl rfl
  · refine ⟨[55], runs_of (pre := [116, 32, 79, 75, 32, 91, 67, 79, 80, 89, 85, 73, 68, 32]) (line_os [116, 32, 79, 75, 32, 91, 67, 79, 80, 89, 85, 73, 68, 32] [55] [32] rfl) rfl rfl (by decide) (by decide) (by intro c h; cases h; decide), by decide, by decide, by decide⟩
  · exact noteat_of (pre := [116, 32, 79, 75, 32, 91, 67, 79, 80, 89, 85, 73, 68, 32, 55]) (line_pre [116, 32, 79, 75, 32, 91, 67, 79, 80, 89, 85, 73, 68, 32, 55] [32] rfl) rfl (by simp)
  · exact eats_of (pre := [116, 32, 79, 75, 32, 91, 67, 79, 80, 89, 85, 73, 68, 32, 55]) (os := [32]) (line_os [116, 32, 79, 75, 32, 91, 67, 79, 80, 89, 85, 73, 68, 32, 55] [32] [] rfl) rfl rfl
  · exact woAt_of hp p1 (pre := HEAD) rfl rfl rfl (by intro c h; cases h; decide)
  · exact noteat_of (pre := HEAD ++ shS ps) line_mid (by simp [head_len]) (by simp)
  · exact eats_of (pre := HEAD ++ shS ps) (os := [32]) line_mid (by simp [head_len]) rfl
  · exact woAt_of hq q1 (pre := HEAD ++ shS ps ++ [32]) line_mid2 (by simp [head_len]; omega) (by omega) (by intro c h; cases h; decide)
  · exact eats_of (pre := HEAD ++ shS ps ++ [32] ++ shS qs ++ []) (os := [93]) (line_oe [] [93] [32, 100, 111, 110, 101, 13, 10] rfl) (by simp [head_len]; omega) rfl
  · exact eats_of (pre := HEAD ++ shS ps ++ [32] ++ shS qs ++ [93]) (os := [32]) (line_oe [93] [32] [100, 111, 110, 101, 13, 10] rfl) (by simp [head_len]; omega) (by simp; omega)
  · exact runs_of (pre := HEAD ++ shS ps ++ [32] ++ shS qs ++ [93, 32]) (line_end [93, 32] _ rfl) (by simp [head_len]; omega) (by simp; omega) (by decide) (by decide) (by intro c h; cases h; decide)
  · omega
  · omega
  · exact eats_of (pre := HEAD ++ shS ps ++ [32] ++ shS qs ++ [93, 32, 100, 111, 110, 101]) (os := [13, 10]) (post := []) (line_oe [93, 32, 100, 111, 110, 101] [13, 10] [] rfl) (by simp [head_len]; omega) (by simp; omega)
  · exact noteat_of (pre := HEAD ++ shS ps ++ [32] ++ shS qs ++ TAIL) (post := []) (line_end TAIL [] (by simp)) (by simp [head_len, TAIL]; omega) (by simp)
  · simp [lineL, head_len, TAIL]; omega
theorem asc_line {x y : List Int} (hx : Asc x) (hy : Asc y) : Asc (lineL x y) := by
  have h1 : Asc HEAD := by unfold Asc; decide
  have h2 : Asc TAIL := by unfold Asc; decide
  intro c hc
  simp only [lineL, List.mem_append, List.mem_cons] at hc
  rcases hc with h | h | h | h | h
  · exact h1 c h
  · exact hx c h
  · subst h; decide
  · exact hy c h
  · exact h2 c h
end Mine
namespace Mine
theorem getD_pre (pre r : List Int) (j : Nat) : (pre ++ r).getD (pre.length + j) 0 = r.getD j 0 := by
  simp [List.getD_eq_getElem?_getD, List.getElem?_append_right]
theorem getD_left (a r : List Int) {j : Nat} (h : j < a.length) : (a ++ r).getD j 0 = a.getD j 0 := by
  simp [List.getD_eq_getElem?_getD, List.getElem?_append_left h]
theorem getD_head (a r : List Int) : (a ++ r).getD a.length 0 = r.getD 0 0 := by
  have := getD_pre a r 0
  simpa using this
theorem endAt_of {cs pre post : List Int} {n k k' : Int} (hn : n ∈ NUMS) (hc : cs = pre ++ (shE n ++ post)) (hk : k = (pre.length : Int)) (hk' : k' = k + (shE n).length) (hp : post = [] ∨ (post.getD 0 0 = 44 ∨ post.getD 0 0 = 58)) : EndAt cs k n k' := by
  subst hc hk
  refine ⟨hn, by omega, hk', ?_, fun j hj => ?_, fun hlt => ?_⟩
  · rw [hk']; simp only [List.length_append]; omega
  · rw [show ((pre.length : Int) + (j : Int)).toNat = pre.length + j from by omega, getD_pre, getD_left _ _ hj]
  · rw [hk', show ((pre.length : Int) + ((shE n).length : Int)).toNat = pre.length + (shE n).length from by omega, getD_pre, getD_head]
    rcases hp with h | h
    · subst h
      rw [hk'] at hlt
      simp only [List.append_nil, List.length_append] at hlt
      omega
    · omega
theorem pairAt_of {cs pre post : List Int} {p : Int × Int} {k k' : Int} (hg : Good p) (hc : cs = pre ++ (shP p ++ post)) (hk : k = (pre.length : Int)) (hk' : k' = k + (shP p).length) (hp : post = [] ∨ post.getD 0 0 = 44) : PairAt cs k p k' := by
  unfold PairAt
  unfold shP at hc hk'
  by_cases h : p.1 = p.2
  · rw [if_pos h] at hc hk'
    refine .inl ⟨h, endAt_of hg.1 hc hk hk' (hp.imp id .inl), fun hlt => ?_⟩
    subst hc hk
    rw [hk', show ((pre.length : Int) + ((shE p.1).length : Int)).toNat = pre.length + (shE p.1).length from by omega, getD_pre, getD_head]
    rcases hp with h | h
    · subst h
      rw [hk'] at hlt
      simp only [List.append_nil, List.length_append] at hlt
      omega
    · omega
  · rw [if_neg h] at hc hk'
    have e1 : cs = pre ++ (shE p.1 ++ (58 :: (shE p.2 ++ post))) := by rw [hc]; simp
    have e2 : cs = (pre ++ shE p.1 ++ [58]) ++ (shE p.2 ++ post) := by rw [hc]; simp
    refine .inr ⟨h, k + (shE p.1).length, endAt_of hg.1 e1 hk rfl (.inr (.inr rfl)), ?_, ?_, endAt_of hg.2 e2 (by rw [hk]; simp; omega) (by rw [hk']; simp; omega) (hp.imp id .inl)⟩
    · rw [e1, hk]; simp only [List.length_append, List.length_cons]; omega
    · rw [e1, hk, show ((pre.length : Int) + ((shE p.1).length : Int)).toNat = pre.length + (shE p.1).length from by omega, getD_pre, getD_head]
      rfl
theorem setAt_pre : ∀ (ps : List (Int × Int)) (pre : List Int), (∀ p ∈ ps, Good p) → 1 ≤ ps.length → SetAt (pre ++ shS ps) (pre.length : Int) ps
  | [], _, _, h => absurd h (by simp)
  | [p], pre, hg, _ => by
    refine pairAt_of (post := []) (hg p (.head _)) (by simp [shS]) rfl (by simp [shS]) (.inl rfl)
  | p :: q :: r, pre, hg, _ => by
    have ih := setAt_pre (q :: r) (pre ++ shP p ++ [44]) (fun x hx => hg x (.tail _ hx)) (by simp)
    have e : pre ++ shS (p :: q :: r) = pre ++ shP p ++ [44] ++ shS (q :: r) := by simp [shS]
    refine ⟨pre.length + (shP p).length, pairAt_of (post := 44 :: shS (q :: r)) (hg p (.head _)) (by simp [shS]) rfl rfl (.inr rfl), ?_, ?_, ?_⟩
    · rw [e]; simp only [List.length_append, List.length_cons, List.length_nil]; omega
    · rw [show ((pre.length : Int) + ((shP p).length : Int)).toNat = pre.length + (shP p).length from by omega]
      show (pre ++ (shP p ++ 44 :: shS (q :: r))).getD _ 0 = 44
      rw [getD_pre, getD_head]
      rfl
    · rw [e]
      have e2 : ((pre ++ shP p ++ [44]).length : Int) = (pre.length : Int) + (shP p).length + 1 := by simp; omega
      rw [e2] at ih
      exact ih
theorem setAt_of {ps : List (Int × Int)} (hg : ∀ p ∈ ps, Good p) (h1 : 1 ≤ ps.length) : SetAt (shS ps) 0 ps := by
  have := setAt_pre ps [] hg h1
  simpa using this
end Mine
namespace Mine
section
variable {prog : Program} {w : World} {A : Around} {E : Value → Shared → Prop} {s : Shared} {h₀ : Heap} {L : Addr} {news : List (Addr × Obj)} {a b : Value} {d : Dat} {Q : Value → Shared → Prop}
theorem ne_dat (N : News h₀ L s.heap news) (Da : DatIn news a d) (Db : DatIn news b d) (hk : kqdOk 8 d = true) (hu : A.units + 64 < cLine) (h : Q (.bool false) s) : wpAny (model prog w) A (compareOp .NotEq a b) Q E s := by
  obtain ⟨as, ra⟩ := kqd_in N 8 Da hk
  obtain ⟨bs, rb⟩ := kqd_in N 8 Db hk
  have la := kqd_lay 8 d hk
  have e : PyData.eqv (kqdP d) (kqdP d) = true := (kqd_eqv 8 d d 8 hk hk).mpr rfl
  have hs : SeqAt.shaped (kqdP d) = true := by
    unfold SeqAt.shaped; rw [la.1, Bool.true_and]; exact decide_eq_true (Nat.le_trans la.2 (by decide))
  refine ne_dataH ra rb hs hs hu ?_
  rw [e]
  exact h
end
theorem setD_ok (ps : List (Int × Int)) : kqdOk 8 (setD ps) = true := by
  simp only [setD, kqdOk, List.all_eq_true]
  intro d hd
  obtain ⟨p, _, rfl⟩ := List.mem_map.mp hd
  simp [pairD, kqdOk]
theorem strOk_txt {cs : List Int} (h : Asc cs) : PyData.strOk (txt cs) = true := by
  unfold PyData.strOk
  rw [Array.all_eq_true']
  intro c hc
  simp only [txt, KStt.txt] at hc
  simp at hc
  obtain ⟨n, hn, rfl⟩ := hc
  have := h n hn
  simp; omega
theorem woD_ok {ps : List (Int × Int)} (hg : ∀ p ∈ ps, Good p) (n : Nat) : kqdOk (n + 1) (woD (setW ps)) = true := by
  unfold setW
  split
  · simp [woD, kqdOk]
  · have h1 := strOk_txt (shS_asc ps hg).1
    have h2 : PyData.strOk (Str.ofString "atom") = true := by decide +kernel
    simp [woD, kqdOk, h1, h2]
theorem toldD_ok {ps qs : List (Int × Int)} (hp : ∀ p ∈ ps, Good p) (hq : ∀ p ∈ qs, Good p) : kqdOk 8 (toldD (setW ps) (setW qs)) = true := by
  have h1 := woD_ok hp 5
  have h2 := woD_ok hq 5
  have h3 : PyData.strOk (Str.ofString "atom") = true := by decide +kernel
  have h4 : PyData.strOk (Str.ofString "COPYUID") = true := by decide +kernel
  have h5 : PyData.strOk (Str.ofString "ok") = true := by decide +kernel
  have h6 : PyData.strOk (Str.ofString "t") = true := by decide +kernel
  have h7 : PyData.strOk (Str.ofString "done") = true := by decide +kernel
  simp [toldD, kqdOk, h1, h2, h3, h4, h5, h6, h7]
theorem dig_inj : ∀ m ∈ NUMS, ∀ n ∈ NUMS, (dig m = dig n ↔ m = n) := by decide +kernel
theorem txt_inj {a b : List Int} (ha : Asc a) (hb : Asc b) : txt a = txt b ↔ a = b := by
  constructor
  · intro h
    have h1 := txt_codes ha
    have h2 := txt_codes hb
    rw [h, h2] at h1
    exact h1.symm
  · intro h; rw [h]
/-- two sets have like plain values only if they are written alike -/
theorem law_nn {m n : Int} (hm : m ∈ NUMS) (hn : n ∈ NUMS) (m0 : 0 < m) (n0 : 0 < n) : (decide (m = n) == (txt (dig m) == txt (dig n))) = true := by
  have am := (nums_asc m hm).1
  have an := (nums_asc n hn).1
  rw [shE, if_neg (by omega)] at am an
  have h := dig_inj m hm n hn
  have h2 := txt_inj am an
  by_cases e : m = n
  · subst e; simp
  · have : ¬ txt (dig m) = txt (dig n) := fun x => e (h.mp (h2.mp x))
    simp [e, this]
theorem law_na {m : Int} {qs : List (Int × Int)} (hm : m ∈ NUMS) (m0 : 0 < m) (hq : ∀ p ∈ qs, Good p) (h1 : 1 ≤ qs.length) (hs : single qs = false) : ¬ txt (dig m) = txt (shS qs) := by
  have am := (nums_asc m hm).1
  rw [shE, if_neg (by omega)] at am
  intro e
  have e2 := (txt_inj am (shS_asc qs hq).1).mp e
  have h1 := atm_fig hq h1 hs
  rw [← e2] at h1
  have h3 := (dig_val m hm (by omega)).1
  have : ((dig m).all fun x => isFigure x) = true := by
    rw [List.all_eq_true]
    intro c hc
    have := h3 c hc
    simp [isFigure]; omega
  rw [this] at h1
  cases h1
end Mine
namespace Mine
section
variable {M : Model} {A : Around} {E : Value → Shared → Prop} {s : Shared} {h₀ : Heap} {L : Addr} {m : Str → Option Value} {env : Env} {news : List (Addr × Obj)}
/-- a list of ints that is not empty -/
def SrcMid (h₀ : Heap) (L : Addr) (m : Str → Option Value) (tb : List (Addr × Obj)) (s : Shared) (v : Value) (s' : Shared) : Prop :=
  ∃ (C : Addr) (vs : List Value) (ns : List Int) (k : Nat) (h' : Heap) (tk' : Nat), v = .ref C ∧ s' = { s with heap := h', toks := tk' } ∧ Fr h₀ L h' m ∧ News h₀ L h' ((C, W.listOf vs.toArray k) :: tb) ∧ IntsAre vs ns ∧ 0 < ns.length ∧ ns.length ≤ 60 ∧ ∀ q ∈ tb, q.1 ≠ C
theorem cut_src {e : Expr} {Q : Value → Shared → Prop} (tb : List (Addr × Obj)) (_F : Fr h₀ L s.heap m) (h1 : wpAny M A (eval e env) (SrcMid h₀ L m tb s) E s)
    (h2 : ∀ C vs ns k h' tk', Fr h₀ L h' m → News h₀ L h' ((C, W.listOf (List.toArray vs) k) :: tb) → IntsAre vs ns → 0 < ns.length → ns.length ≤ 60 → (∀ q ∈ tb, q.1 ≠ C) → Q (.ref C) { s with heap := h', toks := tk' }) : wpAny M A (eval e env) Q E s :=
  wpAny_mono h1 (fun v s' h => by
    obtain ⟨C, vs, ns, k, h', tk', rfl, rfl, F, N, a, b, c, d⟩ := h
    exact h2 C vs ns k h' tk' F N a b c d) fun _ _ h => h
theorem allLt_ne {d : Addr} : ∀ {l : List (Addr × Obj)}, AllLt d l → ∀ q ∈ l, q.1 ≠ d
  | [], _, _, hq => by cases hq
  | _ :: _, h, _, hq => by
    rcases List.mem_cons.mp hq with rfl | hq
    · exact Nat.ne_of_lt h.1
    · exact allLt_ne h.2 _ hq
end
theorem c_set_value {w : World} {v : Value} {led : List (Addr × Obj)} {ps : List (Int × Int)} (hv : DatIn led v (setD ps)) (hg : ∀ p ∈ ps, Good p) (hn : ps.length ≤ 4) (h1 : 1 ≤ ps.length) :
    Con w 612 [v] 70 700 led (fun v tl => ∃ a da t f1 f2, tl = woL w (setW ps) a da f1 f2 ++ led ∧ v = woV (setW ps) a t) := by
  by_cases h : single ps = true
  · obtain ⟨n, rfl, hn, h0, _⟩ := single_ex h hg
    refine (c_set_value_n hv hn h0).mono fun v tl p => ?_
    obtain ⟨rfl, t, rfl⟩ := p
    rw [setW, if_pos h]
    exact ⟨0, 0, t, 0, 0, rfl, rfl⟩
  · refine (c_set_value_a hv hg hn h1 (by simpa using h)).mono fun v tl p => ?_
    obtain ⟨a, da, t, t', rfl, rfl⟩ := p
    rw [setW, if_neg h]
    exact ⟨a, da, 0, t, t', rfl, rfl⟩
theorem split_some {S C T : Addr} {a : Int} {t : Tok} {n k : Nat} {vs : List Value} {oT : Obj} {l : List (Addr × Obj)} (o1 : ∀ q ∈ l, q.1 ≠ S) (o2 : ∀ q ∈ l, q.1 ≠ C) (o3 : T ≠ S) (o4 : T ≠ C) :
    Split ((S, W.listOf #[.ref C, .int a t] n) :: (C, W.listOf vs.toArray k) :: (T, oT) :: l) (srcL S C a t n vs k) ((T, oT) :: l) :=
  Split.take (.head _) (Split.take (.tail _ (.head _)) (Split.keep (all_cons o3 (all_cons o4 all_nil)) (Split.end_ (all_cons o1 (all_cons o2 all_nil)))))
section
variable {prog : Program} {w : World} {A : Around} {E : Value → Shared → Prop} {s : Shared} {h₀ : Heap} {L : Addr} {news : List (Addr × Obj)}
theorem tup_item {value slice : Expr} {a : Addr} {l : List Value} {k : Int} {u : Tok} {n j : Nat} {x : Value} {Q : Value → Shared → Prop} (N : News h₀ L s.heap news) (hm : (a, ({ cls := .type "tuple", data := .seq l.toArray n } : Obj)) ∈ news)
    (hb : 0 ≤ k ∧ k < 8) (hj : seqIndex? k l.length = some j) (hx : l[j]? = some x) (h : Q x s)
    (hs : subscripted slice false (.ref a) (.int k u) = operate [.ref a, .int k u] (getItem (.ref a) (.int k u)) := by with_unfolding_all rfl) :
    wpAny (model prog w) A (subscriptTail value slice (.ref a) (.int k u)) Q E s := item_tupleT (News.isTup N hm) (by omega) (by omega) hj hx h hs
end
theorem setW_num {n : Int} (h : single [(n, n)] = true) : setW [(n, n)] = .num n := by rw [setW, if_pos h]; rfl
theorem setW_atm {ps : List (Int × Int)} (h : single ps = false) : setW ps = .atm (txt (shS ps)) := by rw [setW, if_neg (by simp [h])]
theorem str_num {n : Int} {cs : List Int} (h : cs = dig n) : (Str.ofString (toString n) != txt cs) = false := by rw [h, ← ofString_dig]; simp
theorem str_same {x : Str} : (x != x) = false := by simp
theorem pack_of {h₀ h : Heap} {L x d : Addr} {o1 o2 : Obj} {l big : List (Addr × Obj)} (N : News h₀ L h (l ++ (x, o1) :: (d, o2) :: big)) : ∃ big2, News h₀ L h big2 ∧ (x, o1) ∈ big2 ∧ (d, o2) ∈ big2 ∧ (∀ p ∈ l, p ∈ big2) ∧ (∀ p ∈ big, p ∈ big2) :=
  ⟨_, N, by simp, by simp, fun p hp => by simp [hp], fun p hp => by simp [hp]⟩
theorem lit_head : Str.ofString "t OK [COPYUID 7 " = txt HEAD := by decide +kernel
theorem lit_blank : Str.ofString " " = txt [32] := by decide +kernel
theorem lit_tail : Str.ofString "] done\r\n" = txt TAIL := by decide +kernel
theorem line_glued {x y : List Int} : HEAD ++ x ++ [32] ++ y ++ TAIL = lineL x y := by simp [lineL]
theorem line_len (x y : List Int) : (lineL x y).length = x.length + y.length + 25 := by simp [lineL, HEAD, TAIL]; omega
theorem ans_of {w : World} {news : List (Addr × Obj)} {q1 q2 : Wo} {T C a0 d0 a1 d1 a2 d2 : Addr} {e1 e2 e3 e4 e5 e6 e7 e8 f1 f2 f3 f4 : Tok} {n : Nat} (hT : (T, ({ cls := Value.type "tuple", data := Data.seq #[.str (Str.ofString "ok") e1, .str (Str.ofString "t") e2, .ref C, .str (Str.ofString "done") e3] } : Obj)) ∈ news)
    (hC : (C, W.listOf #[.ref a0, .int 7 e4, woV q1 a1 e5, woV q2 a2 e6] n) ∈ news) (mX : (a0, instObj 297 d0) ∈ news) (mXd : (d0, dictOf [⟨PyData.keyHash w.params (Str.ofString "text"), .str (Str.ofString "text") e7, .str (Str.ofString "COPYUID") e8⟩] 1) ∈ news)
    (mA : ∀ p ∈ woL w q1 a1 d1 f1 f2, p ∈ news) (mB : ∀ p ∈ woL w q2 a2 d2 f3 f4, p ∈ news) : ∃ l, AnsIs w q1 q2 (.ref T) l ∧ ∀ p ∈ l, p ∈ news := by
  refine ⟨_, ⟨T, C, a0, d0, a1, d1, a2, d2, _, _, e1, e2, e3, e4, e5, e6, e7, e8, f1, f2, f3, f4, n, rfl, rfl, rfl, rfl⟩, fun p hp => ?_⟩
  simp only [atomL, List.mem_cons, List.mem_append, List.not_mem_nil, or_false] at hp
  rcases hp with h | h | (h | h) | h | h
  · rw [h]; exact hT
  · rw [h]; exact hC
  · rw [h]; exact mX
  · rw [h]; exact mXd
  · exact mA p h
  · exact mB p h
theorem dat_ref {news : List (Addr × Obj)} {v : Value} {ds : List Dat} (h : DatIn news v (.tuple ds)) : ∃ a, v = .ref a := by
  cases h with
  | tuple _ _ => exact ⟨_, rfl⟩
theorem written {ps qs : List (Int × Int)} (hp : ∀ p ∈ ps, Good p) (hq : ∀ p ∈ qs, Good p) : stL (setW ps) (setW qs) ++ [13, 10] = lineL (shS ps) (shS qs) := by rw [stL_line, woC_setW hp, woC_setW hq]
theorem split_first {S C : Addr} {a : Int} {t : Tok} {n k : Nat} {vs : List Value} {l : List (Addr × Obj)} (o1 : ∀ q ∈ l, q.1 ≠ S) (o2 : ∀ q ∈ l, q.1 ≠ C) :
    Split ((S, W.listOf #[.ref C, .int a t] n) :: (C, W.listOf vs.toArray k) :: l) (srcL S C a t n vs k) l :=
  Split.take (.head _) (Split.take (.tail _ (.head _)) (Split.end_ (all_cons o1 (all_cons o2 all_nil))))
theorem off_app {a b : List (Addr × Obj)} {S : Addr} (h1 : ∀ q ∈ a, q.1 ≠ S) (h2 : ∀ q ∈ b, q.1 ≠ S) : ∀ q ∈ a ++ b, q.1 ≠ S := fun q hq => (List.mem_append.mp hq).elim (h1 q) (h2 q)
theorem pack3 {h₀ h : Heap} {L T C : Addr} {o1 o2 : Obj} {x : Addr × Obj} {big : List (Addr × Obj)} (N : News h₀ L h (x :: (T, o1) :: (C, o2) :: big)) : ∃ big3, News h₀ L h big3 ∧ (T, o1) ∈ big3 ∧ (C, o2) ∈ big3 ∧ (∀ p ∈ big, p ∈ big3) :=
  ⟨_, N, by simp, by simp, fun p hp => by simp [hp]⟩
section
variable {prog : Program} {w : World} {A : Around} {E : Value → Shared → Prop} {s : Shared} {Q : Value → Shared → Prop} {t u : Tok} {b : Bool}
theorem eq_same (h : Q (.bool true) s) : wpAny (model prog w) A (compareOp .Eq (.bool b) (.bool b)) Q E s := by
  refine PyProof.Rows.eq_bool ?_
  rw [beq_self_eq_true]
  exact h
theorem cmp_plain {ps qs : List (Int × Int)} (hp : ∀ p ∈ ps, Good p) (hq : ∀ p ∈ qs, Good p) (p1 : 1 ≤ ps.length) (q1 : 1 ≤ qs.length) (h : Q (.bool (txt (shS ps) == txt (shS qs))) s) :
    wpAny (model prog w) A (compareOp .Eq (woP (setW ps) t) (woP (setW qs) u)) Q E s := by
  by_cases hs : single ps = true
  · obtain ⟨n, rfl, hn, hn0, hsh⟩ := single_ex hs hp
    by_cases ht : single qs = true
    · obtain ⟨m, rfl, hm, hm0, hth⟩ := single_ex ht hq
      rw [setW_num hs, setW_num ht]
      refine PyProof.Rows.eq_int ?_
      have e := law_nn hn hm hn0 hm0
      rw [hsh, hth] at h
      rw [beq_iff_eq] at e
      rw [← e] at h
      exact h
    · have ht : single qs = false := by simpa using ht
      rw [setW_num hs, setW_atm ht]
      refine EqMixed.eq_int_str ?_
      have e := law_na hn hn0 hq q1 ht
      rw [hsh] at h
      have e2 : (txt (dig n) == txt (shS qs)) = false := by simpa using e
      rw [e2] at h
      exact h
  · have hs : single ps = false := by simpa using hs
    by_cases ht : single qs = true
    · obtain ⟨m, rfl, hm, hm0, hth⟩ := single_ex ht hq
      rw [setW_atm hs, setW_num ht]
      refine EqMixed.eq_str_int ?_
      have e := law_na hm hm0 hp p1 hs
      rw [hth] at h
      have e2 : (txt (shS ps) == txt (dig m)) = false := by simpa using fun x => e (Eq.symm x)
      rw [e2] at h
      exact h
    · have ht : single qs = false := by simpa using ht
      rw [setW_atm hs, setW_atm ht]
      exact PyProof.Rows.eq_str h
end
end Mine
section
local macro_rules | `(tactic| walk_at "call ref") => `(tactic| ((fail_if_success (with_reducible show wpAny _ _ (call (Value.ref 297) _) _ _ _)); refine Stop.out ?_))
local macro_rules | `(tactic| k_mem) => `(tactic| (with_reducible first | assumption | exact List.mem_cons_self | exact List.mem_cons_of_mem _ List.mem_cons_self | exact List.mem_cons_of_mem _ (List.mem_cons_of_mem _ List.mem_cons_self) | exact List.mem_cons_of_mem _ (by assumption)))
local macro_rules | `(tactic| walk_at "TUPI") => `(tactic| (k_here; (with_reducible show wpAny _ _ (subscriptTail _ _ (Value.ref _) (Value.int _ _)) _ _ _); k_dflt (refine' tup_item ?nn ?hm ?hb ?hj ?hx ?_; (case nn => k_asm); (case hm => with_reducible assumption); (case hb => decide); (case hj => exact rfl); (case hx => exact rfl))))
local macro_rules | `(tactic| walk_at "subscriptTail") => `(tactic| walk_at "TUPI")
local macro_rules | `(tactic| walk_at "subscriptTail Name Constant ref int") => `(tactic| walk_at "TUPI")
local macro_rules | `(tactic| walk_at "subscriptTail Subscript Constant ref int") => `(tactic| walk_at "TUPI")
local macro_rules | `(tactic| walk_at "ite") => `(tactic| first
  | with_reducible refine ite_tt ?_ | with_reducible refine ite_ff ?_
  | (k_openite; first | (refine ite_pos (by with_reducible assumption) ?_) | (refine ite_neg (by with_reducible assumption) ?_) | (refine ite_isFalse (by with_reducible assumption) ?_) | (refine ite_pos (by decide) ?_) | (refine ite_neg (by decide) ?_)))
local macro_rules | `(tactic| walk_at "compareOp NotEq ref ref") => `(tactic| (refine Stop.out ?_))
local macro_rules | `(tactic| walk_at "call builtin:len") => `(tactic| (k_here; (with_reducible refine' len_tup ?a ?b ?c ?d ?_); k_dflt ((case a => k_asm); (case b => k_mem); (case c => assumption); (case d => omega))))
local macro_rules | `(tactic| walk_at "binaryOp Add str str") => `(tactic| (k_here; (with_reducible refine' add_txt ?a ?b ?c ?_); (case a => walk_at "LIT"); (case b => walk_at "LIT"); (case c => walk_at "SUM"); intro _ _))
local macro_rules | `(tactic| walk_at "LIT") => `(tactic| first | exact lit_head | exact lit_blank | exact lit_tail)
local macro_rules | `(tactic| walk_at "eval ListComp") => `(tactic| ((rename TAIL.length = 8 => hTT); k_here; k_dflt (refine' listcomp_text (by k_asm) (by with_unfolding_all rfl) (by decide) (by rfl) (by decide) (by rfl) ?_)))
local macro_rules | `(tactic| walk_at "compareOp Eq bool bool") => `(tactic| (k_here; refine eq_same ?_))
namespace Mine
theorem whole.tw10000958634945066235 : True := trivial
theorem whole.tw10002100669626812175 : True := trivial
theorem whole.tw10019450917411332427 : True := trivial
theorem whole.tw10025635815308576066 : True := trivial
theorem whole.tw10025991395723482450 : True := trivial
theorem whole.tw10151842457417960038 : True := trivial
theorem whole.tw10153838690179905649 : True := trivial
theorem whole.tw1021466310418864216 : True := trivial
theorem whole.tw10219327507634694686 : True := trivial
theorem whole.tw10240183823617578283 : True := trivial
theorem whole.tw1028817268384753636 : True := trivial
theorem whole.tw10301362462094837657 : True := trivial
theorem whole.tw10332575325313852403 : True := trivial
theorem whole.tw10335108021726791369 : True := trivial
theorem whole.tw10339747121181971505 : True := trivial
theorem whole.tw10344827342348678470 : True := trivial
theorem whole.tw10379991877525085312 : True := trivial
theorem whole.tw10387336663765257279 : True := trivial
theorem whole.tw10393562808733323261 : True := trivial
theorem whole.tw10412668953605463793 : True := trivial
theorem whole.tw10423522819347714589 : True := trivial
theorem whole.tw10446497943914359417 : True := trivial
theorem whole.tw10472183733418339316 : True := trivial
theorem whole.tw10475443434110032687 : True := trivial
theorem whole.tw1047630922221454212 : True := trivial
theorem whole.tw10488504414272976643 : True := trivial
theorem whole.tw10506178692543837059 : True := trivial
theorem whole.tw1053576622031914459 : True := trivial
theorem whole.tw10553060692774321354 : True := trivial
theorem whole.tw10565146586650446459 : True := trivial
theorem whole.tw1058133836064258550 : True := trivial
theorem whole.tw10602399703277881627 : True := trivial
theorem whole.tw10616696396452150886 : True := trivial
theorem whole.tw10646667717487897683 : True := trivial
theorem whole.tw10654317064775040509 : True := trivial
theorem whole.tw10687446343889991496 : True := trivial
theorem whole.tw1072497446573119103 : True := trivial
theorem whole.tw10749463760870054271 : True := trivial
theorem whole.tw10765999639320066096 : True := trivial
theorem whole.tw10795012362202508061 : True := trivial
theorem whole.tw10805158454514937742 : True := trivial
theorem whole.tw10832908153356258463 : True := trivial
theorem whole.tw10838650209671834137 : True := trivial
theorem whole.tw10840090224303567227 : True := trivial
theorem whole.tw10887019763833697050 : True := trivial
theorem whole.tw10922663048198985862 : True := trivial
theorem whole.tw10951800313117414527 : True := trivial
theorem whole.tw10981959625080579500 : True := trivial
theorem whole.tw11016684239938642134 : True := trivial
theorem whole.tw11027412199618322810 : True := trivial
theorem whole.tw11030684522653666869 : True := trivial
theorem whole.tw11100186960236547562 : True := trivial
theorem whole.tw11116944545036436439 : True := trivial
theorem whole.tw11124209341801176217 : True := trivial
theorem whole.tw1114806542021703131 : True := trivial
theorem whole.tw11168554632963773920 : True := trivial
theorem whole.tw11187447588885237514 : True := trivial
theorem whole.tw11188280186532128609 : True := trivial
theorem whole.tw11219503280623407775 : True := trivial
theorem whole.tw11243603205920247706 : True := trivial
theorem whole.tw11316320225543275868 : True := trivial
theorem whole.tw11331365046741114882 : True := trivial
theorem whole.tw11348535963810952348 : True := trivial
theorem whole.tw11357175057958205107 : True := trivial
theorem whole.tw11381483407923586241 : True := trivial
theorem whole.tw11392060985427220233 : True := trivial
theorem whole.tw11395692770084462984 : True := trivial
theorem whole.tw11401351377558187561 : True := trivial
theorem whole.tw11409993775148365219 : True := trivial
theorem whole.tw11423436602419212718 : True := trivial
theorem whole.tw11447198823506915613 : True := trivial
theorem whole.tw11476502588441444683 : True := trivial
theorem whole.tw1147815978188729584 : True := trivial
theorem whole.tw11579432869886197636 : True := trivial
theorem whole.tw11618948946589211957 : True := trivial
theorem whole.tw11652624631766696257 : True := trivial
theorem whole.tw11670040512431834200 : True := trivial
theorem whole.tw11670093711784454257 : True := trivial
theorem whole.tw11678933692714762019 : True := trivial
theorem whole.tw11690859581915506653 : True := trivial
theorem whole.tw11746468281252436920 : True := trivial
theorem whole.tw11775131333759173506 : True := trivial
theorem whole.tw11777355322855799659 : True := trivial
theorem whole.tw11792362355297244138 : True := trivial
theorem whole.tw11793381155483064346 : True := trivial
theorem whole.tw1182916100746360932 : True := trivial
theorem whole.tw11831613935261219028 : True := trivial
theorem whole.tw11836910150536664915 : True := trivial
theorem whole.tw11841974853317911985 : True := trivial
theorem whole.tw11852944053547321950 : True := trivial
theorem whole.tw11862022474199680377 : True := trivial
theorem whole.tw11896201609302106115 : True := trivial
theorem whole.tw11952309323241053379 : True := trivial
theorem whole.tw11959834037327795482 : True := trivial
theorem whole.tw11966515284280811977 : True := trivial
theorem whole.tw11975771152792504044 : True := trivial
theorem whole.tw11988251369728918034 : True := trivial
theorem whole.tw1200200279266715423 : True := trivial
theorem whole.tw12063277863729348616 : True := trivial
theorem whole.tw12064908160898778525 : True := trivial
theorem whole.tw12066178620653064874 : True := trivial
theorem whole.tw12077107353733055826 : True := trivial
theorem whole.tw12098860561503762481 : True := trivial
theorem whole.tw12101772971524344381 : True := trivial
theorem whole.tw12111672374848980225 : True := trivial
theorem whole.tw12114987751065605754 : True := trivial
theorem whole.tw12117460353608821864 : True := trivial
theorem whole.tw1217171336636241682 : True := trivial
theorem whole.tw12179455670472476543 : True := trivial
theorem whole.tw12180422818723984309 : True := trivial
theorem whole.tw12186894253409539890 : True := trivial
theorem whole.tw1219099391390118749 : True := trivial
theorem whole.tw12207685810698929643 : True := trivial
theorem whole.tw12219512705738599021 : True := trivial
theorem whole.tw12294887724330564330 : True := trivial
theorem whole.tw12330158387926722826 : True := trivial
theorem whole.tw12365302626169338283 : True := trivial
theorem whole.tw12381228794656768651 : True := trivial
theorem whole.tw12384909515848061526 : True := trivial
theorem whole.tw12442016628978143412 : True := trivial
theorem whole.tw12471785041798745281 : True := trivial
theorem whole.tw12499812526503966003 : True := trivial
theorem whole.tw12505054689143061370 : True := trivial
theorem whole.tw12507882389757649525 : True := trivial
theorem whole.tw12509332252045503800 : True := trivial
theorem whole.tw12546187051103005520 : True := trivial
theorem whole.tw12548274353314379123 : True := trivial
theorem whole.tw12562849145585476731 : True := trivial
theorem whole.tw12590650055501746483 : True := trivial
theorem whole.tw12591319150774080885 : True := trivial
theorem whole.tw12620984872611610876 : True := trivial
theorem whole.tw12670536560144379023 : True := trivial
theorem whole.tw12698311456782994138 : True := trivial
theorem whole.tw12722690725976728532 : True := trivial
theorem whole.tw1273583120585336579 : True := trivial
theorem whole.tw12740454516981205806 : True := trivial
theorem whole.tw12742087137024979937 : True := trivial
theorem whole.tw127423454215802840 : True := trivial
theorem whole.tw12755130789335188444 : True := trivial
theorem whole.tw12762855891700095494 : True := trivial
theorem whole.tw12810356135173068295 : True := trivial
theorem whole.tw12822312845597364044 : True := trivial
theorem whole.tw12850242359631670003 : True := trivial
theorem whole.tw12919474184346423062 : True := trivial
theorem whole.tw12920395458479335663 : True := trivial
theorem whole.tw12928932934922122878 : True := trivial
theorem whole.tw12950736950494245602 : True := trivial
theorem whole.tw1299319290729411920 : True := trivial
theorem whole.tw13045181716907704641 : True := trivial
theorem whole.tw13061340530893119238 : True := trivial
theorem whole.tw13142167418276237254 : True := trivial
theorem whole.tw13143666931850650640 : True := trivial
theorem whole.tw13149474316023798553 : True := trivial
theorem whole.tw13155097880312403346 : True := trivial
theorem whole.tw13156973312945586846 : True := trivial
theorem whole.tw1318554304652621475 : True := trivial
theorem whole.tw13194138843973143861 : True := trivial
theorem whole.tw1321319160052600332 : True := trivial
theorem whole.tw13285438998962464343 : True := trivial
theorem whole.tw1329479340354266572 : True := trivial
theorem whole.tw13297878767709546727 : True := trivial
theorem whole.tw13325104327702632178 : True := trivial
theorem whole.tw13329942582686594379 : True := trivial
theorem whole.tw13334927893685096626 : True := trivial
theorem whole.tw13338602894797744146 : True := trivial
theorem whole.tw1335791156554467795 : True := trivial
theorem whole.tw13373713576854631141 : True := trivial
theorem whole.tw13378299312815860171 : True := trivial
theorem whole.tw13397667615521693709 : True := trivial
theorem whole.tw13399198550693968896 : True := trivial
theorem whole.tw13406957107772272364 : True := trivial
theorem whole.tw1342645848660009235 : True := trivial
theorem whole.tw13434065944014204811 : True := trivial
theorem whole.tw13463558215457259582 : True := trivial
theorem whole.tw13466531369813336011 : True := trivial
theorem whole.tw13468676432958742306 : True := trivial
theorem whole.tw13478315594510353802 : True := trivial
theorem whole.tw1349178898306187914 : True := trivial
theorem whole.tw1350920760672359567 : True := trivial
theorem whole.tw13518702907885339924 : True := trivial
theorem whole.tw1353902047762577225 : True := trivial
theorem whole.tw13562979760119101899 : True := trivial
theorem whole.tw1357757348178948127 : True := trivial
theorem whole.tw1363506702145506021 : True := trivial
theorem whole.tw13664935262549406174 : True := trivial
theorem whole.tw13675596732203519343 : True := trivial
theorem whole.tw13679757057165986330 : True := trivial
theorem whole.tw1371446737807839366 : True := trivial
theorem whole.tw13719171679594634575 : True := trivial
theorem whole.tw13730376311393935369 : True := trivial
theorem whole.tw13749801708979339770 : True := trivial
theorem whole.tw13760198194640045919 : True := trivial
theorem whole.tw13762013822233420738 : True := trivial
theorem whole.tw137721658169608169 : True := trivial
theorem whole.tw13823951767099335047 : True := trivial
theorem whole.tw13835169320686990480 : True := trivial
theorem whole.tw13876266882482020314 : True := trivial
theorem whole.tw1393339623888494026 : True := trivial
theorem whole.tw13960669724093699300 : True := trivial
theorem whole.tw13962616709173656972 : True := trivial
theorem whole.tw13974613887430780637 : True := trivial
theorem whole.tw13989200534822022692 : True := trivial
theorem whole.tw14047333959232290054 : True := trivial
theorem whole.tw14062873862729552008 : True := trivial
theorem whole.tw14117439955800268797 : True := trivial
theorem whole.tw1412321817957314676 : True := trivial
theorem whole.tw14138553856905868755 : True := trivial
theorem whole.tw14165590967655844809 : True := trivial
theorem whole.tw14173393766343599159 : True := trivial
theorem whole.tw14239292526413980002 : True := trivial
theorem whole.tw14328502944104624683 : True := trivial
theorem whole.tw14339919399903518487 : True := trivial
theorem whole.tw14340079683799668620 : True := trivial
theorem whole.tw14381574177426341226 : True := trivial
theorem whole.tw14390007995909808975 : True := trivial
theorem whole.tw14398828562116658018 : True := trivial
theorem whole.tw14407849266092530191 : True := trivial
theorem whole.tw14443708556783366652 : True := trivial
theorem whole.tw14457598465852218886 : True := trivial
theorem whole.tw14493418047887008292 : True := trivial
theorem whole.tw14543880540352543434 : True := trivial
theorem whole.tw14590790631899776401 : True := trivial
theorem whole.tw14592908492388784131 : True := trivial
theorem whole.tw14628220171574447489 : True := trivial
theorem whole.tw14654356449610600485 : True := trivial
theorem whole.tw14661705875561194100 : True := trivial
theorem whole.tw14676366378414606867 : True := trivial
theorem whole.tw1469139166737108290 : True := trivial
theorem whole.tw1469495571348798126 : True := trivial
theorem whole.tw14725644924352215136 : True := trivial
theorem whole.tw14732348922388339242 : True := trivial
theorem whole.tw14756447051001558117 : True := trivial
theorem whole.tw14765760737338471991 : True := trivial
theorem whole.tw14776171463994254414 : True := trivial
theorem whole.tw14852934547574820571 : True := trivial
theorem whole.tw14863180981096415481 : True := trivial
theorem whole.tw14875044017630859624 : True := trivial
theorem whole.tw14877643965249282964 : True := trivial
theorem whole.tw1488662743745869538 : True := trivial
theorem whole.tw14890280090424698046 : True := trivial
theorem whole.tw14916202748087371944 : True := trivial
theorem whole.tw14998389939795375158 : True := trivial
theorem whole.tw15001587830400145190 : True := trivial
theorem whole.tw15013576625721048695 : True := trivial
theorem whole.tw15015764479258077956 : True := trivial
theorem whole.tw15056543410393913677 : True := trivial
theorem whole.tw15089273742334493110 : True := trivial
theorem whole.tw1509033169537457064 : True := trivial
theorem whole.tw15103685750691789098 : True := trivial
theorem whole.tw15105012252411618398 : True := trivial
theorem whole.tw15117479482001565679 : True := trivial
theorem whole.tw15181447364051087158 : True := trivial
theorem whole.tw15206955865107345967 : True := trivial
theorem whole.tw15213816345297606680 : True := trivial
theorem whole.tw15281802890647197503 : True := trivial
theorem whole.tw15285801702533195368 : True := trivial
theorem whole.tw15338273372565686330 : True := trivial
theorem whole.tw15378237364648624877 : True := trivial
theorem whole.tw15401142651479110994 : True := trivial
theorem whole.tw15462414832971340256 : True := trivial
theorem whole.tw15469157617142141710 : True := trivial
theorem whole.tw15490696404161045352 : True := trivial
theorem whole.tw15539963934695697727 : True := trivial
theorem whole.tw15564212434770411261 : True := trivial
theorem whole.tw15590627282705473993 : True := trivial
theorem whole.tw15652777202477211125 : True := trivial
theorem whole.tw15657491793718945610 : True := trivial
theorem whole.tw15680802009173567957 : True := trivial
theorem whole.tw15695161780090201225 : True := trivial
theorem whole.tw15716183405302250479 : True := trivial
theorem whole.tw1573668984985804180 : True := trivial
theorem whole.tw15753584648845244147 : True := trivial
theorem whole.tw15761127226676153883 : True := trivial
theorem whole.tw15771390255919318617 : True := trivial
theorem whole.tw1579314106941295789 : True := trivial
theorem whole.tw15803673994437570577 : True := trivial
theorem whole.tw15811116968426213322 : True := trivial
theorem whole.tw15819564801051643881 : True := trivial
theorem whole.tw15835130817642446534 : True := trivial
theorem whole.tw15848567645679474065 : True := trivial
theorem whole.tw1587768003098754325 : True := trivial
theorem whole.tw15930047269337530508 : True := trivial
theorem whole.tw15950631773475717186 : True := trivial
theorem whole.tw16000088419691856984 : True := trivial
theorem whole.tw16008101280253657391 : True := trivial
theorem whole.tw1601961968588287001 : True := trivial
theorem whole.tw16026843855606243410 : True := trivial
theorem whole.tw16062187612904122858 : True := trivial
theorem whole.tw16092883397559337554 : True := trivial
theorem whole.tw16111274487264414774 : True := trivial
theorem whole.tw161295022889997188 : True := trivial
theorem whole.tw161333873384909080 : True := trivial
theorem whole.tw16151222146762293071 : True := trivial
theorem whole.tw161632788893874429 : True := trivial
theorem whole.tw16191896734375390133 : True := trivial
theorem whole.tw16304597587823193687 : True := trivial
theorem whole.tw16316554137538487329 : True := trivial
theorem whole.tw16337621169857538619 : True := trivial
theorem whole.tw1633898876240874773 : True := trivial
theorem whole.tw16395379286268932709 : True := trivial
theorem whole.tw16398205279857054297 : True := trivial
theorem whole.tw1640677438868554593 : True := trivial
theorem whole.tw16416134952452293984 : True := trivial
theorem whole.tw16437039913409361110 : True := trivial
theorem whole.tw16442725811781728823 : True := trivial
theorem whole.tw1645590182628983409 : True := trivial
theorem whole.tw16467933323881711526 : True := trivial
theorem whole.tw16505068655815891843 : True := trivial
theorem whole.tw16524091361303921489 : True := trivial
theorem whole.tw16529046165737248422 : True := trivial
theorem whole.tw16564990636065421569 : True := trivial
theorem whole.tw16576061068926947915 : True := trivial
theorem whole.tw16586233370728154131 : True := trivial
theorem whole.tw16588625043399567139 : True := trivial
theorem whole.tw16607669324509118938 : True := trivial
theorem whole.tw16616245412964173377 : True := trivial
theorem whole.tw16668768811381343612 : True := trivial
theorem whole.tw16691007607992939502 : True := trivial
theorem whole.tw16708263669468244151 : True := trivial
theorem whole.tw16710806586956947785 : True := trivial
theorem whole.tw16721588368965777027 : True := trivial
theorem whole.tw16731332320388202666 : True := trivial
theorem whole.tw16732526662816644420 : True := trivial
theorem whole.tw16738726308800667447 : True := trivial
theorem whole.tw16739781802365451968 : True := trivial
theorem whole.tw16776181094733218394 : True := trivial
theorem whole.tw16800997667575721541 : True := trivial
theorem whole.tw16827500432841332687 : True := trivial
theorem whole.tw16845944245580146995 : True := trivial
theorem whole.tw16912792503757511054 : True := trivial
theorem whole.tw16941454671938913892 : True := trivial
theorem whole.tw16986268789631483586 : True := trivial
theorem whole.tw1699034841665187622 : True := trivial
theorem whole.tw17022761755405916213 : True := trivial
theorem whole.tw17037309529492816295 : True := trivial
theorem whole.tw17044950167386977207 : True := trivial
theorem whole.tw17060747222450192753 : True := trivial
theorem whole.tw17092094596097150618 : True := trivial
theorem whole.tw1710221593020227077 : True := trivial
theorem whole.tw17128258169734466478 : True := trivial
theorem whole.tw17169624498616045403 : True := trivial
theorem whole.tw17175942615292613127 : True := trivial
theorem whole.tw17179786008130999086 : True := trivial
theorem whole.tw17195952149560314771 : True := trivial
theorem whole.tw17221409760620009834 : True := trivial
theorem whole.tw17256302963761357986 : True := trivial
theorem whole.tw17258676653681215673 : True := trivial
theorem whole.tw17293853786120715770 : True := trivial
theorem whole.tw17333791097184162534 : True := trivial
theorem whole.tw1733744953317856445 : True := trivial
theorem whole.tw17395194986337826024 : True := trivial
theorem whole.tw17454085226186693669 : True := trivial
theorem whole.tw17473765248736567162 : True := trivial
theorem whole.tw17475311184863085016 : True := trivial
theorem whole.tw17480726222106551122 : True := trivial
theorem whole.tw17529894129228449367 : True := trivial
theorem whole.tw1756852003900359147 : True := trivial
theorem whole.tw17580786090293021976 : True := trivial
theorem whole.tw17583434110615651305 : True := trivial
theorem whole.tw17598439363315890097 : True := trivial
theorem whole.tw1761222057020643473 : True := trivial
theorem whole.tw17641713804859348092 : True := trivial
theorem whole.tw1765076044715932963 : True := trivial
theorem whole.tw17659150536888882668 : True := trivial
theorem whole.tw17700112632457955127 : True := trivial
theorem whole.tw17708391408692131970 : True := trivial
theorem whole.tw17756055853247313500 : True := trivial
theorem whole.tw17768757769460313278 : True := trivial
theorem whole.tw17781206938751360472 : True := trivial
theorem whole.tw17789319016849944305 : True := trivial
theorem whole.tw17814491789457634051 : True := trivial
theorem whole.tw17818493641747277991 : True := trivial
theorem whole.tw17819583843959417973 : True := trivial
theorem whole.tw17841917278309519415 : True := trivial
theorem whole.tw17843127513448600897 : True := trivial
theorem whole.tw17870152368367076345 : True := trivial
theorem whole.tw17870853324313594786 : True := trivial
theorem whole.tw17881794589497109145 : True := trivial
theorem whole.tw17886057370482458864 : True := trivial
theorem whole.tw17933440416606161858 : True := trivial
theorem whole.tw17945471581576359013 : True := trivial
theorem whole.tw17948893368442150300 : True := trivial
theorem whole.tw17980908128825299112 : True := trivial
theorem whole.tw17991299263585117788 : True := trivial
theorem whole.tw18002909038890314157 : True := trivial
theorem whole.tw18026328337398066365 : True := trivial
theorem whole.tw18135788421098096370 : True := trivial
theorem whole.tw18145388855558949900 : True := trivial
theorem whole.tw18162983195158539490 : True := trivial
theorem whole.tw18186416632783805872 : True := trivial
theorem whole.tw18223413143505370273 : True := trivial
theorem whole.tw18293881159641894451 : True := trivial
theorem whole.tw18314547241281667657 : True := trivial
theorem whole.tw18315055452531851272 : True := trivial
theorem whole.tw18324492136986001645 : True := trivial
theorem whole.tw18354614867481654581 : True := trivial
theorem whole.tw18363153814535713890 : True := trivial
theorem whole.tw1836438579387980826 : True := trivial
theorem whole.tw18381488511043228445 : True := trivial
theorem whole.tw18382394861701510011 : True := trivial
theorem whole.tw18386381941678837628 : True := trivial
theorem whole.tw18402882695012882554 : True := trivial
theorem whole.tw1859146779660683823 : True := trivial
theorem whole.tw1893850866222049975 : True := trivial
theorem whole.tw1897105925431849711 : True := trivial
theorem whole.tw1902754551582867561 : True := trivial
theorem whole.tw1934810232205804993 : True := trivial
theorem whole.tw1975147037884041520 : True := trivial
theorem whole.tw1985066219578509453 : True := trivial
theorem whole.tw1999433592531618509 : True := trivial
theorem whole.tw2028823117376367632 : True := trivial
theorem whole.tw203428145850139289 : True := trivial
theorem whole.tw2047193779265307260 : True := trivial
theorem whole.tw2081632904089052959 : True := trivial
theorem whole.tw2083198920140632441 : True := trivial
theorem whole.tw213970696928864655 : True := trivial
theorem whole.tw2151346155558304222 : True := trivial
theorem whole.tw2151871088471828822 : True := trivial
theorem whole.tw2155487761632659812 : True := trivial
theorem whole.tw2166459464060227386 : True := trivial
theorem whole.tw2168223474955763204 : True := trivial
theorem whole.tw2198523743367551842 : True := trivial
theorem whole.tw2201306404548609547 : True := trivial
theorem whole.tw2210357269209322919 : True := trivial
theorem whole.tw2249504304506360813 : True := trivial
theorem whole.tw227304862334750897 : True := trivial
theorem whole.tw2290268214366725154 : True := trivial
theorem whole.tw2349701861695252166 : True := trivial
theorem whole.tw2362521522948952975 : True := trivial
theorem whole.tw2380868127642377217 : True := trivial
theorem whole.tw2400260428709048684 : True := trivial
theorem whole.tw2401531773124529735 : True := trivial
theorem whole.tw2404457027504551060 : True := trivial
theorem whole.tw2409123336234807113 : True := trivial
theorem whole.tw2412972146837434115 : True := trivial
theorem whole.tw2439357469168130064 : True := trivial
theorem whole.tw2469003464257525574 : True := trivial
theorem whole.tw2474167808764366809 : True := trivial
theorem whole.tw2536362301702204066 : True := trivial
theorem whole.tw254780913952180833 : True := trivial
theorem whole.tw2554714600840530319 : True := trivial
theorem whole.tw2558861820686608913 : True := trivial
theorem whole.tw2608646628457097981 : True := trivial
theorem whole.tw2626972384719194784 : True := trivial
theorem whole.tw2675290096998512546 : True := trivial
theorem whole.tw2685624786292725039 : True := trivial
theorem whole.tw2733790213765534055 : True := trivial
theorem whole.tw2755977992816859464 : True := trivial
theorem whole.tw2777902329107566167 : True := trivial
theorem whole.tw2783269125865542102 : True := trivial
theorem whole.tw280920844665842053 : True := trivial
theorem whole.tw285988719286631819 : True := trivial
theorem whole.tw2896436902973227457 : True := trivial
theorem whole.tw29202618045891971 : True := trivial
theorem whole.tw2937169305547731376 : True := trivial
theorem whole.tw2959683903145980101 : True := trivial
theorem whole.tw2962858822866373933 : True := trivial
theorem whole.tw2989192609971925910 : True := trivial
theorem whole.tw3016316376071577429 : True := trivial
theorem whole.tw302538394102154784 : True := trivial
theorem whole.tw3029818731915779892 : True := trivial
theorem whole.tw3085902745639715626 : True := trivial
theorem whole.tw3087226120313871188 : True := trivial
theorem whole.tw3099174332690161747 : True := trivial
theorem whole.tw3099485228618234346 : True := trivial
theorem whole.tw3113396638425256246 : True := trivial
theorem whole.tw3117049408229778687 : True := trivial
theorem whole.tw3118101993129739532 : True := trivial
theorem whole.tw3125283655325999989 : True := trivial
theorem whole.tw3127163415804763599 : True := trivial
theorem whole.tw3141554390599180669 : True := trivial
theorem whole.tw3150075250938504248 : True := trivial
theorem whole.tw3162264621223815677 : True := trivial
theorem whole.tw3162365515331879682 : True := trivial
theorem whole.tw3166543957339863982 : True := trivial
theorem whole.tw3168900989282067249 : True := trivial
theorem whole.tw3280129329062278201 : True := trivial
theorem whole.tw3306209509626126654 : True := trivial
theorem whole.tw3319232102181397200 : True := trivial
theorem whole.tw3336266095096057487 : True := trivial
theorem whole.tw3369746551918469629 : True := trivial
theorem whole.tw3384207784612787380 : True := trivial
theorem whole.tw3384858237140249800 : True := trivial
theorem whole.tw3388183141720772199 : True := trivial
theorem whole.tw340442491454447764 : True := trivial
theorem whole.tw3467671131507365174 : True := trivial
theorem whole.tw3482644124312780496 : True := trivial
theorem whole.tw3559878232441866632 : True := trivial
theorem whole.tw3604371722874584219 : True := trivial
theorem whole.tw3663764620366262164 : True := trivial
theorem whole.tw3687826684616867901 : True := trivial
theorem whole.tw3719598108804966507 : True := trivial
theorem whole.tw3720110479823389818 : True := trivial
theorem whole.tw3724477965614018403 : True := trivial
theorem whole.tw3733203681221829434 : True := trivial
theorem whole.tw3742335343461010818 : True := trivial
theorem whole.tw3774107025085352999 : True := trivial
theorem whole.tw3798757254938238448 : True := trivial
theorem whole.tw3802398583823018356 : True := trivial
theorem whole.tw381110514646162275 : True := trivial
theorem whole.tw3817958767811374121 : True := trivial
theorem whole.tw3831098155750919189 : True := trivial
theorem whole.tw3856153580267494730 : True := trivial
theorem whole.tw3860174431591174066 : True := trivial
theorem whole.tw3909395182359919685 : True := trivial
theorem whole.tw3911966217894400741 : True := trivial
theorem whole.tw3935972832432928633 : True := trivial
theorem whole.tw3945383572190744343 : True := trivial
theorem whole.tw3947618128840659280 : True := trivial
theorem whole.tw3971760220004402078 : True := trivial
theorem whole.tw397210227534267232 : True := trivial
theorem whole.tw4009164454077540199 : True := trivial
theorem whole.tw4023493105852641059 : True := trivial
theorem whole.tw4075336105160463354 : True := trivial
theorem whole.tw4086658223068553736 : True := trivial
theorem whole.tw409525538239758689 : True := trivial
theorem whole.tw4104619502420251389 : True := trivial
theorem whole.tw4107823604484434990 : True := trivial
theorem whole.tw4162360135600614074 : True := trivial
theorem whole.tw4163455835068889971 : True := trivial
theorem whole.tw4180466227808675834 : True := trivial
theorem whole.tw420889256603489644 : True := trivial
theorem whole.tw4217227278170078245 : True := trivial
theorem whole.tw4221266100470226451 : True := trivial
theorem whole.tw4234479992401935053 : True := trivial
theorem whole.tw427333557424167660 : True := trivial
theorem whole.tw431044224361937856 : True := trivial
theorem whole.tw4325337674984583414 : True := trivial
theorem whole.tw4337987958061720545 : True := trivial
theorem whole.tw4338333698743118245 : True := trivial
theorem whole.tw4346055641746905949 : True := trivial
theorem whole.tw435229417069212923 : True := trivial
theorem whole.tw4357746044423742650 : True := trivial
theorem whole.tw43722865635132848 : True := trivial
theorem whole.tw437534634077163847 : True := trivial
theorem whole.tw4381508105603032202 : True := trivial
theorem whole.tw4383604606248590591 : True := trivial
theorem whole.tw4407424652887510330 : True := trivial
theorem whole.tw4432250331352448483 : True := trivial
theorem whole.tw4441356404631880174 : True := trivial
theorem whole.tw4441961637666494936 : True := trivial
theorem whole.tw4444701892398472603 : True := trivial
theorem whole.tw4445204285082115520 : True := trivial
theorem whole.tw4447922135398794285 : True := trivial
theorem whole.tw4469111808269641240 : True := trivial
theorem whole.tw4478484345807364305 : True := trivial
theorem whole.tw4479364801722962140 : True := trivial
theorem whole.tw4487652198498899664 : True := trivial
theorem whole.tw4497405343062392443 : True := trivial
theorem whole.tw4500174473588537352 : True := trivial
theorem whole.tw4516712372641221423 : True := trivial
theorem whole.tw4535560162481520197 : True := trivial
theorem whole.tw4547022272760548326 : True := trivial
theorem whole.tw4559885085590827626 : True := trivial
theorem whole.tw4603890583814415204 : True := trivial
theorem whole.tw46433443316919834 : True := trivial
theorem whole.tw4672207989499910625 : True := trivial
theorem whole.tw4779742677757752892 : True := trivial
theorem whole.tw482805393138593929 : True := trivial
theorem whole.tw487143721646681983 : True := trivial
theorem whole.tw4881149852633135710 : True := trivial
theorem whole.tw4897329129694005586 : True := trivial
theorem whole.tw4901011727050283698 : True := trivial
theorem whole.tw4902818953507920398 : True := trivial
theorem whole.tw4909349585908861296 : True := trivial
theorem whole.tw4934077235998201596 : True := trivial
theorem whole.tw49618309497685836 : True := trivial
theorem whole.tw4977384430496418070 : True := trivial
theorem whole.tw5001923725869043736 : True := trivial
theorem whole.tw5015864234111024480 : True := trivial
theorem whole.tw5049987766257362985 : True := trivial
theorem whole.tw5055955640874334904 : True := trivial
theorem whole.tw5081031077709457048 : True := trivial
theorem whole.tw5099900934548537757 : True := trivial
theorem whole.tw5100489862065503989 : True := trivial
theorem whole.tw5137022389394785357 : True := trivial
theorem whole.tw5146043315109619605 : True := trivial
theorem whole.tw5159705281301196996 : True := trivial
theorem whole.tw5170085318457261871 : True := trivial
theorem whole.tw5171116725156735389 : True := trivial
theorem whole.tw5189780602208921310 : True := trivial
theorem whole.tw5219970640105433548 : True := trivial
theorem whole.tw5297632933804744799 : True := trivial
theorem whole.tw5349422690488739272 : True := trivial
theorem whole.tw5360207378560713126 : True := trivial
theorem whole.tw5361092306138085264 : True := trivial
theorem whole.tw536816803628104207 : True := trivial
theorem whole.tw5405151241437436114 : True := trivial
theorem whole.tw5408107943391738 : True := trivial
theorem whole.tw5433660331597885046 : True := trivial
theorem whole.tw543460287212350964 : True := trivial
theorem whole.tw5441638125044145263 : True := trivial
theorem whole.tw5460680643579594377 : True := trivial
theorem whole.tw5462770333876777704 : True := trivial
theorem whole.tw5507206668745343223 : True := trivial
theorem whole.tw5531847113258461380 : True := trivial
theorem whole.tw5532809562029925614 : True := trivial
theorem whole.tw5572964892545398623 : True := trivial
theorem whole.tw5586392500970708615 : True := trivial
theorem whole.tw561600600097829391 : True := trivial
theorem whole.tw5649241889958590350 : True := trivial
theorem whole.tw5662987942479315956 : True := trivial
theorem whole.tw5728154831901139425 : True := trivial
theorem whole.tw5730622077746504890 : True := trivial
theorem whole.tw5790326999694950120 : True := trivial
theorem whole.tw5798653541585068671 : True := trivial
theorem whole.tw5800983766791026078 : True := trivial
theorem whole.tw5803101561360292368 : True := trivial
theorem whole.tw5804886461390523402 : True := trivial
theorem whole.tw5833760311655045577 : True := trivial
theorem whole.tw5852837442982555326 : True := trivial
theorem whole.tw5882343337706715899 : True := trivial
theorem whole.tw5902289869349430576 : True := trivial
theorem whole.tw590541238101311183 : True := trivial
theorem whole.tw5938623499991607928 : True := trivial
theorem whole.tw5942346508108547180 : True := trivial
theorem whole.tw5980585785881701215 : True := trivial
theorem whole.tw5997644934508616594 : True := trivial
theorem whole.tw60084206612377972 : True := trivial
theorem whole.tw6018008695308894833 : True := trivial
theorem whole.tw6049599900894316688 : True := trivial
theorem whole.tw6067178945074143734 : True := trivial
theorem whole.tw6084657873442493111 : True := trivial
theorem whole.tw6090991400474081933 : True := trivial
theorem whole.tw6095937858554715304 : True := trivial
theorem whole.tw6097748072631727781 : True := trivial
theorem whole.tw6150244297128479101 : True := trivial
theorem whole.tw6159961993279768742 : True := trivial
theorem whole.tw6175221477891461631 : True := trivial
theorem whole.tw6187261993980536492 : True := trivial
theorem whole.tw6197045082498751548 : True := trivial
theorem whole.tw620233503781600244 : True := trivial
theorem whole.tw6211587326476211309 : True := trivial
theorem whole.tw6233461465355520292 : True := trivial
theorem whole.tw6250799429290313176 : True := trivial
theorem whole.tw6266228650988000492 : True := trivial
theorem whole.tw627836218701940097 : True := trivial
theorem whole.tw6290923202673413122 : True := trivial
theorem whole.tw6300184847947440018 : True := trivial
theorem whole.tw6300749833780909245 : True := trivial
theorem whole.tw6330323023686639657 : True := trivial
theorem whole.tw6330797023819526829 : True := trivial
theorem whole.tw6356627984389668255 : True := trivial
theorem whole.tw6377287985247879410 : True := trivial
theorem whole.tw638039869848467855 : True := trivial
theorem whole.tw6396017553259284124 : True := trivial
theorem whole.tw6398494249180007682 : True := trivial
theorem whole.tw6416634858453334624 : True := trivial
theorem whole.tw6421574377784992043 : True := trivial
theorem whole.tw6429885574394902624 : True := trivial
theorem whole.tw6453619897266653623 : True := trivial
theorem whole.tw6472696656209681604 : True := trivial
theorem whole.tw6501748431566575849 : True := trivial
theorem whole.tw6525215580464160042 : True := trivial
theorem whole.tw6531100040246800141 : True := trivial
theorem whole.tw6553984163096543158 : True := trivial
theorem whole.tw6554874851225637503 : True := trivial
theorem whole.tw6612613915786651340 : True := trivial
theorem whole.tw6625591401657005825 : True := trivial
theorem whole.tw6648197116569056673 : True := trivial
theorem whole.tw6677481401041580341 : True := trivial
theorem whole.tw668774492082921180 : True := trivial
theorem whole.tw6714927969197098277 : True := trivial
theorem whole.tw6734874506966982255 : True := trivial
theorem whole.tw6743021324641148519 : True := trivial
theorem whole.tw6750649090777595757 : True := trivial
theorem whole.tw675793542917168019 : True := trivial
theorem whole.tw6758007706158031737 : True := trivial
theorem whole.tw6766658173562982576 : True := trivial
theorem whole.tw6774775609766916077 : True := trivial
theorem whole.tw679095792406170707 : True := trivial
theorem whole.tw6795950696382679116 : True := trivial
theorem whole.tw6823266097380344784 : True := trivial
theorem whole.tw6831798877050662096 : True := trivial
theorem whole.tw6866068747796929802 : True := trivial
theorem whole.tw6888942637506950926 : True := trivial
theorem whole.tw6891315699540082446 : True := trivial
theorem whole.tw6896427876366098391 : True := trivial
theorem whole.tw6915089677183239634 : True := trivial
theorem whole.tw6994411348602908096 : True := trivial
theorem whole.tw7056001396292377188 : True := trivial
theorem whole.tw7073311072910153293 : True := trivial
theorem whole.tw7078629122812257199 : True := trivial
theorem whole.tw7101197657001211085 : True := trivial
theorem whole.tw7125036137928297414 : True := trivial
theorem whole.tw7125152430604801395 : True := trivial
theorem whole.tw7154100213019291727 : True := trivial
theorem whole.tw7158488753437644409 : True := trivial
theorem whole.tw715978364194892080 : True := trivial
theorem whole.tw7181214704614307865 : True := trivial
theorem whole.tw7185185305316088854 : True := trivial
theorem whole.tw7248877203947682478 : True := trivial
theorem whole.tw7276013540153241084 : True := trivial
theorem whole.tw7280849871689594849 : True := trivial
theorem whole.tw7315993881563675004 : True := trivial
theorem whole.tw7368006489180217709 : True := trivial
theorem whole.tw7391549574342816922 : True := trivial
theorem whole.tw7435482016451815233 : True := trivial
theorem whole.tw7452821578398259720 : True := trivial
theorem whole.tw7466904020207815869 : True := trivial
theorem whole.tw7509650053966640704 : True := trivial
theorem whole.tw7525632177321363660 : True := trivial
theorem whole.tw7545590854473540767 : True := trivial
theorem whole.tw7545654013535254480 : True := trivial
theorem whole.tw7564407027854533171 : True := trivial
theorem whole.tw7576292583959916747 : True := trivial
theorem whole.tw7588574119468234827 : True := trivial
theorem whole.tw7601072278947682838 : True := trivial
theorem whole.tw7645621925510333512 : True := trivial
theorem whole.tw7669669677095693358 : True := trivial
theorem whole.tw7689902935678670512 : True := trivial
theorem whole.tw772474843232632690 : True := trivial
theorem whole.tw7728773200315073681 : True := trivial
theorem whole.tw775654668261428149 : True := trivial
theorem whole.tw7781976810680006178 : True := trivial
theorem whole.tw7856580471358416282 : True := trivial
theorem whole.tw7860379621774607140 : True := trivial
theorem whole.tw7868544009499267292 : True := trivial
theorem whole.tw7885708016979292634 : True := trivial
theorem whole.tw7892903329919386008 : True := trivial
theorem whole.tw789556265725282662 : True := trivial
theorem whole.tw7906611734251618119 : True := trivial
theorem whole.tw7912173436972983685 : True := trivial
theorem whole.tw7925426705801168976 : True := trivial
theorem whole.tw7952383044827225310 : True := trivial
theorem whole.tw7977717154205229210 : True := trivial
theorem whole.tw7977878525754885090 : True := trivial
theorem whole.tw8011658993158656957 : True := trivial
theorem whole.tw803728761352460389 : True := trivial
theorem whole.tw8101450032967502455 : True := trivial
theorem whole.tw817909704231249520 : True := trivial
theorem whole.tw8181180424491326830 : True := trivial
theorem whole.tw8184708281838074206 : True := trivial
theorem whole.tw8203973303204277656 : True := trivial
theorem whole.tw8243020233432551205 : True := trivial
theorem whole.tw8258574867067344367 : True := trivial
theorem whole.tw8269794280708405034 : True := trivial
theorem whole.tw8284271217205693211 : True := trivial
theorem whole.tw8289003193492261950 : True := trivial
theorem whole.tw8309436690622926411 : True := trivial
theorem whole.tw8341004590406740810 : True := trivial
theorem whole.tw8350250358471643572 : True := trivial
theorem whole.tw8389592306716628391 : True := trivial
theorem whole.tw8398797258006769423 : True := trivial
theorem whole.tw8403751301525005671 : True := trivial
theorem whole.tw8405200373762080497 : True := trivial
theorem whole.tw843396670912023852 : True := trivial
theorem whole.tw8443025263604155638 : True := trivial
theorem whole.tw8444963059077079450 : True := trivial
theorem whole.tw8454442166302862320 : True := trivial
theorem whole.tw8465779003785688887 : True := trivial
theorem whole.tw8495578030972149916 : True := trivial
theorem whole.tw8523286992835677893 : True := trivial
theorem whole.tw8529020170189433330 : True := trivial
theorem whole.tw8561743801832456060 : True := trivial
theorem whole.tw8572516506043022915 : True := trivial
theorem whole.tw8579301627154863199 : True := trivial
theorem whole.tw8615399842404961663 : True := trivial
theorem whole.tw8680444420967750489 : True := trivial
theorem whole.tw8699793337390238261 : True := trivial
theorem whole.tw8719548228035378133 : True := trivial
theorem whole.tw8726271496915383628 : True := trivial
theorem whole.tw8758825779926369472 : True := trivial
theorem whole.tw8789054386453842027 : True := trivial
theorem whole.tw8799044985600393684 : True := trivial
theorem whole.tw8833888180515537064 : True := trivial
theorem whole.tw8856355419119029804 : True := trivial
theorem whole.tw8868806382682364411 : True := trivial
theorem whole.tw8884531897199943920 : True := trivial
theorem whole.tw8958426612096339740 : True := trivial
theorem whole.tw8961415085178454156 : True := trivial
theorem whole.tw8965215075514910880 : True := trivial
theorem whole.tw8983667203327932493 : True := trivial
theorem whole.tw8983756257105130227 : True := trivial
theorem whole.tw899187281708718853 : True := trivial
theorem whole.tw9018635070940762159 : True := trivial
theorem whole.tw9024608533772062355 : True := trivial
theorem whole.tw9035394219717786629 : True := trivial
theorem whole.tw9036960110271754778 : True := trivial
theorem whole.tw9043093919020774792 : True := trivial
theorem whole.tw9046693723037758376 : True := trivial
theorem whole.tw905634021204347684 : True := trivial
theorem whole.tw9063790561628003831 : True := trivial
theorem whole.tw9081442686682602634 : True := trivial
theorem whole.tw9088682870026954680 : True := trivial
theorem whole.tw9095261259357604559 : True := trivial
theorem whole.tw9121730484126507938 : True := trivial
theorem whole.tw9142887217227649140 : True := trivial
theorem whole.tw9170513070990267023 : True := trivial
theorem whole.tw9189751539129569556 : True := trivial
theorem whole.tw9200330197067421115 : True := trivial
theorem whole.tw9212275338362288188 : True := trivial
theorem whole.tw9212966250080664162 : True := trivial
theorem whole.tw9240418933035676598 : True := trivial
theorem whole.tw9242471422690250210 : True := trivial
theorem whole.tw9263590555730510648 : True := trivial
theorem whole.tw9275448389876633987 : True := trivial
theorem whole.tw927568089824032536 : True := trivial
theorem whole.tw93322254748059294 : True := trivial
theorem whole.tw9358836691059361674 : True := trivial
theorem whole.tw9385414077733418526 : True := trivial
theorem whole.tw9406530864695525851 : True := trivial
theorem whole.tw9416693575131194153 : True := trivial
theorem whole.tw9446046918361872579 : True := trivial
theorem whole.tw9449955787129754595 : True := trivial
theorem whole.tw9464417701048127947 : True := trivial
theorem whole.tw948704589612583740 : True := trivial
theorem whole.tw949743934663060849 : True := trivial
theorem whole.tw9501391760213346845 : True := trivial
theorem whole.tw950895424614454216 : True := trivial
theorem whole.tw9521756469634577901 : True := trivial
theorem whole.tw9524161046149784534 : True := trivial
theorem whole.tw9625973628771424018 : True := trivial
theorem whole.tw964911493779461333 : True := trivial
theorem whole.tw9649613761386221421 : True := trivial
theorem whole.tw9654072969724333583 : True := trivial
theorem whole.tw9685896690342822935 : True := trivial
theorem whole.tw9707250908836423824 : True := trivial
theorem whole.tw9722750020625992282 : True := trivial
theorem whole.tw9725988738643398560 : True := trivial
theorem whole.tw9733464779038806419 : True := trivial
theorem whole.tw9748834850448372353 : True := trivial
theorem whole.tw9753940524135748638 : True := trivial
theorem whole.tw9775085227918541326 : True := trivial
theorem whole.tw978456291528864041 : True := trivial
theorem whole.tw9787344453429475573 : True := trivial
theorem whole.tw9818944310502328695 : True := trivial
theorem whole.tw9831549134678401257 : True := trivial
theorem whole.tw9838295914634562783 : True := trivial
theorem whole.tw9841425051670495895 : True := trivial
theorem whole.tw9851385603074314742 : True := trivial
theorem whole.tw9884847805657258340 : True := trivial
theorem whole.tw9907439585923661828 : True := trivial
theorem whole.tw9945681253131214307 : True := trivial
theorem whole.tw995775220138220913 : True := trivial
theorem whole.tw9988426361468213469 : True := trivial
theorem whole.tw9994479494313819776 : True := trivial
end Mine
set_option Elab.async true in
set_option maxHeartbeats 40000000 in
theorem Mine.whole : PySem.Challenge.rw_nz0335_01.Holds := by
  w_on; o_law
  o_head (kmHook Mine.k0.heap_1 [2, 3, 15, 17, 18, 20, 21, 22, 29, 30, 32, 33, 35, 36, 37, 39, 40, 42, 43, 44, 45, 46, 47, 50, 57, 58, 59, 62, 69, 70, 71, 74, 81, 82, 83, 86, 93, 94, 95, 98, 105, 106, 107, 110, 113, 114, 115, 118, 119, 120, 123, 124, 125, 127, 128, 130, 131, 132, 134, 135, 137, 138, 139, 141, 142, 144, 145, 146, 148, 149, 151, 152, 153, 155, 156, 158, 159, 160, 162, 163, 165, 166, 167, 169, 170, 172, 173, 174, 176, 177, 179, 180, 181, 183, 184, 186, 187, 188, 190, 191, 193, 194, 195, 197, 198, 200, 201, 202, 204, 205, 207, 208, 209, 211, 212, 214, 215, 216, 219, 220, 221, 224, 225, 226, 229, 230, 231, 234, 235, 236, 239, 240, 241, 243, 244, 246, 247, 248, 250, 251, 253, 254, 255, 257, 258, 260, 261, 262, 264, 265, 267, 268, 269, 272, 273, 281, 283, 284, 286, 287, 288, 290, 291, 293, 294, 295, 296, 297, 298, 299, 302, 304, 305, 307, 308, 309, 311, 312, 314, 315, 316, 318, 319, 321, 322, 323, 325, 326, 328, 329, 330, 332, 333, 335, 336, 337, 339, 340, 342, 343, 344, 346, 347, 349, 350, 351, 353, 354, 356, 357, 358, 360, 361, 363, 364, 372, 373, 375, 376, 378, 379, 380, 382, 383, 385, 386, 387, 389, 390, 392, 393, 394, 396, 397, 399, 400, 401, 403, 404, 406, 407, 408, 410, 411, 413, 414, 415, 417, 418, 420, 421, 422, 424, 425, 427, 428, 429, 431, 432, 434, 435, 436, 438, 439, 441, 442, 443, 445, 446, 448, 449, 450, 452, 453, 455, 456, 457, 459, 460, 462, 463, 464, 466, 467, 469, 470, 471, 473, 474, 476, 477, 478, 480, 481, 483, 484, 485, 487, 488, 490, 491, 492, 494, 495, 497, 498, 499, 501, 502, 504, 505, 506, 508, 509, 511, 512, 513, 515, 516, 518, 519, 520, 522, 523, 525, 526, 527, 529, 530, 532, 533, 534, 537, 538, 539, 540, 542, 543, 545, 546, 547, 548, 549, 550, 551, 554, 557, 558, 559, 561, 562, 564, 565, 566, 567, 569, 570, 572, 573, 574, 575, 577, 578, 580, 581, 582, 583, 586, 587, 588, 589, 592, 593, 594, 597, 598, 599, 601, 602, 604, 605, 606, 608, 609, 611, 612, 613, 615, 616, 618, 619, 620, 622, 623, 625, 626, 627, 630, 631, 632, 635, 636, 637, 640, 641, 642, 644, 645, 647, 648, 649, 652, 653, 654, 657, 658, 659, 661, 662, 664, 665, 666, 668, 669, 671, 672, 673, 675, 676, 678, 679, 680, 682, 683, 685, 686, 687, 689, 690, 692, 693, 694, 696, 697, 699, 700, 701, 703, 704, 706, 707, 708, 710, 711, 713, 714, 715, 717, 718, 720, 721, 722, 725, 726, 727, 730, 731, 732, 734, 735, 737, 738, 739, 741, 742, 744, 745, 746, 748, 749, 751, 752, 753, 755, 756, 758, 759, 760, 763, 764, 765, 767, 768, 770, 771, 772, 774, 775, 777, 778, 779, 781, 782, 784, 785, 786, 789, 790, 791, 793, 794, 796, 797, 798, 800, 801, 803, 804, 805, 806, 808, 809, 811, 812, 813, 815, 816, 818, 819, 820, 822, 823, 825, 826, 827, 830, 831] (fun _ => by kernel_rfl) [780, 773, 716])
  (case hw => w_witness2)
  w_strict (
    k_go0
    (all_goals try k_fold)
    repeat ((fail_if_success (with_reducible show wpAny _ _ (eval (PySem.Expr.IfExp _ _ _ _) _) _ _ _)); walk_at "STEP")
    k_here
    refine' cut_src [(780, tabObj #[]), (773, tabObj #[]), (716, tabObj #[])] ?zF ?zh ?_
    (case zF => k_asm)
    (case zh =>
      k_steps
      · exact ⟨_, _, _, _, _, _, rfl, rfl, by k_asm, news_sub (by k_asm) (all_cons List.mem_cons_self (by walk_at "PRE")), by assumption, by assumption, by simp; omega, all_cons (by refine neN ?_; dsimp only; omega) (all_cons (by refine neN ?_; dsimp only; omega) (all_cons (by refine neN ?_; dsimp only; omega) all_nil))⟩
      · exact ⟨_, [Value.int 0 _], [0], _, _, _, rfl, rfl, by k_asm, news_sub (by k_asm) (all_cons List.mem_cons_self (by walk_at "PRE")), .cons _ _ .nil, by decide, by decide, all_cons (by refine neN ?_; dsimp only; omega) (all_cons (by refine neN ?_; dsimp only; omega) (all_cons (by refine neN ?_; dsimp only; omega) all_nil))⟩)
    generalize htb : ([(780, tabObj #[]), (773, tabObj #[]), (716, tabObj #[])] : List (Addr × Obj)) = tb
    intro C vs ns k hh1 tk1 F N hi hl hz offC
    k_steps
    unfold Stop
    k_here
    (try (rename Ground _ _ _ _ _ _ _ _ => g0; clear g0)); (try (rename Hook.says _ _ _ => g0; clear g0)); (try (rename Heap.CodeRec _ _ _ => g0; clear g0)); (try (rename Dflts _ _ _ => g0; clear g0)); (try (rename TopE _ _ _ _ => g0; clear g0)); (try (rename TopW _ _ _ => g0; clear g0)); (try (rename TabsAt _ _ => g0; clear g0)); (try (rename CodeHd _ _ _ => g0; clear g0)); (try (rename CodeHd _ _ _ => g0; clear g0)); (try (rename CodeHd _ _ _ => g0; clear g0)); (try (rename ReadsAll _ _ _ _ => g0; clear g0)); (try (rename ReadsAllW _ _ _ _ _ _ => g0; clear g0)); (try (rename Well _ _ _ _ => g0; clear g0)); (try (rename Reads _ _ _ _ => g0; clear g0)); (try (rename LooseAre _ _ _ => g0; clear g0)); (try (rename Flt.MathXP _ _ _ => g0; clear g0)); (try (rename Tables _ _ _ _ => g0; clear g0))
    refine' Con.call (rest := tb) (c_law_some hi hl hz ?ab1 ?ab2 ?ane) ?aH ?aS (split_first ?aoff offC) ?_
    (case aH => walk_at "HERE")
    (case aS => walk_at "PRE")
    (case aoff => exact allLt_ne (And.right (by assumption)))
    (case ab1 => omega)
    (case ab2 => omega)
    (case ane => refine neN ?_; omega)
    intro va tla ha tka Fa Na Da Pa
    obtain ⟨ta, na, ata, Ta, Sa, tta, la, ps, rfl, rfl, data, ga, pa1, pa4, ba1, ba2, offa1, offa2, offa3, offa4⟩ := Pa
    clear Da
    simp only [srcL, tupO, List.append_nil, List.cons_append, List.nil_append] at Na
    k_steps
    unfold Stop
    k_here
    refine' Con.call (rest := (Ta, _) :: (la ++ tb)) (c_law_some hi hl hz ?bb1 ?bb2 ?bne) ?bH ?bS (split_some (off_app offa1 ?boff) (off_app offa2 offC) offa3 offa4) ?_
    (case bH => walk_at "HERE")
    (case bS => walk_at "PRE")
    (case boff => exact allLt_ne (And.right (by assumption)))
    (case bb1 => omega)
    (case bb2 => omega)
    (case bne => refine neN ?_; omega)
    intro vb tlb hb tkb Fb Nb Db Pb
    obtain ⟨tokb, nb, atb, Tb, Sb, ttb, lb, qs, rfl, rfl, datb, gb, pb1, pb4, bb1, bb2, offb1, offb2, offb3, offb4⟩ := Pb
    clear Db
    simp only [srcL, tupO, List.append_nil, List.cons_append, List.nil_append] at Nb
    k_steps
    obtain ⟨big, hbig, dA, dB, mT⟩ : ∃ big, (∀ p ∈ big, p ∈ lb ++ (Ta, _) :: (la ++ tb)) ∧ DatIn big Sa (setD ps) ∧ DatIn big Sb (setD qs) ∧ (∀ p ∈ tb, p ∈ big) :=
      ⟨lb ++ (Ta, _) :: (la ++ tb), fun _ h => h, data.mono fun p hp => List.mem_append_right _ (.tail _ (List.mem_append_left _ hp)), datb.mono fun p hp => List.mem_append_left _ hp, fun p hp => List.mem_append_right _ (.tail _ (List.mem_append_right _ hp))⟩
    unfold Stop
    k_here
    refine' Con.call (rest := []) (c_set_value dA ga pa4 pa1) ?cH ?cS ?cD ?_
    (case cH => walk_at "HERE")
    (case cS => exact fun p hp => .tail _ (.tail _ (.tail _ (hbig p hp))))
    (case cD => exact ⟨(fun _ h => nomatch h), (fun _ h => nomatch h)⟩)
    intro vc tlc hc tkc Fc Nc Dc Pc
    obtain ⟨a1, d1, t1, f1, f2, rfl, rfl⟩ := Pc
    clear Dc
    rw [List.append_nil] at Nc
    obtain ⟨big1, hbig1, mA, dA1, dB1, mT⟩ : ∃ big1, (∀ p ∈ big1, p ∈ woL ‹World› (setW ps) a1 d1 f1 f2 ++ big) ∧ (∀ p ∈ woL ‹World› (setW ps) a1 d1 f1 f2, p ∈ big1) ∧ DatIn big1 Sa (setD ps) ∧ DatIn big1 Sb (setD qs) ∧ (∀ p ∈ tb, p ∈ big1) :=
      ⟨_, fun _ h => h, fun p hp => List.mem_append_left _ hp, dA.mono fun p hp => List.mem_append_right _ hp, dB.mono fun p hp => List.mem_append_right _ hp, fun p hp => List.mem_append_right _ (mT p hp)⟩
    replace Nc := news_sub Nc hbig1
    obtain ⟨sa, vsa, ka, rfl, hma, hda⟩ := setD_in dA1
    clear hbig1 hbig dA dB data datb
    repeat ((fail_if_success (with_reducible show wpAny _ _ (eval (PySem.Expr.BoolOp _ _ _) _) _ _ _)); walk_at "STEP")
    k_here
    refine' cut_val (fun v => v = .bool (single ps)) ?dF ?dN ?dh ?_
    (case dF => k_asm)
    (case dN => k_asm)
    (case dh =>
      obtain ⟨p0, r, rfl⟩ : ∃ p0 r, ps = p0 :: r := by
        cases ps with
        | nil => simp at pa1
        | cons a r => exact ⟨a, r, rfl⟩
      have hvl : vsa.length = (p0 :: r).length := by rw [hda.length, List.length_map]
      cases r with
      | nil =>
        cases hda with
        | cons x1 x2 =>
        cases x2
        obtain ⟨b0, kb0, u1, u2, rfl, hb0⟩ := pairD_in x1
        clear x1 pa1 pa4 ga dA1
        replace hvl : ([Value.ref b0] : List Value).length = 1 := rfl
        by_cases he : p0.1 = p0.2
        · have hb : (p0.1 == p0.2) = true := by simp [he]
          k_steps
          exact ⟨_, _, rfl, by k_asm, by k_asm, by simp only [single, he, decide_true, Bool.true_and]⟩
        · have hb : ¬ (p0.1 == p0.2) = true := by simp [he]
          k_steps
          exact ⟨_, _, rfl, by k_asm, by k_asm, by simp [single, he]⟩
      | cons q r =>
        have hne : (p0 :: q :: r).length ≠ 1 := by simp
        have hs : single (p0 :: q :: r) = false := rfl
        rw [hs]
        generalize (p0 :: q :: r).length = n9 at hvl hne pa4
        clear hda dA1 ga mA
        k_steps
        exact ⟨_, _, rfl, by k_asm, by k_asm, congrArg Value.bool (by simp; omega)⟩)
    intro vd hd tkd Pd Fd Nd
    subst Pd
    repeat ((fail_if_success (with_reducible show wpAny _ _ (exec (Stmt.If _ _ _ _) _) _ _ _)); walk_at "STEP")
    k_here
    refine' cut_flo' ?eF ?eN ?eh ?_
    (case eF => k_asm)
    (case eN => k_asm)
    (case eh =>
      intro F5 N5
      by_cases hs : single ps = true
      · obtain ⟨n, rfl, hn, hn0, hsh⟩ := single_ex hs ga
        rw [setW_num hs, hs] at F5 ⊢
        rw [setW_num hs] at mA
        dsimp only [woV] at F5 ⊢
        have hx := str_num hsh
        obtain ⟨hnb0, hnb1⟩ := nums_bound n hn
        clear dA1 hda ga
        k_steps
        unfold Stop
        k_here
        refine' conR_call (c_law_plain (q := .num n) mA) ?e1H ?_
        (case e1H => walk_at "HERE")
        intro v6 h6 tk6 F6 N6 ⟨t6, e6⟩
        subst e6
        dsimp only [woP]
        k_steps
        exact ⟨rfl, _, _, rfl, by k_asm, by k_asm⟩
      · have hs : single ps = false := by simpa using hs
        rw [setW_atm hs, hs] at F5 ⊢
        rw [setW_atm hs] at mA
        dsimp only [woV] at F5 ⊢
        have hx : (txt (shS ps) != txt (shS ps)) = false := str_same
        have hm1 := mA _ (.head _)
        have hm2 := mA _ (.tail _ (.head _))
        clear dA1 hda ga
        k_steps
        unfold Stop
        k_here
        refine' conR_call (c_law_plain (q := .atm (txt (shS ps))) (t := 0) mA) ?e2H ?_
        (case e2H => walk_at "HERE")
        intro v6 h6 tk6 F6 N6 ⟨t6, e6⟩
        subst e6
        dsimp only [woP]
        k_steps
        exact ⟨rfl, _, _, rfl, by k_asm, by k_asm⟩)
    intro he tke Fe Ne
    repeat ((fail_if_success (with_reducible show wpAny _ _ (exec (Stmt.If _ _ _ _) _) _ _ _)); walk_at "STEP")
    k_here
    have hA := (shS_asc ps ga).1
    have hlen : (shS ps).length ≤ 100000 := by have := (shS_asc ps ga).2; omega
    have hset := setAt_of ga pa1
    refine' cut_flo' ?fF ?fN ?fh ?_
    (case fF => k_asm)
    (case fN => k_asm)
    (case fh =>
      intro F5 N5
      by_cases hs : single ps = true
      · rw [hs] at F5 ⊢
        k_steps
        exact ⟨rfl, _, _, rfl, by k_asm, by k_asm⟩
      · have hs : single ps = false := by simpa using hs
        rw [setW_atm hs, hs] at F5 ⊢
        rw [setW_atm hs] at mA
        dsimp only [woV] at F5 ⊢
        have hm1 := mA _ (.head _)
        have hm2 := mA _ (.tail _ (.head _))
        k_steps
        unfold Stop
        k_here
        refine' Con.call (rest := big1) (c_read_set hA hlen hset pa4 ga pa1) ?f1H (fun _ h => nomatch h) ⟨fun _ h => h, fun _ _ _ h => nomatch h⟩ ?_
        (case f1H => walk_at "HERE")
        intro v7 tl7 h7 tk7 F7 N7 D7 P7
        clear D7
        obtain ⟨s7, vs7, k7, rfl, _, _⟩ := setD_in P7
        k_steps
        unfold Stop
        k_here
        refine' ne_dat (news := tl7 ++ big1) ?f2N (P7.mono fun p hp => List.mem_append_left _ hp) (dA1.mono fun p hp => List.mem_append_right _ hp) (setD_ok ps) (by ke_room) ?_
        (case f2N => k_asm)
        k_steps
        exact ⟨rfl, _, _, rfl, by k_asm, news_sub (by k_asm) fun p hp => List.mem_append_right _ hp⟩)
    intro hf tkf Ff Nf
    k_steps
    unfold Stop
    k_here
    refine' Con.call (rest := []) (c_set_value ?gD gb pb4 pb1) ?gH (fun p hp => hp) ⟨(fun _ h => nomatch h), (fun _ h => nomatch h)⟩ ?_
    (case gH => walk_at "HERE")
    (case gD => exact dB1.mono fun p hp => .tail _ (.tail _ hp))
    intro vg tlg hg tkg Fg Ng Dg Pg
    obtain ⟨a2, d2, t2, g1, g2, rfl, rfl⟩ := Pg
    clear Dg
    rw [List.append_nil] at Ng
    obtain ⟨big2, Nh, mX, mXd, mB, mUp⟩ := pack_of Ng
    clear Ng
    replace mA := fun p hp => mUp p (mA p hp)
    replace mT := fun p hp => mUp p (mT p hp)
    replace dA1 := dA1.mono mUp
    replace dB1 := dB1.mono mUp
    have hB := (shS_asc qs gb).1
    have hlenB : (shS qs).length ≤ 88 := by have := (shS_asc qs gb).2; omega
    have hlenA : (shS ps).length ≤ 88 := by have := (shS_asc ps ga).2; omega
    have hHL : HEAD.length = 16 := rfl
    have hTL : TAIL.length = 8 := rfl
    clear hda hma mUp
    have hLA := asc_line hA hB
    have hLl : (lineL (shS ps) (shS qs)).length ≤ 300 := by rw [line_len]; omega
    k_steps
    rw [line_glued]
    refine SrcT.intro (fun i y => ∃ t, y = .int ((lineL (shS ps) (shS qs)).getD i 0) t) (by rfl) (by k_asm) (by k_asm) (by rw [sizeLine_eq, txt_size]; omega) (fun i n u I oI C oC D m₂ ys h tk E' hi hn hC hx F N => ?_) (fun ys D h tk hl hg F N o1 => ?_)
    · have hn := txt_get hLA hn
      k_steps
      exact CompEl.intro (by k_asm) (by k_asm) ⟨_, by simp [List.getD_eq_getElem?_getD, hn.1]; rfl⟩
    have hI : IntsAre ys (lineL (shS ps) (shS qs)) := ints_of (by rw [hl, txt_size]) hg
    have hr : KBa.In (lineL (shS ps) (shS qs)) := hLA.byte
    clear hg
    repeat ((fail_if_success (with_reducible show wpAny _ _ (exec (Stmt.If _ _ _ _) _) _ _ _)); walk_at "STEP")
    k_here
    rename News _ _ _ (_ :: _ :: _ :: big2) => N3
    obtain ⟨big3, Nk, mT3, mC3, up3⟩ := pack3 N3
    obtain ⟨l5, hans, hl5⟩ := ans_of mT3 mC3 (up3 _ mX) (up3 _ mXd) (fun p hp => up3 p (mA p hp)) (fun p hp => up3 p (mB p hp))
    replace mA := fun p hp => up3 p (mA p hp)
    replace mB := fun p hp => up3 p (mB p hp)
    replace mT := fun p hp => up3 p (mT p hp)
    replace dB1 := dB1.mono up3
    have hline := lineAt ga gb pa1 pb1 pa4 pb4
    have hints := ints_byteArr hLA
    clear mT3 mC3 mX mXd up3 N3 dA1 hI hr
    refine' cut_flo' ?hF Nk ?hh ?_
    (case hF => k_asm)
    (case hh =>
      intro F5 N5
      k_steps
      unfold Stop
      k_here
      refine' conR_call (c_write_answer (woOk_setW ga pa4) (woOk_setW gb pb4) hans hl5) ?h1H ?_
      (case h1H => walk_at "HERE")
      intro v6 h6 tk6 F6 N6 ⟨t6, e6⟩
      rw [written ga gb] at e6
      subst e6
      have hy : ((byteArr (lineL (shS ps) (shS qs))).toList != (byteArr (lineL (shS ps) (shS qs))).toList) = false := by simp
      k_steps
      unfold Stop
      k_here
      refine' Con.call (rest := big3) (c_read_answer hints hLA ?h2a hline) ?h2H (fun _ h => nomatch h) ⟨fun _ h => h, fun _ _ _ h => nomatch h⟩ ?_
      (case h2H => walk_at "HERE")
      (case h2a => omega)
      intro v8 tl8 h8 tk8 F8 N8 D8 P8
      clear D8
      k_steps
      unfold Stop
      k_here
      refine' Con.call (rest := []) (c_told_answer (led := tl8 ++ big3) P8 (fun p hp => List.mem_append_left _ hp)) ?h3H (fun p hp => hp) ⟨(fun _ h => nomatch h), (fun _ h => nomatch h)⟩ ?_
      (case h3H => walk_at "HERE")
      intro v9 tl9 h9 tk9 F9 N9 D9 ⟨l9, e9, dat9⟩
      clear D9
      subst e9
      rw [List.append_nil] at N9
      obtain ⟨r9, rfl⟩ := dat_ref dat9
      k_steps
      unfold Stop
      k_here
      refine' Con.call (rest := []) (c_told_answer (led := l9 ++ (tl8 ++ big3)) hans (fun p hp => List.mem_append_right _ (List.mem_append_right _ (hl5 p hp)))) ?h4H (fun p hp => hp) ⟨(fun _ h => nomatch h), (fun _ h => nomatch h)⟩ ?_
      (case h4H => walk_at "HERE")
      intro vA tlA hA' tkA FA NA DA ⟨lA, eA, datA⟩
      clear DA
      subst eA
      rw [List.append_nil] at NA
      obtain ⟨rA, rfl⟩ := dat_ref datA
      k_steps
      unfold Stop
      k_here
      refine' ne_dat (news := lA ++ (l9 ++ (tl8 ++ big3))) ?h5N (dat9.mono fun p hp => List.mem_append_right _ hp) datA (toldD_ok ga gb) (by ke_room) ?_
      (case h5N => k_asm)
      k_steps
      exact ⟨rfl, _, _, rfl, by k_asm, news_sub (by k_asm) fun p hp => List.mem_append_right _ (List.mem_append_right _ (List.mem_append_right _ hp))⟩)
    intro hh tkh Fh Nh
    clear hans hl5 hline hints hLA hB hA hset
    k_steps
    unfold Stop
    k_here
    refine' conR_call (c_law_plain mA) ?i1H ?_
    (case i1H => walk_at "HERE")
    intro vp hp tkp Fp Np ⟨tp, ep⟩
    subst ep
    k_steps
    unfold Stop
    k_here
    refine' Con.call (rest := []) (c_set_value dB1 gb pb4 pb1) ?i2H (fun p hp => hp) ⟨(fun _ h => nomatch h), (fun _ h => nomatch h)⟩ ?_
    (case i2H => walk_at "HERE")
    intro vq tlq hq tkq Fq Nq Dq Pq
    obtain ⟨a3, d3, t3, g3, g4, rfl, rfl⟩ := Pq
    clear Dq
    rw [List.append_nil] at Nq
    k_steps
    unfold Stop
    k_here
    refine' conR_call (c_law_plain (q := setW qs) (a := a3) (da := d3) (f1 := g3) (f2 := g4) ?i3m) ?i3H ?_
    (case i3H => walk_at "HERE")
    (case i3m => exact fun p hp => List.mem_append_left _ hp)
    intro vr hr tkr Fr' Nr ⟨tr, er⟩
    subst er
    k_steps
    rename News _ _ _ (_ ++ big3) => N3x
    obtain ⟨big4, N4, up4⟩ : ∃ big4, News _ _ _ big4 ∧ ∀ p ∈ big3, p ∈ big4 := ⟨_, N3x, fun p hp => List.mem_append_right _ hp⟩
    have w1 := up4 _ (mT (780, tabObj #[]) (by rw [← htb]; simp))
    have w2 := up4 _ (mT (773, tabObj #[]) (by rw [← htb]; simp))
    have w3 := up4 _ (mT (716, tabObj #[]) (by rw [← htb]; simp))
    clear N3x up4 mT mA mB dB1
    k_here
    refine cmp_plain ga gb pa1 pb1 ?_
    k_steps)
end
theorem PySem.Challenge.cw_nz0335_01_holds : PySem.Challenge.rw_nz0335_01.Holds :=
  Mine.whole
