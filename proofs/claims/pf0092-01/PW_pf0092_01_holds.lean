import PyProof.Rows.All
import Wide.All
import OpenK.AllK
import Wide.FinOn
import PySem.Challenge.RW_pf0092_01
set_option Elab.async false
set_option rowWalk.seconds 0
set_option compiler.extract_closed false
set_option linter.all false
section
open PySem PySem.W PyProof.Rows
set_option maxRecDepth 100000
namespace Mine
/-- the statements of the text that the walk leans on: all but the five that bind __name__ -/
def look : Program := view PySem.Challenge.pw_pf0092_01 [1,2,3,5,6,7,8,9,10,11,12,13,14,15,17,18,19,21,22,23,25,26,27,28,29,30,31,32]
section
local macro_rules | `(tactic| o_head $H) => `(tactic| (
  refine holds_open (q := look) (loose := []) (Xt := xlAt look []) (XP := XL look []) (Yf := Hook.obs $H) (Ya := Hook.val $H) (YP := Hook.says $H) (N := 1300) ?hl
    (Hook.of $H) (Hook.keeps $H) xl_of XL.keeps (by rfl) (by rfl) (by rfl) (fun _ _ => recFacts_nil rfl) (by rfl) (by assumption) (by decide +kernel) ⟨rfl, rfl, rfl, rfl, rfl, by decide +kernel⟩ ?hw ?hc
  (case hl => (show LeftO PySem.Challenge.pw_pf0092_01 look [] _ _ _ 1300; intro w; unfold openEnds fencedOpening topFrom; rw [Fast.te14082659384304107361, Fast.te10274390034422433532, Fast.te4187177175401517315, Fast.te14289696077712309145, Fast.te14364793385576792824]; kernel_rfl))))
set_option maxHeartbeats 8000000 in
open_top hd for PySem.Challenge.rw_pf0092_01
end
end Mine
end
section
open PySem PySem.W PyProof.Rows PySem.Calls
set_option maxRecDepth 100000
namespace Mine
local macro_rules | `(tactic| k_room) => `(tactic| ktr_room)
local macro_rules | `(tactic| k_units) => `(tactic| ktr_units)
local macro_rules | `(tactic| k_steps) => `(tactic| repeat' (first | (k_unfold; (try dsimp only)) | walk1 | (dsimp only; walk1) | (dsimp only; k_unfold; (try dsimp only)) | (dsimp +zetaDelta only) | fail "no step"))
section
theorem rsM1 : True := by first | (w_top off; walk1) | trivial
/-- h' keeps all that h has -/
abbrev Kp (h h' : Heap) : Prop := ∀ b o, h.get? b = some o → h'.get? b = some o

theorem enterG {prog : Program} {w : World} {A A₀ : Around} {s : Shared} {K : Frag} {L : Addr} {h₀ base : Heap} {m mg mb : Str → Option Value} {news : List (Addr × Obj)} {p : Program} {loose : List Str} {mean : ExcName → Option Value}
    {env : Env} {outer : List Env} {R : Result → Shared → Prop} {name qual : Str} {params : Arguments} {body : List Stmt} {scope : Scope} {dV kV doc pm cdv ct oc : Value} {an od : Option Addr} {osl : Array (Option Value)} {f : Addr} {args : Args} {binds : List (Str × Value)}
    (B : Below A₀ base outer h₀) (F : Fr h₀ L s.heap m) (X₀ : K.In h₀) (N : News h₀ L s.heap news) (T : Top p loose mean mg mb h₀) (hA : A.frames = some (env :: outer)) (hf : env.frame = some L) (hke : env.scope.kind = .function)
    (ho : K.lookup f = some ⟨oc, od, .func (fnOf name qual params body scope dV kV doc pm an cdv ct), osl⟩) (hcd : codeIn K cdv qual = true) (hroom : A.depth < recursionLimit)
    (hbind : BindsTo s (fnOf name qual params body scope dV kV doc pm an cdv ct) args binds) (hloc : ∀ y ∈ binds, scope.names.lookup y.1 = some .local)
    (h : ∀ g L' h₁, (∀ b o, s.heap.get? b = some o → b ∉ news.map (·.1) → g.get? b = some o) → Kp g s.heap → Fr h₀ L g m → Fr g L' h₁ (fun y => binds.reverse.lookup y) → News g L' h₁ news → Below A base (env :: outer) g → K.In g → Top p loose mean mg mb g → (∀ p ∈ news, p.1 < L') →
      wpAny (model prog w) (A.deeper (envOf qual scope L' f cdv)) (execs body (envOf qual scope L' f cdv))
        (fun fl s' => LeaveK h₀ L m g (fun r s' => Kp g s'.heap → R r s') (match fl with | .ret v => v | _ => .none) s')
        (fun e s' => wpAny (model prog w) (A.deeper (envOf qual scope L' f cdv)) (leaving (envOf qual scope L' f cdv) e) (fun _ s'' => R (.error e) s'') (fun e' s'' => R (.error e') s'') s')
        { s with heap := h₁, toks := s.toks + binds.length })
    (hco : scope.isCoroutine = false) (hgen : scope.isGenerator = false) (hk : scope.kind = .function)
    (hcell : ∀ x ∈ scope.names, x.2 ≠ .cell) : codeAny (model prog w) A (.call (.ref f) args) R s := by
  obtain ⟨FG, BG, st, lv⟩ := groundX (R := R) B F N hA hf hke
  have X := X₀.keeps F.keep
  refine codeAny_call_def (fd := fnOf name qual params body scope dV kV doc pm an cdv ct) (body := body) (binds := binds) hroom (X _ _ ho) rfl ((T.nolimit).keeps F.keep) (codeRec_of X hcd) rfl hbind hcell hloc (fun h₁ hns hk₁ => ?_) hco hgen hk
  refine wpAny_mono (h (hideAll s.heap (news.map (·.1))) s.heap.objs.size h₁ (fun b o e hn => hideAll_get _ e hn) (fun b o e => of_hideAll _ e) FG ⟨hns, fun b o e => hk₁ b o (of_hideAll _ e), Nat.le_of_eq (hideAll_size _ _)⟩
    (fun p hp => ⟨hk₁ _ _ (N p hp).1, Nat.ne_of_lt (Heap.lt_size (N p hp).1), hideAll_none _ (List.mem_map_of_mem hp)⟩) BG (X₀.keeps fun b o e => st b o e) (T.keeps fun b o e => st b o e) (fun p hp => Heap.lt_size (N p hp).1)) (fun fl s' hl => ?_) fun _ _ y => y
  obtain ⟨L', m', news', F', N', k⟩ := hl
  exact lv _ _ ⟨L', m', news', F', N', fun a b => k a b F'.keep⟩

theorem leave_pure {h₀ g h : Heap} {L L' : Addr} {m m' : Str → Option Value} {news' : List (Addr × Obj)} {R : Result → Shared → Prop} {v : Value} {s' : Shared} (F' : Fr g L' s'.heap m') (N' : News g L' s'.heap news') (hg : Kp h g)
    (k : Kp h s'.heap → R (.ok (.ret v)) s') : LeaveK h₀ L m g (fun r s' => Kp g s'.heap → R r s') v s' :=
  leaveK_ F' N' fun _ _ kk => k fun b o e => kk b o (hg b o e)

theorem leave_pureN {h₀ g h : Heap} {L L' : Addr} {m m' : Str → Option Value} {news' : List (Addr × Obj)} {R : Result → Shared → Prop} {v : Value} {s' : Shared} (F' : Fr g L' s'.heap m') (N' : News g L' s'.heap news') (hg : Kp h g)
    (k : Kp h s'.heap → (∀ p ∈ news', s'.heap.get? p.1 = some p.2 ∧ h.get? p.1 = none) → R (.ok (.ret v)) s') : LeaveK h₀ L m g (fun r s' => Kp g s'.heap → R r s') v s' :=
  leaveK_ F' N' fun _ _ kk => k (fun b o e => kk b o (hg b o e)) fun p hp => ⟨(N' p hp).1, by
    cases q : h.get? p.1 with
    | none => rfl
    | some o => have := hg _ _ q; rw [(N' p hp).2.2] at this; cases this⟩
end
section
theorem rsM2 : True := by first | (w_top off; walk1) | trivial
abbrev LTS : PySem.Str := Str.ofString ".PNBRQK..pnbrqk"

theorem item_LTS {prog : Program} {w : World} {A : Around} {E : Value → Shared → Prop} {s : Shared} {value slice : PySem.Expr} {t : Tok} {i : Int} {u : Tok} {Q : Value → Shared → Prop} (h1 : 0 ≤ i) (h2 : i < 15)
    (h : ∀ t' k, Q (.str (Txt.item LTS i) t') { s with toks := k })
    (hs : subscripted slice false (.str LTS t) (.int i u) = operate [.str LTS t, .int i u] (getItem (.str LTS t) (.int i u)) := by with_unfolding_all rfl)
    (ht : ∀ r, letTemporaryGo value (.str LTS t) r = pure () := by intro _; with_unfolding_all rfl) :
    wpAny (model prog w) A (subscriptTail value slice (.str LTS t) (.int i u)) Q E s := by
  have hl : LTS.length = 15 := by decide +kernel
  refine PyProof.Rows.item_str (fitsSsize_of (N := 9223372036854775808) (by omega) (by omega) (Int.le_refl _)) ?_ ?_ (fun _ => h _ _) hs ht
  · rw [hl]; omega
  · rw [hl]; omega

set_option maxHeartbeats 8000000 in
theorem piece_ctr (w : World) (mean : ExcName → Option Value) (mg mb : Str → Option Value) (k : Int) (tk : Tok) (hk1 : 2 ≤ k) (hk2 : k ≤ 6) :
  ∀ (dp un : Nat) (gd : Option (List Code)) (cn : Str) (cs : Scope) (a : Addr) (ccd : Value) (cl : List (Str × Addr)) (outer : List Env) (A₀ : Around) (base h₀ : Heap) (L : Addr) (m : Str → Option Value) (s : Shared) (Q E : Value → Shared → Prop),
    Below A₀ base outer h₀ → Fr h₀ L s.heap m → (Mine.hd.heap_39 w.params).In h₀ → Top Mine.look (looseW Mine.look []) mean mg mb h₀ → cs.kind = .function → dp + 2 < recursionLimit → un + 100 < cLine →
    (∀ h' tk', Kp s.heap h' → Q (.bool true) { s with heap := h', toks := tk' }) →
    wpAny (model PySem.Challenge.pw_pf0092_01 w) (ktrTop dp un gd cn cs L a ccd cl outer) (call (.ref 72) [.int k tk]) Q E s := by
  (have e9 : PySem.Challenge.rw_pf0092_01 = PySem.Challenge.rw_pf0092_01 := rfl); revert e9; k_fill; intro _
  intro dp un gd cn cs a ccd cl outer A₀ base h₀ L m s Q E B F X T hk hd hu hret
  refine wpAny_call ?_
  k_dflt (refine' enterG (news := []) (binds := [(Str.ofString "number", Value.int k tk)]) ?k1 ?k2 ?k3 ?k4 ?k5 ?kA ?kF ?kK ?k6 ?k7 ?k8 ?k9 ?kB ?_ ?c2 ?c3 ?c4 ?c5; (case kA => exact rfl); (case kF => exact rfl); (case kK => assumption); (case k1 => k_asm); (case k2 => k_asm); (case k3 => k_asm); (case k4 => first | exact News.nil | k_asm); (case k5 => k_asm); (case k6 => k_is); (case k7 => k_is); (case k8 => ktr_room); (case k9 => exact BindsTo.of_eq rfl); (case c5 => decide); (case kB => exact locs rfl); (case c2 => exact rfl); (case c3 => exact rfl); (case c4 => exact rfl); k_whole; intro gE L' h' hgE hgS FG' F' N' B' X' T' lE; (try dsimp only); (try k_fold))
  clear B F X T
  replace hgE : Kp s.heap gE := fun b o e => hgE b o e (fun q => nomatch q)
  clear lE
  k_steps
  all_goals (refine leave_pure (by k_asm) (by k_asm) hgE (fun hk9 => ?_); dsimp only)
  · rw [show (k != 8) = true from by simp only [bne_iff_ne, ne_eq]; omega]; exact hret _ _ hk9
  · exact absurd (by assumption : k = 7) (by omega)

section
local macro_rules | `(tactic| walk_at "call ref") => `(tactic| ((with_reducible show wpAny _ _ (PySem.call (Value.ref 72) _) _ _ _); (k_dflt (refine' piece_ctr _ _ _ _ _ _ ?p0 ?p1 _ _ _ _ _ _ _ _ _ _ _ _ _ _ _ _ _ ?B ?F ?X ?T ?kk ?d ?u ?_; (case B => k_asm); (case F => k_asm); (case X => k_asm); (case T => k_asm); (case kk => first | rfl | assumption); (case p0 => omega); (case p1 => omega); (case d => ktr_room); (case u => ktr_units))); (intro h9 tk9 hk9); (with_reducible rename Fr _ _ _ _ => F9); (with_reducible rename News _ _ _ _ => N9); (replace F9 := Fr.after F9 hk9); (replace N9 := News.grown N9 hk9); (clear hk9); (try dsimp only)))
local macro_rules | `(tactic| walk_at "subscriptTail Name Name str int") => `(tactic| ((with_reducible show wpAny _ _ (subscriptTail _ _ (Value.str (PySem.Str.ofString ".PNBRQK..pnbrqk") _) (Value.int _ _)) _ _ _); refine item_LTS (by omega) (by omega) ?_; intro _ _))
set_option maxHeartbeats 8000000 in
theorem letter_ctr (w : World) (mean : ExcName → Option Value) (mg mb : Str → Option Value) (k : Int) (tk : Tok) (hk1 : 2 ≤ k) (hk2 : k ≤ 6) :
  ∀ (dp un : Nat) (gd : Option (List Code)) (cn : Str) (cs : Scope) (a : Addr) (ccd : Value) (cl : List (Str × Addr)) (outer : List Env) (A₀ : Around) (base h₀ : Heap) (L : Addr) (m : Str → Option Value) (s : Shared) (Q E : Value → Shared → Prop),
    Below A₀ base outer h₀ → Fr h₀ L s.heap m → (Mine.hd.heap_39 w.params).In h₀ → Top Mine.look (looseW Mine.look []) mean mg mb h₀ → cs.kind = .function → dp + 4 < recursionLimit → un + 120 < cLine →
    (∀ t h' tk', Kp s.heap h' → Q (.str (Txt.item LTS k) t) { s with heap := h', toks := tk' }) →
    wpAny (model PySem.Challenge.pw_pf0092_01 w) (ktrTop dp un gd cn cs L a ccd cl outer) (call (.ref 79) [.int k tk]) Q E s := by
  (have e9 : PySem.Challenge.rw_pf0092_01 = PySem.Challenge.rw_pf0092_01 := rfl); revert e9; k_fill; intro _
  intro dp un gd cn cs a ccd cl outer A₀ base h₀ L m s Q E B F X T hk hd hu hret
  refine wpAny_call ?_
  k_dflt (refine' enterG (news := []) (binds := [(Str.ofString "piece", Value.int k tk)]) ?k1 ?k2 ?k3 ?k4 ?k5 ?kA ?kF ?kK ?k6 ?k7 ?k8 ?k9 ?kB ?_ ?c2 ?c3 ?c4 ?c5; (case kA => exact rfl); (case kF => exact rfl); (case kK => assumption); (case k1 => k_asm); (case k2 => k_asm); (case k3 => k_asm); (case k4 => first | exact News.nil | k_asm); (case k5 => k_asm); (case k6 => k_is); (case k7 => k_is); (case k8 => ktr_room); (case k9 => exact BindsTo.of_eq rfl); (case c5 => decide); (case kB => exact locs rfl); (case c2 => exact rfl); (case c3 => exact rfl); (case c4 => exact rfl); k_whole; intro gE L' h' hgE hgS FG' F' N' B' X' T' lE; (try dsimp only); (try k_fold))
  clear B F X T
  replace hgE : Kp s.heap gE := fun b o e => hgE b o e (fun q => nomatch q)
  clear lE
  k_steps
  all_goals (refine leave_pure (by k_asm) (by k_asm) hgE (fun hk9 => ?_); dsimp only)
  all_goals exact hret _ _ _ hk9
end

theorem eq_split {prog : Program} {w : World} {A : Around} {E : Value → Shared → Prop} {s : Shared} {Q : Value → Shared → Prop} {x y : PySem.Str} {t u : Tok} (h1 : x = y → Q (.bool true) s) (h2 : x ≠ y → Q (.bool false) s) :
    wpAny (model prog w) A (compareOp .Eq (.str x t) (.str y u)) Q E s := by
  refine PyProof.Rows.eq_str ?_
  by_cases h : x = y
  · rw [show (x == y) = true from by simpa using h]; exact h1 h
  · rw [show (x == y) = false from by simpa using h]; exact h2 h
theorem in_lit {prog : Program} {w : World} {A : Around} {E : Value → Shared → Prop} {s : Shared} {Q : Value → Shared → Prop} {x y : PySem.Str} {t u : Tok} {b : Bool} (e : (!(Builtin.Str.occurrences x y 0 x.length 1).isEmpty) = b) (h : Q (.bool b) s) :
    wpAny (model prog w) A (compareOp .In (.str y u) (.str x t)) Q E s := PyProof.Rows.in_str (by rw [e]; exact h)

/-- the kind that a letter names (0: none) -/
def kindF (x : PySem.Str) : Int :=
  if x = Str.ofString "N" then 2 else if x = Str.ofString "B" then 3 else if x = Str.ofString "R" then 4 else if x = Str.ofString "Q" then 5 else if x = Str.ofString "K" then 6 else 0
def kindP (x : PySem.Str) : Int :=
  if x = Str.ofString "N" then 2 else if x = Str.ofString "B" then 3 else if x = Str.ofString "R" then 4 else if x = Str.ofString "Q" then 5 else 0
theorem kind_none {x : PySem.Str} (h1 : x ≠ Str.ofString "N") (h2 : x ≠ Str.ofString "B") (h3 : x ≠ Str.ofString "R") (h4 : x ≠ Str.ofString "Q") (h5 : x ≠ Str.ofString "K") : kindF x = 0 := by
  unfold kindF
  rw [if_neg h1, if_neg h2, if_neg h3, if_neg h4, if_neg h5]
theorem kindP_none {x : PySem.Str} (h1 : x ≠ Str.ofString "N") (h2 : x ≠ Str.ofString "B") (h3 : x ≠ Str.ofString "R") (h4 : x ≠ Str.ofString "Q") : kindP x = 0 := by
  unfold kindP
  rw [if_neg h1, if_neg h2, if_neg h3, if_neg h4]
theorem lit2 : Txt.item LTS 2 = Str.ofString "N" := by decide +kernel
theorem lit3 : Txt.item LTS 3 = Str.ofString "B" := by decide +kernel
theorem lit4 : Txt.item LTS 4 = Str.ofString "R" := by decide +kernel
theorem lit5 : Txt.item LTS 5 = Str.ofString "Q" := by decide +kernel
theorem lit6 : Txt.item LTS 6 = Str.ofString "K" := by decide +kernel
theorem letter_lit (w : World) (mean : ExcName → Option Value) (mg mb : Str → Option Value) (k : Int) (tk : Tok) (c : PySem.Str) (hk1 : 2 ≤ k) (hk2 : k ≤ 6) (hc : Txt.item LTS k = c) :
  ∀ (dp un : Nat) (gd : Option (List Code)) (cn : Str) (cs : Scope) (a : Addr) (ccd : Value) (cl : List (Str × Addr)) (outer : List Env) (A₀ : Around) (base h₀ : Heap) (L : Addr) (m : Str → Option Value) (s : Shared) (Q E : Value → Shared → Prop),
    Below A₀ base outer h₀ → Fr h₀ L s.heap m → (Mine.hd.heap_39 w.params).In h₀ → Top Mine.look (looseW Mine.look []) mean mg mb h₀ → cs.kind = .function → dp + 4 < recursionLimit → un + 120 < cLine →
    (∀ t h' tk', Kp s.heap h' → Q (.str c t) { s with heap := h', toks := tk' }) →
    wpAny (model PySem.Challenge.pw_pf0092_01 w) (ktrTop dp un gd cn cs L a ccd cl outer) (call (.ref 79) [.int k tk]) Q E s := by
  subst hc
  exact letter_ctr w mean mg mb k tk hk1 hk2

section
local macro_rules | `(tactic| walk_at "call ref") => `(tactic| ((with_reducible show wpAny _ _ (PySem.call (Value.ref 79) _) _ _ _); (k_dflt (refine' letter_lit _ _ _ _ _ _ _ ?p0 ?p1 ?p2 _ _ _ _ _ _ _ _ _ _ _ _ _ _ _ _ _ ?B ?F ?X ?T ?kk ?d ?u ?_; (case B => k_asm); (case F => k_asm); (case X => k_asm); (case T => k_asm); (case kk => first | rfl | assumption); (case p0 => omega); (case p1 => omega); (case p2 => first | exact lit2 | exact lit3 | exact lit4 | exact lit5 | exact lit6); (case d => ktr_room); (case u => ktr_units))); (intro t9 h9 tk9 hk9); (with_reducible rename Fr _ _ _ _ => F9); (with_reducible rename News _ _ _ _ => N9); (replace F9 := Fr.after F9 hk9); (replace N9 := News.grown N9 hk9); (clear hk9); (try dsimp only)))
local macro_rules | `(tactic| walk_at "compareOp Eq str str") => `(tactic| (refine eq_split (fun hE => ?_) (fun hE => ?_); (subst hE)))
local macro_rules | `(tactic| walk_at "compareOp In str str") => `(tactic| (refine in_lit (b := true) (by decide +kernel) ?_))
local macro_rules | `(tactic| walk_at "compareOp In str str") => `(tactic| (refine in_lit (b := false) (by decide +kernel) ?_))
set_option maxHeartbeats 8000000 in
theorem kind_ctr (w : World) (mean : ExcName → Option Value) (mg mb : Str → Option Value) (x : PySem.Str) (tx ty : Tok) (hx1 : x.length ≤ 100) :
  ∀ (dp un : Nat) (gd : Option (List Code)) (cn : Str) (cs : Scope) (a : Addr) (ccd : Value) (cl : List (Str × Addr)) (outer : List Env) (A₀ : Around) (base h₀ : Heap) (L : Addr) (m : Str → Option Value) (s : Shared) (Q E : Value → Shared → Prop),
    Below A₀ base outer h₀ → Fr h₀ L s.heap m → (Mine.hd.heap_39 w.params).In h₀ → Top Mine.look (looseW Mine.look []) mean mg mb h₀ → cs.kind = .function → dp + 8 < recursionLimit → un + 140 < cLine →
    (∀ v t h' tk', v = kindF x → Kp s.heap h' → Q (.int v t) { s with heap := h', toks := tk' }) →
    wpAny (model PySem.Challenge.pw_pf0092_01 w) (ktrTop dp un gd cn cs L a ccd cl outer) (call (.ref 93) [.str x tx, .str (Str.ofString "NBRQK") ty]) Q E s := by
  (have e9 : PySem.Challenge.rw_pf0092_01 = PySem.Challenge.rw_pf0092_01 := rfl); revert e9; k_fill; intro _
  intro dp un gd cn cs a ccd cl outer A₀ base h₀ L m s Q E B F X T hk hd hu hret
  refine wpAny_call ?_
  k_dflt (refine' enterG (news := []) (binds := [(Str.ofString "letter", Value.str x tx), (Str.ofString "letters", Value.str (Str.ofString "NBRQK") ty)]) ?k1 ?k2 ?k3 ?k4 ?k5 ?kA ?kF ?kK ?k6 ?k7 ?k8 ?k9 ?kB ?_ ?c2 ?c3 ?c4 ?c5; (case kA => exact rfl); (case kF => exact rfl); (case kK => assumption); (case k1 => k_asm); (case k2 => k_asm); (case k3 => k_asm); (case k4 => first | exact News.nil | k_asm); (case k5 => k_asm); (case k6 => k_is); (case k7 => k_is); (case k8 => ktr_room); (case k9 => exact BindsTo.of_eq rfl); (case c5 => decide); (case kB => exact locs rfl); (case c2 => exact rfl); (case c3 => exact rfl); (case c4 => exact rfl); k_whole; intro gE L' h' hgE hgS FG' F' N' B' X' T' lE; (try dsimp only); (try k_fold))
  clear B F X T
  replace hgE : Kp s.heap gE := fun b o e => hgE b o e (fun q => nomatch q)
  clear lE
  k_steps
  all_goals (refine leave_pure (by k_asm) (by k_asm) hgE (fun hk9 => ?_); dsimp only)
  all_goals (refine hret _ _ _ _ ?_ hk9)
  all_goals first
    | decide +kernel
    | exact (kind_none (fun h => absurd h.symm (by assumption)) (fun h => absurd h.symm (by assumption)) (fun h => absurd h.symm (by assumption)) (fun h => absurd h.symm (by assumption)) (fun h => absurd h.symm (by assumption))).symm

set_option maxHeartbeats 8000000 in
theorem kindP_ctr (w : World) (mean : ExcName → Option Value) (mg mb : Str → Option Value) (x : PySem.Str) (tx ty : Tok) (hx1 : x.length ≤ 100) :
  ∀ (dp un : Nat) (gd : Option (List Code)) (cn : Str) (cs : Scope) (a : Addr) (ccd : Value) (cl : List (Str × Addr)) (outer : List Env) (A₀ : Around) (base h₀ : Heap) (L : Addr) (m : Str → Option Value) (s : Shared) (Q E : Value → Shared → Prop),
    Below A₀ base outer h₀ → Fr h₀ L s.heap m → (Mine.hd.heap_39 w.params).In h₀ → Top Mine.look (looseW Mine.look []) mean mg mb h₀ → cs.kind = .function → dp + 8 < recursionLimit → un + 140 < cLine →
    (∀ v t h' tk', v = kindP x → Kp s.heap h' → Q (.int v t) { s with heap := h', toks := tk' }) →
    wpAny (model PySem.Challenge.pw_pf0092_01 w) (ktrTop dp un gd cn cs L a ccd cl outer) (call (.ref 93) [.str x tx, .str (Str.ofString "NBRQ") ty]) Q E s := by
  (have e9 : PySem.Challenge.rw_pf0092_01 = PySem.Challenge.rw_pf0092_01 := rfl); revert e9; k_fill; intro _
  intro dp un gd cn cs a ccd cl outer A₀ base h₀ L m s Q E B F X T hk hd hu hret
  refine wpAny_call ?_
  k_dflt (refine' enterG (news := []) (binds := [(Str.ofString "letter", Value.str x tx), (Str.ofString "letters", Value.str (Str.ofString "NBRQ") ty)]) ?k1 ?k2 ?k3 ?k4 ?k5 ?kA ?kF ?kK ?k6 ?k7 ?k8 ?k9 ?kB ?_ ?c2 ?c3 ?c4 ?c5; (case kA => exact rfl); (case kF => exact rfl); (case kK => assumption); (case k1 => k_asm); (case k2 => k_asm); (case k3 => k_asm); (case k4 => first | exact News.nil | k_asm); (case k5 => k_asm); (case k6 => k_is); (case k7 => k_is); (case k8 => ktr_room); (case k9 => exact BindsTo.of_eq rfl); (case c5 => decide); (case kB => exact locs rfl); (case c2 => exact rfl); (case c3 => exact rfl); (case c4 => exact rfl); k_whole; intro gE L' h' hgE hgS FG' F' N' B' X' T' lE; (try dsimp only); (try k_fold))
  clear B F X T
  replace hgE : Kp s.heap gE := fun b o e => hgE b o e (fun q => nomatch q)
  clear lE
  k_steps
  all_goals (refine leave_pure (by k_asm) (by k_asm) hgE (fun hk9 => ?_); dsimp only)
  all_goals (refine hret _ _ _ _ ?_ hk9)
  all_goals first
    | decide +kernel
    | exact (kindP_none (fun h => absurd h.symm (by assumption)) (fun h => absurd h.symm (by assumption)) (fun h => absurd h.symm (by assumption)) (fun h => absurd h.symm (by assumption))).symm
end
end
section
theorem rsM3 : True := by first | (w_top off; walk1) | trivial
abbrev E0 : PySem.Str := Str.ofString ""
abbrev FLS : PySem.Str := Str.ofString "abcdefgh"
abbrev RDS : PySem.Str := Str.ofString "12345678"
/-- y stands in x -/
def Sub (x y : PySem.Str) : Bool := !(Builtin.Str.occurrences x y 0 x.length 1).isEmpty

section
variable {prog : Program} {w : World} {A : Around} {E : Value → Shared → Prop} {s : Shared} {Q : Value → Shared → Prop} {x y : PySem.Str} {t u : Tok}
theorem ne_split (h1 : x = y → Q (.bool false) s) (h2 : x ≠ y → Q (.bool true) s) :
    wpAny (model prog w) A (compareOp .NotEq (.str x t) (.str y u)) Q E s := by
  refine PyProof.Rows.ne_str ?_
  by_cases h : x = y
  · rw [show (x != y) = false from by simpa using h]; exact h1 h
  · rw [show (x != y) = true from by simpa using h]; exact h2 h
theorem in_split (h1 : Sub x y = true → Q (.bool true) s) (h2 : Sub x y = false → Q (.bool false) s) :
    wpAny (model prog w) A (compareOp .In (.str y u) (.str x t)) Q E s := by
  refine PyProof.Rows.in_str ?_
  show Q (.bool (Sub x y)) s
  cases h : Sub x y
  · exact h2 h
  · exact h1 h
theorem len_pos_of (h : Txt.slice x none (some 1) ≠ E0) : 0 < x.length := by
  rcases Nat.eq_zero_or_pos x.length with e | e
  · refine absurd ?_ h
    obtain ⟨⟨l⟩⟩ := x
    cases l with
    | nil => decide +kernel
    | cons c r => exact absurd e (Nat.succ_ne_zero _)
  · exact e
theorem item_first {value slice : PySem.Expr} {i : Tok} (h : Txt.slice x none (some 1) ≠ E0)
    (k : ∀ t' k, Q (.str (Txt.item x 0) t') { s with toks := k })
    (hs : subscripted slice false (.str x t) (.int 0 i) = operate [.str x t, .int 0 i] (getItem (.str x t) (.int 0 i)) := by with_unfolding_all rfl)
    (ht : ∀ r, letTemporaryGo value (.str x t) r = pure () := by intro _; with_unfolding_all rfl) :
    wpAny (model prog w) A (subscriptTail value slice (.str x t) (.int 0 i)) Q E s := by
  have hl := len_pos_of h
  exact PyProof.Rows.item_str (by decide) (by omega) (by omega) (fun _ => k _ _) hs ht
end

/-- one sign of D cut off the head: its place (-1: none), the rest -/
def cutA (D x : PySem.Str) : Int × PySem.Str :=
  if Txt.slice x none (some 1) ≠ E0 ∧ Sub D (Txt.item x 0) = true then (Txt.find D (Txt.item x 0), Txt.slice x (some 1) none) else (-1, x)
theorem cutA_yes {D x : PySem.Str} (h1 : Txt.slice x none (some 1) ≠ E0) (h2 : Sub D (Txt.item x 0) = true) : cutA D x = (Txt.find D (Txt.item x 0), Txt.slice x (some 1) none) := if_pos ⟨h1, h2⟩
theorem cutA_no1 {D x : PySem.Str} (h1 : Txt.slice x none (some 1) = E0) : cutA D x = (-1, x) := if_neg fun h => h.1 h1
theorem cutA_no2 {D x : PySem.Str} (h2 : Sub D (Txt.item x 0) = false) : cutA D x = (-1, x) := if_neg fun h => by rw [h2] at h; exact absurd h.2 Bool.false_ne_true
/-- what cut_origin yields -/
def cutF (x : PySem.Str) : Option (Int × Int) :=
  if (cutA RDS (cutA FLS x).2).2 = E0 then some ((cutA FLS x).1, (cutA RDS (cutA FLS x).2).1) else none
theorem cut_some {x x1 x2 : PySem.Str} {f r : Int} (ha : cutA FLS x = (f, x1)) (hb : cutA RDS x1 = (r, x2)) (hc : x2 = E0) : cutF x = some (f, r) := by
  unfold cutF
  rw [ha, hb, if_pos hc]
theorem cut_none {x x1 x2 : PySem.Str} {f r : Int} (ha : cutA FLS x = (f, x1)) (hb : cutA RDS x1 = (r, x2)) (hc : x2 ≠ E0) : cutF x = none := by
  unfold cutF
  rw [ha, hb, if_neg hc]
theorem kp_new {p : Addr × Obj} {l : List (Addr × Obj)} {P : Addr × Obj → Prop} (k : ∀ q ∈ p :: l, P q) : P p := k p (.head _)

section
local macro_rules | `(tactic| walk_at "compareOp Eq str str") => `(tactic| (refine eq_split (fun hE => ?_) (fun hE => ?_)))
local macro_rules | `(tactic| walk_at "compareOp NotEq str str") => `(tactic| (refine ne_split (fun hE => ?_) (fun hE => ?_) <;> first | exact absurd hE (by assumption) | exact absurd (by assumption) hE | skip))
local macro_rules | `(tactic| walk_at "compareOp In str str") => `(tactic| (refine in_split (fun hE => ?_) (fun hE => ?_)))
local macro_rules | `(tactic| walk_at "subscriptTail Name Constant str int") => `(tactic| ((refine item_first (by assumption) ?_); intro _ _))
def CutRes (h h' : Heap) (x : PySem.Str) (v : Value) : Prop :=
  Kp h h' ∧ ((v = .none ∧ cutF x = none) ∨ ∃ a f r tf tr, v = .ref a ∧ cutF x = some (f, r) ∧ h.get? a = none ∧ h'.get? a = some { cls := .type "tuple", data := .seq #[.int f tf, .int r tr] })
theorem cutRes_none {h h' : Heap} {x : PySem.Str} (e : cutF x = none) (k : Kp h h') : CutRes h h' x .none := ⟨k, .inl ⟨rfl, e⟩⟩
theorem cutRes_some {h h' : Heap} {x : PySem.Str} {a : Addr} {f r : Int} {tf tr : Tok} (e : cutF x = some (f, r)) (k : Kp h h') (hn : h.get? a = none) (ha : h'.get? a = some { cls := .type "tuple", data := .seq #[.int f tf, .int r tr] }) : CutRes h h' x (.ref a) :=
  ⟨k, .inr ⟨a, f, r, tf, tr, rfl, e, hn, ha⟩⟩
set_option maxHeartbeats 8000000 in
theorem cut_ctr (w : World) (mean : ExcName → Option Value) (mg mb : Str → Option Value) (x : PySem.Str) (tx : Tok) (hx1 : x.length ≤ 100) :
  ∀ (dp un : Nat) (gd : Option (List Code)) (cn : Str) (cs : Scope) (a : Addr) (ccd : Value) (cl : List (Str × Addr)) (outer : List Env) (A₀ : Around) (base h₀ : Heap) (L : Addr) (m : Str → Option Value) (s : Shared) (Q E : Value → Shared → Prop),
    Below A₀ base outer h₀ → Fr h₀ L s.heap m → (Mine.hd.heap_39 w.params).In h₀ → Top Mine.look (looseW Mine.look []) mean mg mb h₀ → cs.kind = .function → dp + 8 < recursionLimit → un + 140 < cLine →
    (∀ v h' tk', CutRes s.heap h' x v → Q v { s with heap := h', toks := tk' }) →
    wpAny (model PySem.Challenge.pw_pf0092_01 w) (ktrTop dp un gd cn cs L a ccd cl outer) (call (.ref 100) [.str x tx]) Q E s := by
  (have e9 : PySem.Challenge.rw_pf0092_01 = PySem.Challenge.rw_pf0092_01 := rfl); revert e9; k_fill; intro _
  intro dp un gd cn cs a ccd cl outer A₀ base h₀ L m s Q E B F X T hk hd hu hret
  refine wpAny_call ?_
  k_dflt (refine' enterG (news := []) (binds := [(Str.ofString "rest", Value.str x tx)]) ?k1 ?k2 ?k3 ?k4 ?k5 ?kA ?kF ?kK ?k6 ?k7 ?k8 ?k9 ?kB ?_ ?c2 ?c3 ?c4 ?c5; (case kA => exact rfl); (case kF => exact rfl); (case kK => assumption); (case k1 => k_asm); (case k2 => k_asm); (case k3 => k_asm); (case k4 => first | exact News.nil | k_asm); (case k5 => k_asm); (case k6 => k_is); (case k7 => k_is); (case k8 => ktr_room); (case k9 => exact BindsTo.of_eq rfl); (case c5 => decide); (case kB => exact locs rfl); (case c2 => exact rfl); (case c3 => exact rfl); (case c4 => exact rfl); k_whole; intro gE L' h' hgE hgS FG' F' N' B' X' T' lE; (try dsimp only); (try k_fold))
  clear B F X T
  replace hgE : Kp s.heap gE := fun b o e => hgE b o e (fun q => nomatch q)
  clear lE
  k_steps
  all_goals (refine leave_pureN (by k_asm) (by k_asm) hgE (fun hk9 hN9 => ?_); dsimp only)
  all_goals first
    | exact hret _ _ _ (cutRes_some (cut_some (cutA_yes (by with_reducible assumption) (by with_reducible assumption)) (cutA_yes (by with_reducible assumption) (by with_reducible assumption)) (by with_reducible assumption)) hk9 (kp_new hN9).2 (kp_new hN9).1)
    | exact hret _ _ _ (cutRes_none (cut_none (cutA_yes (by with_reducible assumption) (by with_reducible assumption)) (cutA_yes (by with_reducible assumption) (by with_reducible assumption)) (by with_reducible assumption)) hk9)
    | exact hret _ _ _ (cutRes_some (cut_some (cutA_yes (by with_reducible assumption) (by with_reducible assumption)) (cutA_no1 (by with_reducible assumption)) (by with_reducible assumption)) hk9 (kp_new hN9).2 (kp_new hN9).1)
    | exact hret _ _ _ (cutRes_none (cut_none (cutA_yes (by with_reducible assumption) (by with_reducible assumption)) (cutA_no1 (by with_reducible assumption)) (by with_reducible assumption)) hk9)
    | exact hret _ _ _ (cutRes_some (cut_some (cutA_yes (by with_reducible assumption) (by with_reducible assumption)) (cutA_no2 (by with_reducible assumption)) (by with_reducible assumption)) hk9 (kp_new hN9).2 (kp_new hN9).1)
    | exact hret _ _ _ (cutRes_none (cut_none (cutA_yes (by with_reducible assumption) (by with_reducible assumption)) (cutA_no2 (by with_reducible assumption)) (by with_reducible assumption)) hk9)
    | exact hret _ _ _ (cutRes_some (cut_some (cutA_no1 (by with_reducible assumption)) (cutA_yes (by with_reducible assumption) (by with_reducible assumption)) (by with_reducible assumption)) hk9 (kp_new hN9).2 (kp_new hN9).1)
    | exact hret _ _ _ (cutRes_none (cut_none (cutA_no1 (by with_reducible assumption)) (cutA_yes (by with_reducible assumption) (by with_reducible assumption)) (by with_reducible assumption)) hk9)
    | exact hret _ _ _ (cutRes_some (cut_some (cutA_no1 (by with_reducible assumption)) (cutA_no1 (by with_reducible assumption)) (by with_reducible assumption)) hk9 (kp_new hN9).2 (kp_new hN9).1)
    | exact hret _ _ _ (cutRes_none (cut_none (cutA_no1 (by with_reducible assumption)) (cutA_no1 (by with_reducible assumption)) (by with_reducible assumption)) hk9)
    | exact hret _ _ _ (cutRes_some (cut_some (cutA_no1 (by with_reducible assumption)) (cutA_no2 (by with_reducible assumption)) (by with_reducible assumption)) hk9 (kp_new hN9).2 (kp_new hN9).1)
    | exact hret _ _ _ (cutRes_none (cut_none (cutA_no1 (by with_reducible assumption)) (cutA_no2 (by with_reducible assumption)) (by with_reducible assumption)) hk9)
    | exact hret _ _ _ (cutRes_some (cut_some (cutA_no2 (by with_reducible assumption)) (cutA_yes (by with_reducible assumption) (by with_reducible assumption)) (by with_reducible assumption)) hk9 (kp_new hN9).2 (kp_new hN9).1)
    | exact hret _ _ _ (cutRes_none (cut_none (cutA_no2 (by with_reducible assumption)) (cutA_yes (by with_reducible assumption) (by with_reducible assumption)) (by with_reducible assumption)) hk9)
    | exact hret _ _ _ (cutRes_some (cut_some (cutA_no2 (by with_reducible assumption)) (cutA_no1 (by with_reducible assumption)) (by with_reducible assumption)) hk9 (kp_new hN9).2 (kp_new hN9).1)
    | exact hret _ _ _ (cutRes_none (cut_none (cutA_no2 (by with_reducible assumption)) (cutA_no1 (by with_reducible assumption)) (by with_reducible assumption)) hk9)
    | exact hret _ _ _ (cutRes_some (cut_some (cutA_no2 (by with_reducible assumption)) (cutA_no2 (by with_reducible assumption)) (by with_reducible assumption)) hk9 (kp_new hN9).2 (kp_new hN9).1)
    | exact hret _ _ _ (cutRes_none (cut_none (cutA_no2 (by with_reducible assumption)) (cutA_no2 (by with_reducible assumption)) (by with_reducible assumption)) hk9)
end

/-- the number of the square, -1 where there is none -/
def squareF (fs rs : Int) (x : PySem.Str) : Int :=
  if x.length ≠ 2 then -1
  else if Txt.find FLS (Txt.item x 0) < 0 ∨ fs ≤ Txt.find FLS (Txt.item x 0) ∨ Txt.find RDS (Txt.item x 1) < 0 ∨ rs ≤ Txt.find RDS (Txt.item x 1) then -1
  else Txt.find RDS (Txt.item x 1) * fs + Txt.find FLS (Txt.item x 0)
section
set_option maxHeartbeats 8000000 in
theorem square_ctr (w : World) (mean : ExcName → Option Value) (mg mb : Str → Option Value) (fs rs : Int) (x : PySem.Str) (t1 t2 tx : Tok) (hx1 : x.length ≤ 100) (hf1 : 1 ≤ fs) (hf2 : fs ≤ 8) (hr1 : 1 ≤ rs) (hr2 : rs ≤ 8) :
  ∀ (dp un : Nat) (gd : Option (List Code)) (cn : Str) (cs : Scope) (a : Addr) (ccd : Value) (cl : List (Str × Addr)) (outer : List Env) (A₀ : Around) (base h₀ : Heap) (L : Addr) (m : Str → Option Value) (s : Shared) (Q E : Value → Shared → Prop),
    Below A₀ base outer h₀ → Fr h₀ L s.heap m → (Mine.hd.heap_39 w.params).In h₀ → Top Mine.look (looseW Mine.look []) mean mg mb h₀ → cs.kind = .function → dp + 8 < recursionLimit → un + 140 < cLine →
    (∀ v t h' tk', v = squareF fs rs x → Kp s.heap h' → Q (.int v t) { s with heap := h', toks := tk' }) →
    wpAny (model PySem.Challenge.pw_pf0092_01 w) (ktrTop dp un gd cn cs L a ccd cl outer) (call (.ref 86) [.int fs t1, .int rs t2, .str x tx]) Q E s := by
  (have e9 : PySem.Challenge.rw_pf0092_01 = PySem.Challenge.rw_pf0092_01 := rfl); revert e9; k_fill; intro _
  intro dp un gd cn cs a ccd cl outer A₀ base h₀ L m s Q E B F X T hk hd hu hret
  refine wpAny_call ?_
  k_dflt (refine' enterG (news := []) (binds := [(Str.ofString "files", Value.int fs t1), (Str.ofString "ranks", Value.int rs t2), (Str.ofString "text", Value.str x tx)]) ?k1 ?k2 ?k3 ?k4 ?k5 ?kA ?kF ?kK ?k6 ?k7 ?k8 ?k9 ?kB ?_ ?c2 ?c3 ?c4 ?c5; (case kA => exact rfl); (case kF => exact rfl); (case kK => assumption); (case k1 => k_asm); (case k2 => k_asm); (case k3 => k_asm); (case k4 => first | exact News.nil | k_asm); (case k5 => k_asm); (case k6 => k_is); (case k7 => k_is); (case k8 => ktr_room); (case k9 => exact BindsTo.of_eq rfl); (case c5 => decide); (case kB => exact locs rfl); (case c2 => exact rfl); (case c3 => exact rfl); (case c4 => exact rfl); k_whole; intro gE L' h' hgE hgS FG' F' N' B' X' T' lE; (try dsimp only); (try k_fold))
  clear B F X T
  replace hgE : Kp s.heap gE := fun b o e => hgE b o e (fun q => nomatch q)
  clear lE
  k_steps
  all_goals (refine leave_pure (by k_asm) (by k_asm) hgE (fun hk9 => ?_); dsimp only)
  all_goals (refine hret _ _ _ _ ?_ hk9)
  all_goals (unfold squareF FLS RDS; (repeat' split) <;> first | rfl | omega)
end
end
section
theorem rsM4 : True := by first | (w_top off; walk1) | trivial
abbrev excObj (t : Addr) : Obj := { cls := .ref 63, data := .fields #[.ref t, .none, .none, .none, .bool false, .none] }
abbrev excObjD (t d : Addr) : Obj := { cls := .ref 63, dict := some d, data := .fields #[.ref t, .none, .none, .none, .bool false, .none] }
abbrev tup1 (v : Value) : Obj := { cls := .type "tuple", data := .seq #[v] }

theorem bad_mroE (P : Params) : mroIn (Mine.hd.heap_39 P) 63 (.type "Exception") = some true := by with_unfolding_all rfl
theorem bad_mroB (P : Params) : mroIn (Mine.hd.heap_39 P) 63 (.type "BaseException") = some true := by with_unfolding_all rfl
theorem bad_mroS (P : Params) : mroIn (Mine.hd.heap_39 P) 63 (.ref 63) = some true := by with_unfolding_all rfl
theorem bad_mroO (P : Params) : mroIn (Mine.hd.heap_39 P) 63 (.type "object") = some true := by with_unfolding_all rfl
theorem exc_find (P : Params) : findCls (Mine.hd.heap_39 P) (.type "Exception") (.type "type") (PySem.Str.ofString "__init__") = some (.val (.builtin "Exception.__init__")) := by with_unfolding_all rfl
theorem exc_meta : typeOf (.type "Exception") = pure (.type "type") := by first | rfl | kernel_rfl
abbrev BM : List Value := [.ref 31, .type "Exception", .type "BaseException", .type "object"]
abbrev badCls : Obj := excClassObj (Str.ofString "BadSan") (Str.ofString "BadSan") 63 62 [.ref 31] BM true [] [] false none none (some (.ref 54)) none (some (.str (Str.ofString "BadSan") 243)) (some (.str (Str.ofString "BadSan") 251)) (some (.bool true)) "Exception.__new__"
theorem bad_cls (P : Params) : (Mine.hd.heap_39 P).lookup 63 = some badCls := by with_unfolding_all rfl

section
variable {prog : Program} {w : World} {A : Around} {E : Value → Shared → Prop} {s : Shared} {h₀ : Heap} {L : Addr} {m : Str → Option Value} {e t : Addr} {v : Value}

theorem exc_inst {h : Heap} {od : Option Addr} (he : h.get? e = some (excObj t)) : InstAt h e (excObj t) 63 none := ⟨he, rfl, rfl, trivial⟩

theorem check_init {h : Heap} {g : Array GenState} {d : Drawn} {tk : Nat} {os : OsState} {M : Model} {oe : Obj} {rest : List Value} {Q : Unit → Shared → Prop}
    (hC : h.get? 63 = some badCls) (he : h.get? e = some oe) (hcls : oe.cls = .ref 63) (hq : Q () ⟨h, g, d, tk, os⟩) :
    wpAny M A (checkBuiltinCall "Exception.__init__" ⟨.ref e :: rest, []⟩) Q E ⟨h, g, d, tk, os⟩ := by
  have F := PySem.F.excBase_Exception
  have hcB : (Value.ref 63 :: BM).contains (.type "Exception") = true := by decide +kernel
  have hshort := F.noStar
  simp only [checkBuiltinCall, F.initKind, F.initSplit, F.initRow]
  repeat (first | (with_reducible refine wpAny_loadPart_at he ?_; rw [hcls]) | with_reducible refine wpAny_loadPart_at hC ?_ | (with_reducible refine wpAny_isSubtype_exc hC ?_; rw [hcB]) | wp_step)
  refine wpAny_onRaise ?_
  rw [show ∀ (a b : String) (n : Nat), Bind.check ⟨.positional, "*", "Exception", .self, [⟨"args", .varPos, false⟩]⟩ a b n (List.map (fun x => x.fst) ({ pos := Value.ref e :: rest } : Args).kw) = pure () from
    fun a b n => check_star_args _ _ _ _ _ _]
  exact wpAny_pure hq

theorem exc_init_call {o : Obj} {Q : Value → Shared → Prop} (F : Fr h₀ L s.heap m) (X₀ : (Mine.hd.heap_39 w.params).In h₀) (N : News h₀ L s.heap [(e, excObj t), (t, o)]) (hlt : t < e)
    (h : ∀ h' t', Fr h₀ L h' m → News h₀ L h' [(t', tup1 v), (e, excObj t'), (t, o)] → e < t' → Q .none { s with heap := h' }) :
    wpAny (model prog w) A (call (.builtin "Exception.__init__") [.ref e, v]) Q E s := by
  have FB := PySem.F.excBase_Exception
  have X := X₀.keeps F.keep
  have he := (N _ (.head _)).1
  obtain ⟨hp, g, d, tk, os⟩ := s
  refine wpAny_call (codeAny_call_builtin FB.init.plain FB.initEntry (check_init (X _ _ (bad_cls _)) he rfl ?_))
  dsimp only at N F he h
  have N1 := N.push F (tup1 v)
  have F1 := F.push (tup1 v)
  have hlt' : e < hp.objs.size := Heap.lt_size he
  obtain ⟨U1, U2⟩ := news_upd (pre := [(hp.objs.size, tup1 v)]) (post := [(t, o)]) (d := e) (o := excObj t) (o' := excObj hp.objs.size) (f := Obj.mapFields (·.setIfInBounds 0 (.ref hp.objs.size))) F1 N1
    (fun p hp => by rw [List.mem_singleton.mp hp]; exact Nat.ne_of_gt hlt') (fun p hp => by rw [List.mem_singleton.mp hp]; exact Nat.ne_of_lt hlt) rfl rfl
  unfold Builtin.«BaseException.__init__»
  dsimp only
  rw [if_neg (by simp)]
  unfold newTuple Builtin.BaseException.bexcPut
  have he₁ := Heap.get?_push_of_some (h := hp) (tup1 v) he
  refine wpAny_bind (wpAny_newObj_type (wpAny_bind (wpAny_bind (wpAny_field he₁ rfl rfl (wpAny_bind (wpAny_setField he₁ rfl (by show 0 < 6; decide) ?_))))) (by size_fits))
  exact wpAny_letGo (wpAny_pure (h _ _ U1 U2 hlt'))

theorem find_sa (P : Params) : findIn (Mine.hd.heap_39 P) (.ref 63) (PySem.Str.ofString "__setattr__") = some (some (.builtin "object.__setattr__")) := by with_unfolding_all rfl
theorem find_tx (P : Params) : findIn (Mine.hd.heap_39 P) (.ref 63) (PySem.Str.ofString "text") = some none := by with_unfolding_all rfl

theorem fr_but {h h' : Heap} {D : Addr} (F : Fr h₀ L h m) (hD : h₀.get? D = none) (hL : L ≠ D) (k : ∀ b, b ≠ D → h'.get? b = h.get? b) : Fr h₀ L h' m := by
  obtain ⟨⟨oL, es, ep, hL', r⟩, kp, ab⟩ := F
  exact ⟨⟨oL, es, ep, (k L hL).trans hL', r⟩, fun b o q => (k b (fun z => by rw [z, hD] at q; cases q)).trans (kp b o q), ab⟩

set_option maxHeartbeats 4000000 in
theorem osa_exc {R : Result → Shared → Prop} {o : Obj} {t' : Addr} {u : Value} {tk : Tok} (F : Fr h₀ L s.heap m) (X₀ : (Mine.hd.heap_39 w.params).In h₀) (N : News h₀ L s.heap [(t', tup1 v), (e, excObj t'), (t, o)]) (hlt : e < t') (hlt2 : t < e)
    (h : ∀ h' d tk', Fr h₀ L h' m → News h₀ L h' [(e, excObjD t' d), (t', tup1 v)] → R (.ok (.ret .none)) { s with heap := h', toks := tk' }) :
    codeAny (model prog w) A (.call (.builtin "object.__setattr__") ⟨[.ref e, .str (PySem.Str.ofString "text") tk, u], []⟩) R s := by
  have X := X₀.keeps F.keep
  have he : s.heap.get? e = some (excObj t') := (N _ (.tail _ (.head _))).1
  have I : InstAt s.heap e (excObj t') 63 none := ⟨he, rfl, rfl, trivial⟩
  have SF := PySem.F.store_object
  have hsu1 : Looks (model prog w) s.heap (isSubtype (.ref 63) (.type "object")) true := looks_mroIn X (bad_mroO w.params)
  have hty : Looks (model prog w) s.heap (typeOf (.ref e)) (.ref 63) := I.type
  have hsub : Looks (model prog w) s.heap (isInstance (.ref e) (.type "object")) true := hty.andThen hsu1
  have hC : s.heap.get? 63 = some badCls := X _ _ (bad_cls w.params)
  have hm : Looks (model prog w) s.heap (mroOf (.ref 63)) (.ref 63 :: BM) := ((Looks.ld (part := none) hC).andThen .now).andThen .now
  have hfx : Looks (model prog w) s.heap (typeLookup (.ref 63) (PySem.Str.ofString "text")) none := looks_findIn X (find_tx w.params)
  refine codeAny_call_builtin SF.slot.plain SF.entry (@check_slot (model prog w) _ _ s "object.__setattr__" "object" "__setattr__" (.ref e) [.str (PySem.Str.ofString "text") tk, u] [] _ SF.kind SF.split hsub (SF.args (.ref e) (.str (PySem.Str.ofString "text") tk) u) ?_)
  rw [osa_eq, refuse_eq]
  refine wpAny_bind (wpAny_bind (hty.here (wpAny_bind (hm.here ?_))))
  rw [refuseLoop_ref, refuseLoop_ref, PySem.F.store_Exception.passes]
  refine wpAny_pure (wpAny_bind (hty.here (wpAny_bind (hfx.here ?_))))
  refine wpAny_bind (wpAny_pure (a := none) ?_)
  dsimp only
  have hcd : Looks (model prog w) s.heap (classData 63) { name := Str.ofString "BadSan", bases := [.ref 31], mro := .ref 63 :: BM, ns := 62, qualname := Str.ofString "BadSan", hasDict := true, slotNames := [], subclasses := [], abstract := false, collection := none, hasDel := false } := (Looks.ld (part := none) hC).andThen .now
  have N1 := N.push F { cls := .type "dict", data := .dict #[] }
  have F1 := F.push { cls := .type "dict", data := .dict #[] }
  have hlt' : e < s.heap.objs.size := Heap.lt_size he
  have ht' : t' < s.heap.objs.size := Heap.lt_size (N _ (.head _)).1
  obtain ⟨U1, U2⟩ := news_upd (pre := [(s.heap.objs.size, ({ cls := .type "dict", data := .dict #[] } : Obj)), (t', tup1 v)]) (post := [(t, o)]) (d := e) (o := excObj t') (o' := excObjD t' s.heap.objs.size) (f := fun o => { o with dict := some s.heap.objs.size }) F1 N1
    (fun p hp => by
      rcases List.mem_cons.mp hp with rfl | hp
      · exact Nat.ne_of_gt hlt'
      · rw [List.mem_singleton.mp hp]; exact Nat.ne_of_gt hlt) (fun p hp => by rw [List.mem_singleton.mp hp]; exact Nat.ne_of_lt hlt2) rfl rfl
  have he₁ := Heap.get?_push_of_some (h := s.heap) { cls := .type "dict", data := .dict #[] } he
  have hD := (U2 _ (.head _))
  have hnd : ((s.heap.push { cls := .type "dict", data := .dict #[] }).update e (fun o => { o with dict := some s.heap.objs.size })).Ns s.heap.objs.size (fun _ => none) :=
    ⟨_, #[], _, hD.1, rfl, fun e he => absurd he (by simp), fun _ => rfl⟩
  unfold Builtin.ObjectAttr.storeInOwnDict
  refine wpAny_bind (wpAny_pure (a := ()) ?_)
  refine wpAny_bind (wpAny_bind (wpAny_loadPart he ?_))
  refine wpAny_bind (hcd.here ?_)
  dsimp only
  rw [if_neg (by decide)]
  rw [if_neg (by decide)]
  refine wpAny_bind (wpAny_alloc' ?_)
  refine wpAny_bind (wpAny_update' he₁ ?_)
  refine wpAny_pure ?_
  show wpAny _ _ (Builtin.ObjectAttr.storeInDict s.heap.objs.size (.str (PySem.Str.ofString "text") tk) (PySem.Str.ofString "text") u) _ _ _
  unfold Builtin.ObjectAttr.storeInDict Builtin.ObjectAttr.newKeyGuard
  refine wpAny_bind (wpAny_pure (wpAny_bind (wpAny_nsSet1 (Heap.Ns1.of_empty hnd) fun h' hn' hs => ?_)))
  obtain ⟨oD, esD, epD, hoD, hdD, hcD⟩ := hn'.count (Within.cons (PySem.Str.ofString "text") u Within.nil)
  refine wpAny_bind (wpAny_lookBehind hoD (by rw [hdD]; exact pastItsLine_dict (Nat.le_trans hcD (by rw [List.length_cons, List.length_nil, sizeLine_eq]; omega))) ?_)
  refine wpAny_pure ?_
  refine h h' s.heap.objs.size _ (fr_but U1 ?_ hD.2.1.symm (fun b hb => hs.2 b hb)) ?_
  · exact hD.2.2
  · intro p hp
    rcases List.mem_cons.mp hp with rfl | hp
    · exact ⟨(hs.2 e (Nat.ne_of_lt hlt')).trans (U2 _ (.tail _ (.tail _ (.head _)))).1, (U2 _ (.tail _ (.tail _ (.head _)))).2⟩
    · rw [List.mem_singleton.mp hp]
      exact ⟨(hs.2 t' (Nat.ne_of_lt ht')).trans (U2 _ (.tail _ (.head _))).1, (U2 _ (.tail _ (.head _))).2⟩

theorem exc_set {o : Obj} {t' : Addr} {u : Value} {Q : Unit → Shared → Prop} (F : Fr h₀ L s.heap m) (X₀ : (Mine.hd.heap_39 w.params).In h₀) (N : News h₀ L s.heap [(t', tup1 v), (e, excObj t'), (t, o)]) (hlt : e < t') (hlt2 : t < e)
    (h : ∀ h' d tk', Fr h₀ L h' m → News h₀ L h' [(e, excObjD t' d), (t', tup1 v)] → Q () { s with heap := h', toks := tk' }) :
    wpAny (model prog w) A (setAttr (.ref e) (PySem.Str.ofString "text") u) Q E s := by
  have he : s.heap.get? e = some (excObj t') := (N _ (.tail _ (.head _))).1
  have I : InstAt s.heap e (excObj t') 63 none := ⟨he, rfl, rfl, trivial⟩
  exact set_plain (X₀.keeps F.keep) I (find_sa w.params) (osa_exc (s := { s with toks := s.toks + 1 }) F X₀ N hlt hlt2 h)

theorem exc_getm {pl : Sem Bool} {Q : Value × List Value → Shared → Prop} (F : Fr h₀ L s.heap m) (X₀ : (Mine.hd.heap_39 w.params).In h₀)
    (h : Q (.builtin "Exception.__init__", []) { s with toks := s.toks + 1 }) : wpAny (model prog w) A (getMethod (.type "Exception") (PySem.Str.ofString "__init__") pl) Q E s :=
  method_type F X₀ exc_meta (by decide +kernel) (exc_find w.params) (by decide +kernel) h
end

section
local macro_rules | `(tactic| walk_at "getMethod type:Exception") => `(tactic| (refine' exc_getm ?F ?X ?_; (case F => k_asm); (case X => k_asm)))
local macro_rules | `(tactic| walk_at "call builtin:Exception.__init__") => `(tactic| (refine' exc_init_call ?F ?X ?N ?l ?_; (case F => k_asm); (case X => k_asm); (case N => k_asm); (case l => assumption); (intro h9 t9 F9 N9 hl9); (try dsimp only)))
local macro_rules | `(tactic| walk_at "setAttr ref") => `(tactic| (refine' exc_set ?F ?X ?N ?l ?l2 ?_; (case F => k_asm); (case X => k_asm); (case N => k_asm); (case l => assumption); (case l2 => assumption); (intro h9 d9 tk9 F9 N9); (try dsimp only)))
set_option maxHeartbeats 8000000 in
theorem init_ctr (w : World) (mean : ExcName → Option Value) (mg mb : Str → Option Value) (x : PySem.Str) (tx : Tok) (e t : Addr) (hlt : t < e) :
  ∀ (dp un : Nat) (gd : Option (List Code)) (cn : Str) (cs : Scope) (a : Addr) (ccd : Value) (cl : List (Str × Addr)) (outer : List Env) (A₀ : Around) (base h₀ : Heap) (L : Addr) (m : Str → Option Value) (s : Shared) (Q E : Value → Shared → Prop),
    Below A₀ base outer h₀ → Fr h₀ L s.heap m → (Mine.hd.heap_39 w.params).In h₀ → Top Mine.look (looseW Mine.look []) mean mg mb h₀ → cs.kind = .function → dp + 4 < recursionLimit → un + 100 < cLine → News h₀ L s.heap [(e, excObj t), (t, tup1 (.str x tx))] →
    (∀ h' t' d tk', (∀ b o, b ≠ e → b ≠ t → s.heap.get? b = some o → h'.get? b = some o) → h'.get? e = some (excObjD t' d) → h'.get? t' = some (tup1 (.str x tx)) → s.heap.get? t' = none → Q .none { s with heap := h', toks := tk' }) →
    wpAny (model PySem.Challenge.pw_pf0092_01 w) (ktrTop dp un gd cn cs L a ccd cl outer) (call (.ref 28) [.ref e, .str x tx]) Q E s := by
  (have e9 : PySem.Challenge.rw_pf0092_01 = PySem.Challenge.rw_pf0092_01 := rfl); revert e9; k_fill; intro _
  intro dp un gd cn cs a ccd cl outer A₀ base h₀ L m s Q E B F X T hk hd hu N hret
  refine wpAny_call ?_
  k_dflt (refine' enterG (news := [(e, excObj t), (t, tup1 (.str x tx))]) (binds := [(Str.ofString "self", Value.ref e), (Str.ofString "text", Value.str x tx)]) ?k1 ?k2 ?k3 ?k4 ?k5 ?kA ?kF ?kK ?k6 ?k7 ?k8 ?k9 ?kB ?_ ?c2 ?c3 ?c4 ?c5; (case kA => exact rfl); (case kF => exact rfl); (case kK => assumption); (case k1 => k_asm); (case k2 => k_asm); (case k3 => k_asm); (case k4 => first | exact News.nil | k_asm); (case k5 => k_asm); (case k6 => k_is); (case k7 => k_is); (case k8 => ktr_room); (case k9 => exact BindsTo.of_eq rfl); (case c5 => decide); (case kB => exact locs rfl); (case c2 => exact rfl); (case c3 => exact rfl); (case c4 => exact rfl); k_whole; intro gE L' h' hgE hgS FG' F' N' B' X' T' lE; (try dsimp only); (try k_fold))
  clear B F X T
  k_steps
  (rename News _ _ _ _ => N9)
  (rename Fr _ _ _ _ => F9)
  (rename @LT.lt Addr _ e _ => hl9)
  refine leaveK_ F9 N9 (fun _ _ kk => ?_)
  have hg : ∀ b o, b ≠ e → b ≠ t → s.heap.get? b = some o → gE.get? b = some o := fun b o h1 h2 q => hgE b o q (fun z => by
    rcases List.mem_cons.mp z with z | z
    · exact h1 z
    · exact h2 (List.mem_singleton.mp z))
  refine hret _ _ _ _ (fun b o h1 h2 q => kk b o (hg b o h1 h2 q)) (N9 _ (.head _)).1 (N9 _ (.tail _ (.head _))).1 ?_
  have hn := (N9 _ (.tail _ (.head _))).2.2
  dsimp only at hn
  cases q : s.heap.get? _ with
  | none => rfl
  | some o =>
    have := hg _ o (Nat.ne_of_gt hl9) (Nat.ne_of_gt (Nat.lt_trans hlt hl9)) q
    rw [hn] at this
    cases this
end

section
variable {prog : Program} {w : World} {A : Around} {E : Value → Shared → Prop} {h : Heap} {g : Array GenState} {d : Drawn} {tk : Nat} {os : OsState}
theorem bad_check_new {M : Model} {rest : List Value} {Q : Unit → Shared → Prop} (hC : h.get? 63 = some badCls)
    (hq : Q () ⟨h, g, d, tk, os⟩) : wpAny M A (checkBuiltinCall "Exception.__new__" ⟨.ref 63 :: rest, []⟩) Q E ⟨h, g, d, tk, os⟩ := by
  have F := PySem.F.excBase_Exception
  have hcont : (Value.ref 63 :: BM).contains (.type "Exception") = true := by decide +kernel
  have hstar := F.noStar
  simp only [checkBuiltinCall, F.newKind, F.newSplit, F.newRow]
  repeat (first | refine wpAny_loadPart_at hC ?_ | (refine wpAny_isSubtype_exc hC ?_; rw [hcont]) | refine wpAny_staticBase_exc hC ?_ | refine wpAny_madeBy_exc hC ?_ | simp only [bne_self_eq_false, Bool.false_eq_true, if_false] | wp_step)
  exact hq
theorem bad_new {R : Result → Shared → Prop} {rest : List Value} (hC : h.get? 63 = some badCls)
    (hq : R (.ok (.ret (.ref (h.objs.size + 1)))) ⟨(h.push { cls := .type "tuple", data := .seq rest.toArray }).push
      { cls := .ref 63, data := .fields #[.ref h.objs.size, .none, .none, .none, .bool false, .none] }, g, d, tk, os⟩) (hrest : rest.length ≤ sizeLine := by size_fits) :
    codeAny (model prog w) A (.builtin "Exception.__new__" ⟨.ref 63 :: rest, []⟩) R ⟨h, g, d, tk, os⟩ := by
  have F := PySem.F.excBase_Exception
  have hends := F.ends
  have hcB : (Value.ref 63 :: BM).contains (.type "Exception") = true := by decide +kernel
  have hcA : (Value.ref 63 :: BM).contains (.type "AttributeError") = false := by decide +kernel
  have hcN : (Value.ref 63 :: BM).contains (.type "NameError") = false := by decide +kernel
  refine codeAny_builtinAt F.entry ?_
  unfold Builtin.«BaseException.__new__»
  refine PySem.wpAt_bind ?_
  show PySem.wpAt _ _ _ (stack >>= _) _ _ _
  refine PySem.wpAt_bind (PySem.wpAt_stack fun p below => PySem.wpAt_of_wpAny ?_)
  wp_walk
  refine PySem.wpAt_of_wpAny ?_
  rw [F.owner]
  repeat (first | with_reducible refine wpAny_madeHere_exc F.canon hC ?_ | with_reducible refine wpAny_loadPart_at hC ?_ | (with_reducible refine wpAny_isSubtype_exc hC ?_; first | rw [hcB] | rw [hcA] | rw [hcN]) | wp_step)
  show R _ _
  rw [Heap.size_push]
  exact hq
end

theorem under_make (dp un : Nat) (gd : Option (List Code)) (cn : Str) (cs : Scope) (L a : Addr) (ccd : Value) (cl : List (Str × Addr)) (outer : List Env) (rest : List Value) :
    (ktrTop dp un gd cn cs L a ccd cl outer).under (.builtin "type.__call__" ⟨.ref 63 :: rest, []⟩) = ktrTop (dp + 1) (un + 1) (pushGuards (Code.guards (.builtin "type.__call__" ⟨.ref 63 :: rest, []⟩)) gd) cn cs L a ccd cl outer := rfl

theorem find_init (P : Params) : findIn (Mine.hd.heap_39 P) (.ref 63) (PySem.Str.ofString "__init__") = some (some (.ref 28)) := by with_unfolding_all rfl
theorem type_init (P : Params) : typeIn (Mine.hd.heap_39 P) (.ref 28) = some (.type "function") := by with_unfolding_all rfl

set_option maxHeartbeats 4000000 in
theorem bad_ctr (w : World) (mean : ExcName → Option Value) (mg mb : Str → Option Value) (x : PySem.Str) (tx : Tok) :
  ∀ (dp un : Nat) (gd : Option (List Code)) (cn : Str) (cs : Scope) (a : Addr) (ccd : Value) (cl : List (Str × Addr)) (outer : List Env) (A₀ : Around) (base h₀ : Heap) (L : Addr) (m : Str → Option Value) (s : Shared) (Q E : Value → Shared → Prop),
    Below A₀ base outer h₀ → Fr h₀ L s.heap m → (Mine.hd.heap_39 w.params).In h₀ → Top Mine.look (looseW Mine.look []) mean mg mb h₀ → cs.kind = .function → dp + 6 < recursionLimit → un + 110 < cLine →
    (∀ e t' d h' tk', Kp s.heap h' → s.heap.get? e = none → s.heap.get? t' = none → h'.get? e = some (excObjD t' d) → h'.get? t' = some (tup1 (.str x tx)) → Q (.ref e) { s with heap := h', toks := tk' }) →
    wpAny (model PySem.Challenge.pw_pf0092_01 w) (ktrTop dp un gd cn cs L a ccd cl outer) (call (.ref 63) [.str x tx]) Q E s := by
  intro dp un gd cn cs a ccd cl outer A₀ base h₀ L m s Q E B F X T hk hd hu hret
  have FB := PySem.F.excBase_Exception
  have X1 := X.keeps F.keep
  obtain ⟨h, g, d, tk, os⟩ := s
  dsimp only at F X1 hret
  have hC : h.get? 63 = some badCls := X1 _ _ (bad_cls w.params)
  have f1 := tc_lookup
  have f2 := tc_bind (.ref 63)
  have hT : (⟨h, g, d, tk, os⟩ : Shared).TypeIs (.ref 63) "type" := ⟨_, hC, rfl⟩
  refine wpAny_call (codeAny_of_tree ?_)
  show wpAny _ _ (callAny (.ref 63) _) _ _ _
  repeat (any_goals (first | assumption | with_reducible refine wpAny_loadPart_at hC ?_ | wp_step))
  refine ⟨rfl, ?_⟩
  refine codeAny_call_builtin_at (Code.quiet_builtin _ (by decide +kernel)) entry_typeCall (wpAny_check_type_call_sub hC ?_)
  repeat (first | with_reducible refine wpAny_loadPart_at hC ?_ | with_reducible refine wpAny_madeBy_exc hC ?_ | wp_step)
  refine codeAny_call_builtin_code (Code.quiet_builtin _ FB.quiet) (bad_check_new hC ?_)
  refine bad_new hC ?_ (by show 1 ≤ sizeLine; rw [sizeLine_eq]; decide)
  show wpAny _ _ _ _ _ _
  have F1 := (F.push (tup1 (.str x tx))).push (excObj h.objs.size)
  have N1 : News h₀ L ((h.push (tup1 (.str x tx))).push (excObj h.objs.size)) [(h.objs.size + 1, excObj h.objs.size), (h.objs.size, tup1 (.str x tx))] := by
    have z := (News.push F News.nil (tup1 (.str x tx))).push (F.push (tup1 (.str x tx))) (excObj h.objs.size)
    rw [Heap.size_push] at z
    exact z
  have he : ((h.push (tup1 (.str x tx))).push (excObj h.objs.size)).get? (h.objs.size + 1) = some (excObj h.objs.size) := (N1 _ (.head _)).1
  have X2 := X.keeps F1.keep
  have I : InstAt ((h.push (tup1 (.str x tx))).push (excObj h.objs.size)) (h.objs.size + 1) (excObj h.objs.size) 63 none := ⟨he, rfl, rfl, trivial⟩
  have hsu1 : Looks (model PySem.Challenge.pw_pf0092_01 w) ((h.push (tup1 (.str x tx))).push (excObj h.objs.size)) (isSubtype (.ref 63) (.ref 63)) true := looks_mroIn X2 (bad_mroS w.params)
  have hty : Looks (model PySem.Challenge.pw_pf0092_01 w) ((h.push (tup1 (.str x tx))).push (excObj h.objs.size)) (typeOf (.ref (h.objs.size + 1))) (.ref 63) := I.type
  have hin : Looks (model PySem.Challenge.pw_pf0092_01 w) ((h.push (tup1 (.str x tx))).push (excObj h.objs.size)) (isInstance (.ref (h.objs.size + 1)) (.ref 63)) true := hty.andThen hsu1
  refine wpAny_bind (hin.at ?_)
  rw [if_neg (by decide)]
  refine wpAny_bind (wpAny_holding (special_fn (s := ⟨_, g, d, tk, os⟩) X2 I (find_init w.params) (type_init w.params) ?_))
  show wpAny _ ((ktrTop dp un gd cn cs L a ccd cl outer).under (.builtin "type.__call__" ⟨.ref 63 :: [.str x tx], []⟩)) (call (.ref 28) [.ref (h.objs.size + 1), .str x tx]) _ _ _
  rw [under_make]
  refine init_ctr w mean mg mb x tx (h.objs.size + 1) h.objs.size (Nat.lt_succ_self _) (dp + 1) (un + 1) _ cn cs a ccd cl outer A₀ base h₀ L m _ _ _ B F1 X T hk (by omega) (by omega) N1 ?_
  intro h' t' d' tk' k1 k2 k3 k4
  dsimp only
  have hh : Kp h ((h.push (tup1 (.str x tx))).push (excObj h.objs.size)) := fun b o q => Heap.get?_push_of_some _ (Heap.get?_push_of_some _ q)
  refine wpAny_pure ?_
  refine hret (h.objs.size + 1) t' d' h' tk' (fun b o q => k1 b o (Nat.ne_of_lt (Nat.lt_succ_of_lt (Heap.lt_size q))) (Nat.ne_of_lt (Heap.lt_size q)) (hh b o q)) (Heap.get?_none_of_le (Nat.le_succ _)) ?_ k2 k3
  cases q : h.get? t' with
  | none => rfl
  | some o => rw [hh _ _ q] at k4; cases k4
end
section
theorem rsM5 : True := by first | (w_top off; walk1) | trivial
theorem news_add {h₀ h h' : Heap} {L : Addr} {m : Str → Option Value} {news : List (Addr × Obj)} {a : Addr} {o : Obj} (F : Fr h₀ L h m) (N : News h₀ L h' news) (hn : h.get? a = none) (ha : h'.get? a = some o) : News h₀ L h' ((a, o) :: news) := by
  intro p hp
  rcases List.mem_cons.mp hp with rfl | hp
  · refine ⟨ha, fun z => ?_, ?_⟩
    · obtain ⟨oL, _, _, hL, _⟩ := F.ns
      dsimp only at z
      rw [z, hL] at hn; cases hn
    · cases q : h₀.get? a with
      | none => rfl
      | some o => rw [F.keep _ _ q] at hn; cases hn
  · exact N p hp

/-- an exception of BadSan, made: h before, h' behind -/
structure MadeBad (h h' : Heap) (e t : Addr) (v : Value) : Prop where
  keeps : Kp h h'
  newE : h.get? e = none
  newT : h.get? t = none
  atE : ∃ d, h'.get? e = some (excObjD t d)
  atT : h'.get? t = some (tup1 v)

def BadRaise (E : Value → Shared → Prop) (v : Value) (s₁ : Shared) : Prop :=
  ∃ a t d, v = .ref a ∧ s₁.heap.get? 63 = some badCls ∧ s₁.heap.get? a = some (excObjD t d) ∧ E (.ref a) s₁

theorem Raise_bad {M : Model} {A : Around} {E : Value → Shared → Prop} {s : Shared} {env : Env} {e : PySem.Expr} {pos : Pos} {Q : Flow → Shared → Prop} (hh : A.handled = none)
    (h : wpAny M A (eval e env) (BadRaise E) E s) : wpAny M A (exec (.Raise (some e) none pos) env) Q E s := by
  show wpAny M A (do standAt pos; raiseStmt env (some (do let v ← eval e env; standAt pos; pure v)) none) Q E s
  refine wpAny_bind (wpAny_standAt ?_)
  unfold raiseStmt
  dsimp only
  refine wpAny_bind (wpAny_bind (wpAny_mono h (fun v s₁ h₁ => wpAny_bind (wpAny_standAt (wpAny_pure ?_))) fun _ _ x => x))
  obtain ⟨a, t, d, rfl, hC, ha, hE⟩ := h₁
  obtain ⟨hp, g, dr, tk, os⟩ := s₁
  dsimp only at hC ha
  have hcB : (Value.ref 63 :: BM).contains (.type "BaseException") = true := by decide +kernel
  have hnt : ∀ {Q' : Bool → Shared → Prop}, Q' false ⟨hp, g, dr, tk, os⟩ → wpAny M A (isType (.ref a)) Q' E ⟨hp, g, dr, tk, os⟩ := by
    intro Q' hq
    simp only [isType, loadHead]
    exact wpAny_bind (wpAny_loadPart ha (wpAny_pure hq))
  have hin : ∀ {Q' : Bool → Shared → Prop}, Q' true ⟨hp, g, dr, tk, os⟩ → wpAny M A (isInstance (.ref a) (.type "BaseException")) Q' E ⟨hp, g, dr, tk, os⟩ := by
    intro Q' hq
    refine wpAny_bind (wpAny_bind (wpAny_loadPart ha (wpAny_pure ?_)))
    refine wpAny_isSubtype_exc hC ?_
    rw [hcB]; exact hq
  refine wpAny_bind (wpAny_pure ?_)
  dsimp only
  refine wpAny_bind (wpAny_holding ?_)
  unfold excFromValue isExcClass
  refine wpAny_bind (wpAny_bind (hnt ?_))
  simp only [Bool.false_eq_true, if_false]
  refine wpAny_pure ?_
  simp only [Bool.false_eq_true, if_false]
  refine wpAny_bind (hin ?_)
  simp only [if_true]
  refine wpAny_pure ?_
  refine wpAny_bind (hnt ?_)
  simp only [Bool.false_eq_true, if_false]
  unfold raisedInstance
  refine wpAny_bind (wpAny_bind (wpAny_bind (wpAny_loadPart ha (wpAny_pure ?_))))
  refine wpAny_bind (wpAny_bind (wpAny_loadPart hC (wpAny_pure ?_)))
  rw [if_pos (by decide)]
  refine wpAny_pure ?_
  unfold setFlight
  have h1 : (#[Value.ref t, .none, .none, .none, .bool false, .none] : Array Value)[1]? = some .none := rfl
  refine wpAny_bind (wpAny_bind (wpAny_field ha rfl h1 ?_))
  rw [if_neg (show ¬ ((Value.none != Value.none) = true) from by decide)]
  exact wpAny_pure (wpAny_raiseNew_none hh hE)

theorem leave_bad {M : Model} {A : Around} {E : Value → Shared → Prop} {s' : Shared} {base g h : Heap} {outer : List Env} {L a e t : Addr} {m : Str → Option Value} {name : Str} {scope : Scope} {cd v : Value} {Q : Unit → Shared → Prop}
    (K : Below A base outer g) (hx : MadeBad h s'.heap e t v) (F : Fr g L h m)
    (hQ : ∀ h', RaisedS base g outer e (.ref 63) t [v] [] h' → g.UpToSlots h' → Q () { s' with heap := h' }) (hk : scope.kind = .function := by rfl) :
    wpAny M (A.deeper (envOf name scope L a cd)) (leaving (envOf name scope L a cd) (.ref e)) Q E s' := by
  have K' := K.push (name := name) (a := a) (cd := cd) F hk
  obtain ⟨d, he⟩ := hx.atE
  have hin : ∀ env ∈ (envOf name scope L a cd :: outer), ∀ b, env.frame = some b → b ∈ (envOf name scope L a cd :: outer).filterMap (·.frame) := fun env he b hb => List.mem_filterMap.mpr ⟨env, he, hb⟩
  have st : base.StaysIn (hideAll h ((envOf name scope L a cd :: outer).filterMap (·.frame))) := fun b o q => hideAll_get _ (K'.stays b o q) fun hm => by
    rw [(K'.frames.mem hm).1] at q; cases q
  have sg : ∀ b o, g.get? b = some o → b ∉ outer.filterMap (·.frame) → (hideAll h ((envOf name scope L a cd :: outer).filterMap (·.frame))).get? b = some o := fun b o q nm => hideAll_get _ (F.keep b o q) fun hm => by
    rcases kts_mem hm with z | z
    · rw [z, kts_self F] at q; cases q
    · exact nm z
  have fresh : ∀ b, h.get? b = none → (hideAll h ((envOf name scope L a cd :: outer).filterMap (·.frame))).get? b = none := fun b hb => by
    cases q : (hideAll h ((envOf name scope L a cd :: outer).filterMap (·.frame))).get? b with
    | none => rfl
    | some o => rw [of_hideAll _ q] at hb; cases hb
  refine wpAny_leaving_firstW (base := hideAll h ((envOf name scope L a cd :: outer).filterMap (·.frame))) (a0 := .ref t) K'.stack ((funFrames_hide K'.frames hin).of_keeps fun b o hb _ => ⟨o, hx.keeps b o hb, rfl⟩) rfl he (fun b o hb => hx.keeps b o (of_hideAll _ hb)) (fresh e hx.newE) rfl rfl rfl fun h' hL => ?_
  obtain ⟨k1, ⟨_, _, k2⟩, k3, k4⟩ := hL
  exact hQ h' ⟨⟨_, st, sg, (fun q hq => nomatch hq), ⟨k1, fresh e hx.newE, k2, k3⟩, fresh t hx.newT⟩, Heap.TupAt.of_slots ⟨_, _, hx.atT, rfl, rfl⟩ k4⟩ (((Heap.UpToSlots.of_keeps F.keep).trans (Heap.UpToSlots.of_keeps hx.keeps)).trans k4)


abbrev EQS : PySem.Str := Str.ofString "="
abbrev XS : PySem.Str := Str.ofString "x"
/-- kind, body, promotion: how split_san begins -/
def headF (x : PySem.Str) : Int × PySem.Str × Int :=
  if kindF (Txt.slice x none (some 1)) ≠ 0 then (kindF (Txt.slice x none (some 1)), Txt.slice x (some 1) none, 0)
  else if kindP (Txt.slice x (some (-1)) none) ≠ 0 then
    (1, (if Txt.slice (Txt.slice x none (some (-1))) (some (-1)) none = EQS then Txt.slice (Txt.slice x none (some (-1))) none (some (-1)) else Txt.slice x none (some (-1))), kindP (Txt.slice x (some (-1)) none))
  else (1, x, 0)
/-- the rest behind the head: none is BadSan -/
def tailF (fs rs k : Int) (b : PySem.Str) (p : Int) : Option (Int × Int × Int × Bool × Int × Int) :=
  if squareF fs rs (Txt.slice b (some (-2)) none) < 0 then none
  else match cutF (if Txt.slice (Txt.slice b none (some (-2))) (some (-1)) none = XS then Txt.slice (Txt.slice b none (some (-2))) none (some (-1)) else Txt.slice b none (some (-2))) with
    | none => none
    | some (f, r) => if k = 1 ∧ Txt.slice (Txt.slice b none (some (-2))) (some (-1)) none = XS ∧ f < 0 then none
      else some (k, f, r, decide (Txt.slice (Txt.slice b none (some (-2))) (some (-1)) none = XS), squareF fs rs (Txt.slice b (some (-2)) none), p)
def splitF (fs rs : Int) (x : PySem.Str) : Option (Int × Int × Int × Bool × Int × Int) := tailF fs rs (headF x).1 (headF x).2.1 (headF x).2.2

/-- what stands where the two ways of the head meet -/
def HeadJ (w : World) (gE : Heap) (L' : Addr) (x : PySem.Str) (tx : Tok) (fs rs : Int) (t1 t2 : Tok) (s : Shared) (f : Flow) (s' : Shared) : Prop :=
  f = .next ∧ ∃ k b p tk tb tp h' n', s' = { s with heap := h', toks := n' } ∧ headF x = (k, b, p) ∧ b.length ≤ x.length ∧
    Fr gE L' h' (fun y => if y = Str.ofString "promo" then some (.int p tp) else if y = Str.ofString "kind" then some (.int k tk) else if y = Str.ofString "body" then some (.str b tb) else
      List.lookup y [(Str.ofString "text", Value.str x tx), (Str.ofString "files", Value.int fs t1), (Str.ofString "ranks", Value.int rs t2)].reverse)

theorem head_1 {x : PySem.Str} {v : Int} (h : v = kindF (Txt.slice x none (some 1))) (hn : v ≠ 0) : headF x = (v, Txt.slice x (some 1) none, 0) := by
  unfold headF; rw [← h, if_pos hn]
theorem head_2 {x : PySem.Str} {v u : Int} (h : v = kindF (Txt.slice x none (some 1))) (hz : v = 0) (hp : u = kindP (Txt.slice x (some (-1)) none)) (hn : u ≠ 0) (hE : Txt.slice (Txt.slice x none (some (-1))) (some (-1)) none = EQS) :
    headF x = (1, Txt.slice (Txt.slice x none (some (-1))) none (some (-1)), u) := by
  unfold headF; rw [← h, if_neg (not_not_intro hz), ← hp, if_pos hn, if_pos hE]
theorem head_3 {x : PySem.Str} {v u : Int} (h : v = kindF (Txt.slice x none (some 1))) (hz : v = 0) (hp : u = kindP (Txt.slice x (some (-1)) none)) (hn : u ≠ 0) (hE : Txt.slice (Txt.slice x none (some (-1))) (some (-1)) none ≠ EQS) :
    headF x = (1, Txt.slice x none (some (-1)), u) := by
  unfold headF; rw [← h, if_neg (not_not_intro hz), ← hp, if_pos hn, if_neg hE]
theorem head_4 {x : PySem.Str} {v u : Int} (h : v = kindF (Txt.slice x none (some 1))) (hz : v = 0) (hp : u = kindP (Txt.slice x (some (-1)) none)) (hn : u = 0) : headF x = (1, x, u) := by
  unfold headF; rw [← h, if_neg (not_not_intro hz), ← hp, if_neg (not_not_intro hn), hn]

theorem head_j {w : World} {gE h' : Heap} {L' : Addr} {x : PySem.Str} {tx t1 t2 : Tok} {fs rs : Int} {s : Shared} {m' : Str → Option Value} {k p : Int} {b : PySem.Str} {tk tb tp n' : Tok} (F9 : Fr gE L' h' m')
    (e1 : m' (Str.ofString "promo") = some (.int p tp)) (e2 : m' (Str.ofString "kind") = some (.int k tk)) (e3 : m' (Str.ofString "body") = some (.str b tb))
    (e4 : ∀ y, y ≠ Str.ofString "promo" → y ≠ Str.ofString "kind" → y ≠ Str.ofString "body" → m' y = List.lookup y [(Str.ofString "text", Value.str x tx), (Str.ofString "files", Value.int fs t1), (Str.ofString "ranks", Value.int rs t2)].reverse)
    (he : headF x = (k, b, p)) (hl : b.length ≤ x.length) : HeadJ w gE L' x tx fs rs t1 t2 s .next { s with heap := h', toks := n' } := by
  refine ⟨rfl, k, b, p, tk, tb, tp, h', n', rfl, he, hl, ?_⟩
  have : (fun y => if y = Str.ofString "promo" then some (Value.int p tp) else if y = Str.ofString "kind" then some (.int k tk) else if y = Str.ofString "body" then some (.str b tb) else
      List.lookup y [(Str.ofString "text", Value.str x tx), (Str.ofString "files", Value.int fs t1), (Str.ofString "ranks", Value.int rs t2)].reverse) = m' := by
    funext y
    by_cases h1 : y = Str.ofString "promo"
    · rw [if_pos h1, h1, e1]
    · rw [if_neg h1]
      by_cases h2 : y = Str.ofString "kind"
      · rw [if_pos h2, h2, e2]
      · rw [if_neg h2]
        by_cases h3 : y = Str.ofString "body"
        · rw [if_pos h3, h3, e3]
        · rw [if_neg h3, e4 y h1 h2 h3]
  rw [this]
  exact F9

section
variable {fs rs k p v f r : Int} {b : PySem.Str}
theorem tl_low (h : v = squareF fs rs (Txt.slice b (some (-2)) none)) (hn : v < 0) : tailF fs rs k b p = none := by
  unfold tailF; rw [← h, if_pos hn]
theorem tl_xnone (h : v = squareF fs rs (Txt.slice b (some (-2)) none)) (hn : ¬v < 0) (hE : Txt.slice (Txt.slice b none (some (-2))) (some (-1)) none = XS)
    (hc : cutF (Txt.slice (Txt.slice b none (some (-2))) none (some (-1))) = none) : tailF fs rs k b p = none := by
  unfold tailF; rw [← h, if_neg hn, if_pos hE, hc]
theorem tl_onone (h : v = squareF fs rs (Txt.slice b (some (-2)) none)) (hn : ¬v < 0) (hE : Txt.slice (Txt.slice b none (some (-2))) (some (-1)) none ≠ XS)
    (hc : cutF (Txt.slice b none (some (-2))) = none) : tailF fs rs k b p = none := by
  unfold tailF; rw [← h, if_neg hn, if_neg hE, hc]
theorem tl_xbad (h : v = squareF fs rs (Txt.slice b (some (-2)) none)) (hn : ¬v < 0) (hE : Txt.slice (Txt.slice b none (some (-2))) (some (-1)) none = XS)
    (hc : cutF (Txt.slice (Txt.slice b none (some (-2))) none (some (-1))) = some (f, r)) (hk : k = 1) (hf : f < 0) : tailF fs rs k b p = none := by
  unfold tailF; rw [← h, if_neg hn, if_pos hE, hc]; dsimp only; rw [if_pos ⟨hk, hE, hf⟩]
theorem tl_x1 (h : v = squareF fs rs (Txt.slice b (some (-2)) none)) (hn : ¬v < 0) (hE : Txt.slice (Txt.slice b none (some (-2))) (some (-1)) none = XS)
    (hc : cutF (Txt.slice (Txt.slice b none (some (-2))) none (some (-1))) = some (f, r)) (hf : ¬f < 0) : tailF fs rs k b p = some (k, f, r, true, v, p) := by
  unfold tailF; rw [← h, if_neg hn, if_pos hE, hc]; dsimp only; rw [if_neg (fun z => hf z.2.2), decide_eq_true hE]
theorem tl_x2 (h : v = squareF fs rs (Txt.slice b (some (-2)) none)) (hn : ¬v < 0) (hE : Txt.slice (Txt.slice b none (some (-2))) (some (-1)) none = XS)
    (hc : cutF (Txt.slice (Txt.slice b none (some (-2))) none (some (-1))) = some (f, r)) (hk : k ≠ 1) : tailF fs rs k b p = some (k, f, r, true, v, p) := by
  unfold tailF; rw [← h, if_neg hn, if_pos hE, hc]; dsimp only; rw [if_neg (fun z => hk z.1), decide_eq_true hE]
theorem tl_o (h : v = squareF fs rs (Txt.slice b (some (-2)) none)) (hn : ¬v < 0) (hE : Txt.slice (Txt.slice b none (some (-2))) (some (-1)) none ≠ XS)
    (hc : cutF (Txt.slice b none (some (-2))) = some (f, r)) : tailF fs rs k b p = some (k, f, r, false, v, p) := by
  unfold tailF; rw [← h, if_neg hn, if_neg hE, hc]; dsimp only; rw [if_neg (fun z => hE z.2.1), decide_eq_false hE]
theorem splitF_of {x : PySem.Str} {z : Option (Int × Int × Int × Bool × Int × Int)} (he : headF x = (k, b, p)) (h : tailF fs rs k b p = z) : splitF fs rs x = z := by
  unfold splitF; rw [he]; exact h
end
theorem raisedS_keep {base G g h : Heap} {l : List Env} {e : Addr} {cls : Value} {t : Addr} {vs : List Value} (k : Kp g G) (R : RaisedS base G l e cls t vs [] h) : RaisedS base g l e cls t vs [] h := by
  obtain ⟨⟨B, h1, h2, _, h4, h5⟩, h6⟩ := R
  exact ⟨⟨B, h1, fun b o q n => h2 b o (k b o q) n, (fun q hq => nomatch hq), h4, h5⟩, h6⟩

section
local macro_rules | `(tactic| walk_at "call ref") => `(tactic| ((with_reducible show wpAny _ _ (PySem.call (Value.ref 93) _) _ _ _); (k_dflt (refine' kind_ctr _ _ _ _ _ _ _ ?p0 _ _ _ _ _ _ _ _ _ _ _ _ _ _ _ _ _ ?B ?F ?X ?T ?kk ?d ?u ?_; (case B => k_asm); (case F => k_asm); (case X => k_asm); (case T => k_asm); (case kk => first | rfl | assumption); (case p0 => first | omega | assumption); (case d => ktr_room); (case u => ktr_units))); (intro v9 t9 h9 tk9 hv9 hk9); (with_reducible rename Fr _ _ _ _ => F9); (with_reducible rename News _ _ _ _ => N9); (replace F9 := Fr.after F9 hk9); (replace N9 := News.grown N9 hk9); (clear hk9); (try dsimp only)))
local macro_rules | `(tactic| walk_at "call ref") => `(tactic| ((with_reducible show wpAny _ _ (PySem.call (Value.ref 93) _) _ _ _); (k_dflt (refine' kindP_ctr _ _ _ _ _ _ _ ?p0 _ _ _ _ _ _ _ _ _ _ _ _ _ _ _ _ _ ?B ?F ?X ?T ?kk ?d ?u ?_; (case B => k_asm); (case F => k_asm); (case X => k_asm); (case T => k_asm); (case kk => first | rfl | assumption); (case p0 => first | omega | assumption); (case d => ktr_room); (case u => ktr_units))); (intro v9 t9 h9 tk9 hv9 hk9); (with_reducible rename Fr _ _ _ _ => F9); (with_reducible rename News _ _ _ _ => N9); (replace F9 := Fr.after F9 hk9); (replace N9 := News.grown N9 hk9); (clear hk9); (try dsimp only)))
local macro_rules | `(tactic| walk_at "call ref") => `(tactic| ((with_reducible show wpAny _ _ (PySem.call (Value.ref 86) _) _ _ _); (k_dflt (refine' square_ctr _ _ _ _ _ _ _ _ _ _ ?p0 ?p1 ?p2 ?p3 ?p4 _ _ _ _ _ _ _ _ _ _ _ _ _ _ _ _ _ ?B ?F ?X ?T ?kk ?d ?u ?_; (case B => k_asm); (case F => k_asm); (case X => k_asm); (case T => k_asm); (case kk => first | rfl | assumption); (case p0 => first | omega | assumption); (case p1 => omega); (case p2 => omega); (case p3 => omega); (case p4 => omega); (case d => ktr_room); (case u => ktr_units))); (intro v9 t9 h9 tk9 hv9 hk9); (with_reducible rename Fr _ _ _ _ => F9); (with_reducible rename News _ _ _ _ => N9); (replace F9 := Fr.after F9 hk9); (replace N9 := News.grown N9 hk9); (clear hk9); (try dsimp only)))
local macro_rules | `(tactic| walk_at "call ref") => `(tactic| ((with_reducible show wpAny _ _ (PySem.call (Value.ref 100) _) _ _ _); (k_dflt (refine' cut_ctr _ _ _ _ _ _ ?p0 _ _ _ _ _ _ _ _ _ _ _ _ _ _ _ _ _ ?B ?F ?X ?T ?kk ?d ?u ?_; (case B => k_asm); (case F => k_asm); (case X => k_asm); (case T => k_asm); (case kk => first | rfl | assumption); (case p0 => first | omega | assumption); (case d => ktr_room); (case u => ktr_units))); (intro v9 h9 tk9 hr9); (with_reducible rename Fr _ _ _ _ => F9); (with_reducible rename News _ _ _ _ => N9); (k_dflt (rcases hr9 with ⟨hk9, ⟨hz9, hv9⟩ | ⟨a9, f9, r9, tf9, tr9, hz9, hv9, hn9, ha9⟩⟩)); (all_goals (subst hz9; (replace N9 := News.grown N9 hk9); (try (replace N9 := news_add F9 N9 hn9 ha9)); (replace F9 := Fr.after F9 hk9); (try dsimp only))); (try dsimp only)))
local macro_rules | `(tactic| walk_at "compareOp Eq str str") => `(tactic| (refine eq_split (fun hE => ?_) (fun hE => ?_)))
local macro_rules | `(tactic| walk_at "compareOp NotEq str str") => `(tactic| (refine ne_split (fun hE => ?_) (fun hE => ?_)))
local macro_rules | `(tactic| walk_at "exec Raise some none") => `(tactic| (refine Raise_bad rfl ?_))
local macro_rules | `(tactic| walk_at "call ref") => `(tactic| ((with_reducible show wpAny _ _ (PySem.call (Value.ref 63) _) _ _ _); (with_reducible rename Fr _ _ _ _ => Fp9); (k_dflt (refine' bad_ctr _ _ _ _ _ _ _ _ _ _ _ _ _ _ _ _ _ _ _ _ _ _ _ ?B ?F ?X ?T ?kk ?d ?u ?_; (case B => k_asm); (case F => exact Fp9); (case X => k_asm); (case T => k_asm); (case kk => first | rfl | assumption); (case d => ktr_room); (case u => ktr_units))); (intro e9 t9 d9 h9 tk9 hk9 hn9 hm9 he9 ht9); (k_dflt (refine ⟨e9, t9, d9, rfl, hk9 _ _ (Fp9.keep _ _ ((by assumption : (Mine.hd.heap_39 _).In _) _ _ (bad_cls _))), he9, ?_⟩)); (try dsimp only); (refine leave_bad (by assumption) ⟨hk9, hn9, hm9, ⟨d9, he9⟩, ht9⟩ Fp9 ?_); (intro hb9 R9 U9); (try dsimp only)))
set_option maxHeartbeats 4000000 in
theorem split_ctr (w : World) (mean : ExcName → Option Value) (mg mb : Str → Option Value) (fs rs : Int) (x : PySem.Str) (t1 t2 tx : Tok) (hx1 : x.length ≤ 100) (hf1 : 1 ≤ fs) (hf2 : fs ≤ 8) (hr1 : 1 ≤ rs) (hr2 : rs ≤ 8) :
  ∀ (dp un : Nat) (gd : Option (List Code)) (cn : Str) (cs : Scope) (a : Addr) (ccd : Value) (cl : List (Str × Addr)) (outer : List Env) (A₀ : Around) (base h₀ : Heap) (L : Addr) (m : Str → Option Value) (s : Shared) (Q E : Value → Shared → Prop),
    Below A₀ base outer h₀ → Fr h₀ L s.heap m → (Mine.hd.heap_39 w.params).In h₀ → Top Mine.look (looseW Mine.look []) mean mg mb h₀ → cs.kind = .function → dp + 20 < recursionLimit → un + 160 < cLine →
    (∀ a k f r c g p (v1 v2 v3 v4 v5 : Tok) h' tk', splitF fs rs x = some (k, f, r, c, g, p) → Kp s.heap h' → s.heap.get? a = none → h'.get? a = some { cls := .type "tuple", data := .seq #[.int k v1, .int f v2, .int r v3, .bool c, .int g v4, .int p v5] } → Q (.ref a) { s with heap := h', toks := tk' }) →
    (∀ e t h' tk', splitF fs rs x = none → RaisedS base s.heap (envX cn cs L a ccd cl :: outer) e (.ref 63) t [.str x tx] [] h' → s.heap.UpToSlots h' → E (.ref e) { s with heap := h', toks := tk' }) →
    wpAny (model PySem.Challenge.pw_pf0092_01 w) (ktrTop dp un gd cn cs L a ccd cl outer) (call (.ref 107) [.str x tx, .int fs t1, .int rs t2]) Q E s := by
  (have e9 : PySem.Challenge.rw_pf0092_01 = PySem.Challenge.rw_pf0092_01 := rfl); revert e9; k_fill; intro _
  intro dp un gd cn cs a ccd cl outer A₀ base h₀ L m s Q E B F X T hk hd hu hret hretE
  refine wpAny_call ?_
  k_dflt (refine' enterG (news := []) (binds := [(Str.ofString "text", Value.str x tx), (Str.ofString "files", Value.int fs t1), (Str.ofString "ranks", Value.int rs t2)]) ?k1 ?k2 ?k3 ?k4 ?k5 ?kA ?kF ?kK ?k6 ?k7 ?k8 ?k9 ?kB ?_ ?c2 ?c3 ?c4 ?c5; (case kA => exact rfl); (case kF => exact rfl); (case kK => assumption); (case k1 => k_asm); (case k2 => k_asm); (case k3 => k_asm); (case k4 => first | exact News.nil | k_asm); (case k5 => k_asm); (case k6 => k_is); (case k7 => k_is); (case k8 => ktr_room); (case k9 => exact BindsTo.of_eq rfl); (case c5 => decide); (case kB => exact locs rfl); (case c2 => exact rfl); (case c3 => exact rfl); (case c4 => exact rfl); k_whole; intro gE L' h' hgE hgS FG' F' N' B' X' T' lE; (try dsimp only); (try k_fold))
  clear B F X T
  replace hgE : Kp s.heap gE := fun b o e => hgE b o e (fun q => nomatch q)
  clear lE
  repeat' (first | ((fail_if_success (with_reducible show wpAny _ _ (exec (Stmt.If _ _ _ _) _) _ _ _)); first | (k_unfold; (try dsimp only)) | walk1 | (dsimp only; walk1) | (dsimp only; k_unfold; (try dsimp only)) | (dsimp +zetaDelta only)) | fail "no step")
  refine wpAny_mono (Q := HeadJ w gE L' x tx fs rs t1 t2 s) ?ja (fun f s' hJ => ?jb) (fun _ _ e => e)
  case ja =>
    repeat' (first | ((fail_if_success (with_reducible show HeadJ _ _ _ _ _ _ _ _ _ _ _ _)); first | (k_unfold; (try dsimp only)) | walk1 | (dsimp only; walk1) | (dsimp only; k_unfold; (try dsimp only)) | (dsimp +zetaDelta only)) | fail "no step")
    all_goals ((rename Fr _ _ _ _ => F9); refine head_j F9 rfl rfl rfl ?_ ?_ ?_)
    · intro y h1 h2 h3; simp only [h1, h2, h3, if_false]
    · exact head_1 (by with_reducible assumption) (by with_reducible assumption)
    · with_reducible assumption
    · intro y h1 h2 h3; simp only [h1, h2, h3, if_false]
    · exact head_2 (by with_reducible assumption) (by with_reducible assumption) (by with_reducible assumption) (by with_reducible assumption) (by with_reducible assumption)
    · with_reducible refine Nat.le_trans (m := (Txt.slice x none (some (-1))).length) ?_ ?_ <;> with_reducible assumption
    · intro y h1 h2 h3; simp only [h1, h2, h3, if_false]
    · exact head_3 (by with_reducible assumption) (by with_reducible assumption) (by with_reducible assumption) (by with_reducible assumption) (by with_reducible assumption)
    · with_reducible assumption
    · intro y h1 h2 h3; simp only [h1, h2, h3, if_false]
    · exact head_4 (by with_reducible assumption) (by with_reducible assumption) (by with_reducible assumption) (by with_reducible assumption)
    · with_reducible exact Nat.le_refl _
  case jb =>
    obtain ⟨hf9, k, b, p, tk9, tb9, tp9, h9, n9, hs9, he9, hl9, F9⟩ := hJ
    subst hf9 hs9
    have N9 : News gE L' h9 [] := News.nil
    dsimp only
    k_steps
    all_goals first
      | (refine leave_pureN (by k_asm) (by k_asm) hgE (fun hk9 hN9 => ?_); (dsimp only); (refine hret _ _ _ _ _ _ _ _ _ _ _ _ _ _ (splitF_of he9 ?_) hk9 (kp_new hN9).2 (kp_new hN9).1))
      | (refine hretE _ _ _ _ (splitF_of he9 ?_) (raisedS_keep hgE (by with_reducible assumption)) ((Heap.UpToSlots.of_keeps hgE).trans (by with_reducible assumption)))
    · exact tl_low (by with_reducible assumption) (by with_reducible assumption)
    · exact tl_xnone (by with_reducible assumption) (by with_reducible assumption) (by with_reducible assumption) (by with_reducible assumption)
    · exact tl_xbad (by with_reducible assumption) (by with_reducible assumption) (by with_reducible assumption) (by with_reducible assumption) (by with_reducible assumption) (by with_reducible assumption)
    · exact tl_x1 (by with_reducible assumption) (by with_reducible assumption) (by with_reducible assumption) (by with_reducible assumption) (by with_reducible assumption)
    · exact tl_x2 (by with_reducible assumption) (by with_reducible assumption) (by with_reducible assumption) (by with_reducible assumption) (by with_reducible assumption)
    · exact tl_onone (by with_reducible assumption) (by with_reducible assumption) (by with_reducible assumption) (by with_reducible assumption)
    · exact tl_o (by with_reducible assumption) (by with_reducible assumption) (by with_reducible assumption) (by with_reducible assumption)
    · exact tl_o (by with_reducible assumption) (by with_reducible assumption) (by with_reducible assumption) (by with_reducible assumption)
end
end
section
theorem rsM6 : True := by first | (w_top off; walk1) | trivial
section
variable {prog : Program} {w : World} {A : Around} {E : Value → Shared → Prop} {s : Shared} {env : Env} {h₀ : Heap} {x : PySem.Str} {body : List Stmt} {Q : Flow → Shared → Prop}
theorem unrPost_mono {L I : Addr} {it : Obj} {r r' : (PySem.Str → Option Value) → List (Addr × Obj) → Prop} {s₁ s₂ : Shared} {f : Flow} (h : ∀ m n, r m n → r' m n) (p : UnrPost h₀ L s₁ I it r Q f s₂) : UnrPost h₀ L s₁ I it r' Q f s₂ := by
  cases f with
  | ret v => exact p
  | brk => exact p
  | next => obtain ⟨h', tk, m', n', e, F, N, o, q⟩ := p; exact ⟨h', tk, m', n', e, F, N, o, h _ _ q⟩
  | cont => obtain ⟨h', tk, m', n', e, F, N, o, q⟩ := p; exact ⟨h', tk, m', n', e, F, N, o, h _ _ q⟩
theorem range_inv {I : Addr} {a : Int} {n : Nat} (J : Nat → (PySem.Str → Option Value) → List (Addr × Obj) → Prop) {c : Nat}
    (step : ∀ i m news t h tk, i < c → J i m news → Fr h₀ env.locals h (fun y => if y = x then some (.int (a + (i : Int)) t) else m y) →
      News h₀ env.locals h ((I, itR (a + ((i + 1 : Nat) : Int)) ((n : Int) - ((i + 1 : Nat) : Int))) :: news) →
      wpAny (model prog w) A (execs body env) (UnrPost h₀ env.locals { s with heap := h, toks := tk } I (itR (a + ((i + 1 : Nat) : Int)) ((n : Int) - ((i + 1 : Nat) : Int))) (J (i + 1)) Q) E { s with heap := h, toks := tk })
    (done : ∀ m news h tk, J c m news → Fr h₀ env.locals h m → News h₀ env.locals h news → Q .next { s with heap := h, toks := tk }) :
    ∀ k i m news, i + k = c → J i m news → RangeRest prog w A E h₀ env x body Q s I a n k i m news := by
  intro k
  induction k with
  | zero =>
    intro i m news hi hJ h tk F N
    rw [Nat.add_zero] at hi
    subst hi
    exact done _ _ _ _ hJ F N
  | succ k ih =>
    intro i m news hi hJ t h tk F N
    refine wpAny_mono (step i m news t h tk (by omega) hJ F N) (fun f s₂ p => unrPost_mono (fun m' n' q => ih (i + 1) m' n' (by omega) q) p) fun _ _ e => e
end

abbrev tup2 (f : Int) (tf : Tok) (r : Int) (tr : Tok) : Obj := { cls := .type "tuple", data := .seq #[.int f tf, .int r tr] }
/-- the pairs of origins as far as they are put in -/
structure OrigK (kvs : List (PySem.Str × Value)) (n : Nat) (dom : PySem.Str → Prop) (tups : List (Addr × Obj)) : Prop where
  len : kvs.length ≤ n
  sound : ∀ k v, valueAt kvs k = some v → ∃ a f r tf tr, v = .ref a ∧ cutF k = some (f, r) ∧ (a, tup2 f tf r tr) ∈ tups
  full : ∀ k, dom k → valueAt kvs k ≠ none

theorem valueAt_stored {K : Type} [DecidableEq K] (kvs : List (K × Value)) (k k' : K) (v : Value) : valueAt (stored kvs k v) k' = if k' = k then some v else valueAt kvs k' := by
  unfold stored
  by_cases ha : kvs.any (fun kv => kv.1 = k) = true
  · rw [if_pos ha]
    unfold valueAt
    induction kvs with
    | nil => simp at ha
    | cons p r ih =>
      simp only [List.map_cons, List.find?_cons]
      by_cases hp : p.1 = k
      · rw [if_pos hp]
        by_cases hk : k' = k
        · subst hk; simp [hp]
        · rw [if_neg hk]
          have h1 : ¬ p.1 = k' := fun e => hk (e.symm.trans hp)
          simp only [decide_eq_false h1]
          by_cases hr : r.any (fun kv => kv.1 = k) = true
          · rw [ih hr, if_neg hk]
          · have : (r.map fun kv => if kv.1 = k then (kv.1, v) else kv) = r := by
              refine List.map_congr_left (g := id) ?_ |>.trans (List.map_id _)
              intro q hq
              rw [if_neg]; rfl
              intro e
              exact hr (List.any_eq_true.mpr ⟨q, hq, by simpa using e⟩)
            rw [this]
      · rw [if_neg hp]
        have hr : r.any (fun kv => kv.1 = k) = true := by simpa [hp] using ha
        by_cases hk : k' = p.1
        · subst hk; simp [hp]
        · have h1 : ¬ p.1 = k' := fun e => hk e.symm
          simp only [decide_eq_false h1]
          exact ih hr
  · rw [if_neg ha]
    unfold valueAt
    rw [List.find?_append]
    by_cases hk : k' = k
    · subst hk
      rw [if_pos rfl]
      have : kvs.find? (fun kv => decide (kv.1 = k')) = none := by
        rw [List.find?_eq_none]
        intro p hp e
        exact ha (List.any_eq_true.mpr ⟨p, hp, e⟩)
      rw [this]; simp
    · rw [if_neg hk]
      have h1 : ¬ k = k' := fun e => hk e.symm
      cases kvs.find? (fun kv => decide (kv.1 = k')) <;> simp [h1]

theorem OrigK.step {kvs : List (PySem.Str × Value)} {n : Nat} {dom : PySem.Str → Prop} {tups : List (Addr × Obj)} {k : PySem.Str} {a : Addr} {f r : Int} {tf tr : Tok} (h : OrigK kvs n dom tups) (hc : cutF k = some (f, r)) :
    OrigK (stored kvs k (.ref a)) (n + 1) (fun q => q = k ∨ dom q) ((a, tup2 f tf r tr) :: tups) := by
  refine ⟨?_, ?_, ?_⟩
  · exact Nat.le_trans (stored_length_le _ _ _) (Nat.succ_le_succ h.len)
  · intro q v hv
    rw [valueAt_stored] at hv
    by_cases hq : q = k
    · rw [if_pos hq] at hv
      subst hq
      exact ⟨a, f, r, tf, tr, (Option.some.inj hv).symm, hc, .head _⟩
    · rw [if_neg hq] at hv
      obtain ⟨a', f', r', tf', tr', e1, e2, e3⟩ := h.sound q v hv
      exact ⟨a', f', r', tf', tr', e1, e2, .tail _ e3⟩
  · intro q hq
    rw [valueAt_stored]
    by_cases e : q = k
    · rw [if_pos e]; exact nofun
    · rw [if_neg e]
      exact h.full q (hq.resolve_left e)
theorem OrigK.weak {kvs : List (PySem.Str × Value)} {n n' : Nat} {dom dom' : PySem.Str → Prop} {tups : List (Addr × Obj)} (h : OrigK kvs n dom tups) (hn : n ≤ n') (hd : ∀ q, dom' q → dom q) : OrigK kvs n' dom' tups :=
  ⟨Nat.le_trans h.len hn, h.sound, fun q e => h.full q (hd q e)⟩

def FLN (i : Nat) : PySem.Str := Txt.item FLS (i : Int)
def RDN (i : Nat) : PySem.Str := Txt.item RDS (i : Int)
theorem cut_e : cutF E0 = some (-1, -1) := by decide +kernel
theorem cut_f : ∀ i < 8, cutF (FLN i) = some ((i : Int), -1) := by decide +kernel
theorem cut_r : ∀ i < 8, cutF (RDN i) = some (-1, (i : Int)) := by decide +kernel
theorem cut_fr : ∀ i < 8, ∀ j < 8, cutF (FLN i ++ RDN j) = some ((i : Int), (j : Int)) := by decide +kernel

def domA (i : Nat) (q : PySem.Str) : Prop := q = E0 ∨ ∃ f, f < i ∧ (q = FLN f ∨ ∃ r, r < 8 ∧ (q = RDN r ∨ q = FLN f ++ RDN r))
def domB (i j : Nat) (q : PySem.Str) : Prop := domA i q ∨ q = FLN i ∨ ∃ r, r < j ∧ (q = RDN r ∨ q = FLN i ++ RDN r)
theorem domB_all {i : Nat} {q : PySem.Str} (h : domA (i + 1) q) : domB i 8 q := by
  rcases h with h | ⟨f, hf, h⟩
  · exact .inl (.inl h)
  · by_cases e : f = i
    · subst e; exact .inr h
    · exact .inl (.inr ⟨f, by omega, h⟩)
/-- the table at D is filled so far -/
def OJ (prog : Program) (w : World) (D : Addr) (M : (PySem.Str → Option Value) → Prop) (c : Nat) (dom : PySem.Str → Prop) (m : PySem.Str → Option Value) (news : List (Addr × Obj)) : Prop :=
  ∃ o kvs tups, M m ∧ (∀ p ∈ (D, o) :: tups, p ∈ news) ∧ o.IsDictOf (PySem.strKind prog w) kvs ∧ OrigK kvs c dom tups ∧ (∀ p ∈ tups, p.1 ≠ D) ∧ (∀ p ∈ tups, p.2.cls = .type "tuple")
theorem m_swap {a b : PySem.Str} {u v1 v2 : Option Value} {mm : PySem.Str → Option Value} (hab : a ≠ b) :
    (fun y => if y = b then v1 else if y = a then u else if y = b then v2 else mm y) = fun y => if y = a then u else if y = b then v1 else mm y := by
  funext y
  by_cases h1 : y = a
  · subst h1; rw [if_neg hab, if_pos rfl, if_pos rfl]
  · rw [if_neg h1, if_neg h1]
    by_cases h2 : y = b
    · rw [if_pos h2, if_pos h2]
    · rw [if_neg h2, if_neg h2, if_neg h2]
theorem m_over {b : PySem.Str} {v1 v2 : Option Value} {mm : PySem.Str → Option Value} : (fun y => if y = b then v1 else if y = b then v2 else mm y) = fun y => if y = b then v1 else mm y := by
  funext y
  by_cases h2 : y = b
  · rw [if_pos h2, if_pos h2]
  · rw [if_neg h2, if_neg h2, if_neg h2]
theorem unr_end {h₀ : Heap} {L I : Addr} {it : Obj} {rest : (PySem.Str → Option Value) → List (Addr × Obj) → Prop} {s₁ : Shared} {h' : Heap} {tk : Nat} {m' : PySem.Str → Option Value} {all : List (Addr × Obj)} (F : Fr h₀ L h' m') (N : News h₀ L h' all) (news' : List (Addr × Obj))
    (hI : (I, it) ∈ all) (sub : ∀ p ∈ news', p ∈ all) (off : ∀ p ∈ news', p.1 ≠ I ∨ p.2.cls ≠ it.cls) (r : rest m' news') : UnrEnd h₀ L s₁ I it rest { s₁ with heap := h', toks := tk } :=
  UnrEnd.intro F N news' (fun p hp => by
    rcases List.mem_cons.mp hp with rfl | hp
    · exact hI
    · exact sub p hp) (fun p hp e => by
    rcases off p hp with h | h
    · exact h e
    · have h1 := (N _ (sub p hp)).1
      have h2 := (N _ hI).1
      rw [e] at h1
      exact h (congrArg Obj.cls (Option.some.inj (h1.symm.trans h2)))) r
theorem isDict_cls {prog : Program} {w : World} {o : Obj} {kvs : List (PySem.Str × Value)} (h : o.IsDictOf (PySem.strKind prog w) kvs) : o.cls = .type "dict" := let ⟨_, _, e, _⟩ := h; e.1
theorem m_same2 {a b : PySem.Str} (mm : PySem.Str → Option Value) : mm = fun y => if y = a then mm a else if y = b then mm b else mm y := by
  funext y
  by_cases h1 : y = a
  · rw [if_pos h1, h1]
  · rw [if_neg h1]
    by_cases h2 : y = b
    · rw [if_pos h2, h2]
    · rw [if_neg h2]
theorem m_same1 {a : PySem.Str} (mm : PySem.Str → Option Value) : mm = fun y => if y = a then mm a else mm y := by
  funext y
  by_cases h1 : y = a
  · rw [if_pos h1, h1]
  · rw [if_neg h1]
theorem origK0 {a : Addr} {tf tr : Tok} : OrigK [(E0, Value.ref a)] (1 + 17 * 0) (domA 0) [(a, tup2 (-1) tf (-1) tr)] := by
  refine ⟨Nat.le_refl _, ?_, ?_⟩
  · intro k v h
    by_cases e : k = E0
    · subst e
      have : v = .ref a := by simpa [valueAt] using h.symm
      exact ⟨a, -1, -1, tf, tr, this, cut_e, .head _⟩
    · have e' : ¬ E0 = k := fun z => e z.symm
      simp [valueAt, e'] at h
  · intro k h
    rcases h with h | ⟨f, hf, _⟩
    · subst h; simp [valueAt]
    · exact absurd hf (Nat.not_lt_zero _)
theorem oj_start {prog : Program} {w : World} {D a0 : Addr} {o2 : Obj} {tf tr : Tok} {M : (PySem.Str → Option Value) → Prop} {mm : PySem.Str → Option Value} (hM : M mm) (hd : o2.IsDictOf (PySem.strKind prog w) [(E0, Value.ref a0)]) (hlt : @LT.lt Nat _ D a0) :
    OJ prog w D M (1 + 17 * 0) (domA 0) mm [(a0, tup2 (-1) tf (-1) tr), (D, o2)] := by
  refine ⟨o2, [(E0, Value.ref a0)], [(a0, tup2 (-1) tf (-1) tr)], hM, ?_, hd, origK0, ?_, ?_⟩
  · intro p hp
    rcases List.mem_cons.mp hp with e | hp
    · rw [e]; exact .tail _ (.head _)
    · rw [List.mem_singleton.mp hp]; exact .head _
  · intro p hp e
    rw [List.mem_singleton.mp hp] at e
    exact absurd e (Nat.ne_of_gt hlt)
  · intro p hp
    rw [List.mem_singleton.mp hp]
/-- two more pairs are put in: the turn of a rank -/
theorem oj_rank {prog : Program} {w : World} {D a1 a2 : Addr} {o2 : Obj} {X : Addr × Obj} {kvs : List (PySem.Str × Value)} {tups : List (Addr × Obj)} {i j c : Nat} {f r r' : Int} {t1 t2 t3 t4 : Tok} {M : (PySem.Str → Option Value) → Prop} {mm : PySem.Str → Option Value}
    (hi : i < 8) (hj : j < 8) (hf : f = (i : Int)) (hr : r = (j : Int)) (hr' : r' = (j : Int)) (hM : M mm) (hd : o2.IsDictOf (PySem.strKind prog w) (stored (stored kvs (RDN j) (.ref a1)) (FLN i ++ RDN j) (.ref a2))) (hk : OrigK kvs (c + 2 * j) (domB i j) tups) (h1 : a1 ≠ D) (h2 : a2 ≠ D) (hne : ∀ p ∈ tups, p.1 ≠ D) (hcl : ∀ p ∈ tups, p.2.cls = .type "tuple") :
    OJ prog w D M (c + 2 * (j + 1)) (domB i (j + 1)) mm (X :: (D, o2) :: (a2, tup2 f t3 r t4) :: (a1, tup2 (-1) t1 r' t2) :: tups) := by
  subst hf hr hr'
  refine ⟨o2, _, (a2, tup2 i t3 j t4) :: (a1, tup2 (-1) t1 j t2) :: tups, hM, fun p hp => .tail _ hp, hd, ((hk.step (cut_r j hj)).step (cut_fr i hi j hj)).weak (by omega) ?_, ?_, ?_⟩
  · rintro q (h | h | ⟨r, hr, h⟩)
    · exact .inr (.inr (.inl h))
    · exact .inr (.inr (.inr (.inl h)))
    · by_cases e : r = j
      · subst e
        rcases h with h | h
        · exact .inr (.inl h)
        · exact .inl h
      · exact .inr (.inr (.inr (.inr ⟨r, by omega, h⟩)))
  · intro p hp
    rcases List.mem_cons.mp hp with e | hp
    · rw [e]; exact h2
    · rcases List.mem_cons.mp hp with e | hp
      · rw [e]; exact h1
      · exact hne p hp
  · intro p hp
    rcases List.mem_cons.mp hp with e | hp
    · rw [e]
    · rcases List.mem_cons.mp hp with e | hp
      · rw [e]
      · exact hcl p hp
theorem oj_file {prog : Program} {w : World} {D a1 : Addr} {o2 : Obj} {kvs : List (PySem.Str × Value)} {tups : List (Addr × Obj)} {i c : Nat} {f : Int} {t1 t2 : Tok} {M : (PySem.Str → Option Value) → Prop} {mm : PySem.Str → Option Value} {X : Addr × Obj}
    (hi : i < 8) (hf : f = (i : Int)) (hM : M mm) (hd : o2.IsDictOf (PySem.strKind prog w) (stored kvs (FLN i) (.ref a1))) (hk : OrigK kvs c (domA i) tups) (h1 : a1 ≠ D) (hne : ∀ p ∈ tups, p.1 ≠ D) (hcl : ∀ p ∈ tups, p.2.cls = .type "tuple") :
    OJ prog w D M (c + 1 + 2 * 0) (domB i 0) mm ((a1, tup2 f t1 (-1) t2) :: X :: (D, o2) :: tups) := by
  subst hf
  refine ⟨o2, _, (a1, tup2 i t1 (-1) t2) :: tups, hM, ?_, hd, (hk.step (cut_f i hi)).weak (Nat.le_refl _) ?_, ?_, ?_⟩
  · intro p hp
    rcases List.mem_cons.mp hp with e | hp
    · rw [e]; exact .tail _ (.tail _ (.head _))
    · rcases List.mem_cons.mp hp with e | hp
      · rw [e]; exact .head _
      · exact .tail _ (.tail _ (.tail _ hp))
  · rintro q (h | h | ⟨r, hr, h⟩)
    · exact .inr h
    · exact .inl h
    · exact absurd hr (Nat.not_lt_zero _)
  · intro p hp
    rcases List.mem_cons.mp hp with e | hp
    · rw [e]; exact h1
    · exact hne p hp
  · intro p hp
    rcases List.mem_cons.mp hp with e | hp
    · rw [e]
    · exact hcl p hp
theorem m_swapF {h₀ h : Heap} {L : Addr} {a b : PySem.Str} {u v1 v2 : Option Value} {mm : PySem.Str → Option Value} (F : Fr h₀ L h (fun y => if y = b then v1 else if y = a then u else if y = b then v2 else mm y)) (hab : a ≠ b := by decide) : Fr h₀ L h (fun y => if y = a then u else if y = b then v1 else mm y) := by
  rw [m_swap hab] at F; exact F
theorem m_overF {h₀ h : Heap} {L : Addr} {b : PySem.Str} {v1 v2 : Option Value} {mm : PySem.Str → Option Value} (F : Fr h₀ L h (fun y => if y = b then v1 else if y = b then v2 else mm y)) : Fr h₀ L h (fun y => if y = b then v1 else mm y) := by
  rw [m_over] at F; exact F
theorem lt_off {a : Addr} {l : List (Addr × Obj)} (h : AllLt a l) : ∀ p ∈ l, p.1 ≠ a := fun p hp => Nat.ne_of_lt (ktn_ltOf h p hp)
theorem sub_rank {P A B C D : Addr × Obj} {l : List (Addr × Obj)} : ∀ p ∈ A :: B :: C :: D :: l, p ∈ C :: D :: P :: A :: B :: l := by
  intro p hp
  rcases List.mem_cons.mp hp with e | hp
  · rw [e]; exact .tail _ (.tail _ (.tail _ (.head _)))
  rcases List.mem_cons.mp hp with e | hp
  · rw [e]; exact .tail _ (.tail _ (.tail _ (.tail _ (.head _))))
  rcases List.mem_cons.mp hp with e | hp
  · rw [e]; exact .head _
  rcases List.mem_cons.mp hp with e | hp
  · rw [e]; exact .tail _ (.head _)
  exact .tail _ (.tail _ (.tail _ (.tail _ (.tail _ hp))))
theorem tup_ne_it {p : Addr × Obj} {x y : Int} (h : p.2.cls = .type "tuple") : p.2.cls ≠ (itR x y).cls := by
  rw [h]; intro e; exact absurd (Value.type.inj e) (by decide)
theorem off_rank {A B C D : Addr × Obj} {l : List (Addr × Obj)} {I : Addr} {x y : Int} (h1 : A.1 ≠ I) (h2 : B.1 ≠ I) (h3 : C.2.cls = .type "tuple") (h4 : D.2.cls = .type "tuple") (hcl : ∀ p ∈ l, p.2.cls = .type "tuple") :
    ∀ p ∈ A :: B :: C :: D :: l, p.1 ≠ I ∨ p.2.cls ≠ (itR x y).cls := by
  intro p hp
  rcases List.mem_cons.mp hp with e | hp
  · rw [e]; exact .inl h1
  rcases List.mem_cons.mp hp with e | hp
  · rw [e]; exact .inl h2
  rcases List.mem_cons.mp hp with e | hp
  · rw [e]; exact .inr (tup_ne_it h3)
  rcases List.mem_cons.mp hp with e | hp
  · rw [e]; exact .inr (tup_ne_it h4)
  exact .inr (tup_ne_it (hcl p hp))
theorem off_file {A : Addr × Obj} {l : List (Addr × Obj)} {I : Addr} {x y : Int} (h1 : A.1 ≠ I) (hcl : ∀ p ∈ l, p.2.cls = .type "tuple") :
    ∀ p ∈ A :: l, p.1 ≠ I ∨ p.2.cls ≠ (itR x y).cls := by
  intro p hp
  rcases List.mem_cons.mp hp with e | hp
  · rw [e]; exact .inl h1
  exact .inr (tup_ne_it (hcl p hp))
/-- what the whole table says -/
structure OrigAll (kvs : List (PySem.Str × Value)) (tups : List (Addr × Obj)) : Prop where
  no : ∀ k, cutF k = none → valueAt kvs k = none
  yes : ∀ k f r, cutF k = some (f, r) → ∃ a tf tr, valueAt kvs k = some (.ref a) ∧ (a, tup2 f tf r tr) ∈ tups

theorem cutA_cases (D : PySem.Str) (x : PySem.Str) : (cutA D x = (-1, x)) ∨ (Txt.slice x none (some 1) ≠ E0 ∧ Sub D (Txt.item x 0) = true ∧ cutA D x = (Txt.find D (Txt.item x 0), Txt.slice x (some 1) none)) := by
  by_cases h : Txt.slice x none (some 1) ≠ E0 ∧ Sub D (Txt.item x 0) = true
  · exact .inr ⟨h.1, h.2, cutA_yes h.1 h.2⟩
  · exact .inl (if_neg h)

section
variable {prog : Program} {w : World} {A : Around} {E : Value → Shared → Prop} {s : Shared} {env : Env} {h₀ : Heap} {x : PySem.Str} {target : PySem.Expr} {body : List Stmt} {Q : Flow → Shared → Prop}
theorem list_inv {I : Addr} {lp : Addr × Obj} (J : Nat → (PySem.Str → Option Value) → List (Addr × Obj) → Prop) {vs : List Value}
    (step : ∀ i v m news it h tk, vs[i]? = some v → J i m news → lp ∈ news → it.cls = .type "list_iterator" → Fr h₀ env.locals h (fun y => if y = x then some v else m y) → News h₀ env.locals h ((I, it) :: news) →
      wpAny (model prog w) A (execs body env) (UnrPost h₀ env.locals { s with heap := h, toks := tk } I it (fun m' n' => lp ∈ n' ∧ J (i + 1) m' n') Q) E { s with heap := h, toks := tk })
    (done : ∀ m news h tk, J vs.length m news → Fr h₀ env.locals h m → News h₀ env.locals h news → Q .next { s with heap := h, toks := tk }) :
    ∀ r i m news, vs.drop i = r → i ≤ vs.length → lp ∈ news → J i m news → ListRest prog w A E h₀ env x body Q s I lp r m news := by
  intro r
  induction r with
  | nil =>
    intro i m news hd hi hlp hJ h tk F N
    have : i = vs.length := Nat.le_antisymm hi (List.drop_eq_nil_iff.mp hd)
    subst this
    exact done _ _ _ _ hJ F N
  | cons v r ih =>
    intro i m news hd hi hlp hJ it h tk hc F N
    have hlt : i < vs.length := by
      rcases Nat.lt_or_ge i vs.length with q | q
      · exact q
      · rw [List.drop_eq_nil_iff.mpr q] at hd; cases hd
    have hv := List.drop_eq_getElem_cons hlt
    rw [hd] at hv
    have hg : vs[i]? = some v := by rw [List.getElem?_eq_getElem hlt]; exact congrArg some (List.cons.inj hv).1.symm
    refine wpAny_mono (step i v m news it h tk hg hJ hlp hc F N) (fun f s₂ p => unrPost_mono (fun m' n' q => ⟨q.1, ih (i + 1) m' n' (List.cons.inj hv).2.symm hlt q.1 q.2⟩) p) fun _ _ e => e
theorem unrPostW_mono {L : Addr} {its : List (Addr × Obj)} {r r' : (PySem.Str → Option Value) → List (Addr × Obj) → Prop} {s₁ s₂ : Shared} {f : Flow} (h : ∀ m n, r m n → r' m n) (p : UnrPostW h₀ L s₁ its r Q f s₂) : UnrPostW h₀ L s₁ its r' Q f s₂ := by
  cases f with
  | ret v => exact p
  | brk => exact p
  | next => obtain ⟨h', tk, m', n', e, F, N, o, q⟩ := p; exact ⟨h', tk, m', n', e, F, N, o, h _ _ q⟩
  | cont => obtain ⟨h', tk, m', n', e, F, N, o, q⟩ := p; exact ⟨h', tk, m', n', e, F, N, o, h _ _ q⟩
theorem allObj_of {ws : List (Addr × String)} {k : List (Addr × Obj) → Prop} : (∀ its, Objs ws its → k its) → AllObj ws k := by
  induction ws generalizing k with
  | nil => intro h; exact h [] trivial
  | cons w r ih =>
    intro h o ho
    exact ih fun its hi => h ((w.1, o) :: its) ⟨⟨rfl, ho⟩, hi⟩
theorem items_inv {ws : List (Addr × String)} {keep : List (Addr × Obj)} (J : Nat → (PySem.Str → Option Value) → List (Addr × Obj) → Prop) {vs : List Value}
    (step : ∀ i v m news its h tk, vs[i]? = some v → J i m news → Objs ws its → Fr h₀ env.locals h m → News h₀ env.locals h (its ++ news) →
      wpAny (model prog w) A (assign target env v) (fun _ s₂ => wpAny (model prog w) A (execs body env) (UnrPostW h₀ env.locals { s with heap := h, toks := tk } its (fun m' n' => SubL keep n' ∧ J (i + 1) m' n') Q) E s₂) E { s with heap := h, toks := tk })
    (done : ∀ m news h tk, J vs.length m news → Fr h₀ env.locals h m → News h₀ env.locals h news → Q .next { s with heap := h, toks := tk }) :
    ∀ r i m news, vs.drop i = r → i ≤ vs.length → J i m news → ItemsRest prog w A E h₀ env target body Q s ws keep (r.map .val) m news := by
  intro r
  induction r with
  | nil =>
    intro i m news hd hi hJ h tk F N
    have : i = vs.length := Nat.le_antisymm hi (List.drop_eq_nil_iff.mp hd)
    subst this
    exact done _ _ _ _ hJ F N
  | cons v r ih =>
    intro i m news hd hi hJ
    have hlt : i < vs.length := by
      rcases Nat.lt_or_ge i vs.length with q | q
      · exact q
      · rw [List.drop_eq_nil_iff.mpr q] at hd; cases hd
    have hv := List.drop_eq_getElem_cons hlt
    rw [hd] at hv
    have hg : vs[i]? = some v := by rw [List.getElem?_eq_getElem hlt]; exact congrArg some (List.cons.inj hv).1.symm
    refine ItemsRest.val fun h tk F => allObj_of fun its hi' N => ?_
    refine wpAny_mono (step i v m news its h tk hg hJ hi' F N) (fun _ s₂ p => wpAny_mono p (fun f s₃ p => unrPostW_mono (fun m' n' q => ⟨q.1, ih (i + 1) m' n' (List.cons.inj hv).2.symm hlt q.2⟩) p) fun _ _ e => e) fun _ _ e => e
end
end
section
theorem rsM7 : True := by first | (w_top off; walk1) | trivial
abbrev Dat := Int × Int × Int × Bool × Int × Int
def datObj (d : Dat) (v1 v2 v3 v4 v5 : Tok) : Obj := { cls := .type "tuple", data := .seq #[.int d.1 v1, .int d.2.1 v2, .int d.2.2.1 v3, .bool d.2.2.2.1, .int d.2.2.2.2.1 v4, .int d.2.2.2.2.2 v5] }
/-- the list of the ways, as values -/
def FoundR (fvs : List Value) (ds : List Dat) (tl : List (Addr × Obj)) : Prop :=
  fvs.length = ds.length ∧ ∀ (i : Nat) (v : Value) (d : Dat), fvs[i]? = some v → ds[i]? = some d → ∃ a v1 v2 v3 v4 v5, v = Value.ref a ∧ (a, datObj d v1 v2 v3 v4 v5) ∈ tl
theorem FoundR.nil {tl : List (Addr × Obj)} : FoundR [] [] tl := ⟨rfl, fun _ _ _ h => nomatch h⟩
theorem FoundR.sub {fvs : List Value} {ds : List Dat} {tl tl' : List (Addr × Obj)} (h : FoundR fvs ds tl) (hs : ∀ p ∈ tl, p ∈ tl') : FoundR fvs ds tl' :=
  ⟨h.1, fun i v d e1 e2 => let ⟨a, v1, v2, v3, v4, v5, q1, q2⟩ := h.2 i v d e1 e2; ⟨a, v1, v2, v3, v4, v5, q1, hs _ q2⟩⟩
theorem FoundR.snoc {fvs : List Value} {ds : List Dat} {tl : List (Addr × Obj)} {a : Addr} {d : Dat} {v1 v2 v3 v4 v5 : Tok} (h : FoundR fvs ds tl) (ha : (a, datObj d v1 v2 v3 v4 v5) ∈ tl) : FoundR (fvs ++ [.ref a]) (ds ++ [d]) tl := by
  refine ⟨by rw [List.length_append, List.length_append, h.1]; rfl, fun i v e h1 h2 => ?_⟩
  rcases Nat.lt_or_ge i fvs.length with q | q
  · rw [List.getElem?_append_left q] at h1
    rw [List.getElem?_append_left (h.1 ▸ q)] at h2
    exact h.2 i v e h1 h2
  · rw [List.getElem?_append_right q] at h1
    rw [List.getElem?_append_right (h.1 ▸ q)] at h2
    rw [← h.1] at h2
    cases hi : i - fvs.length with
    | zero =>
      rw [hi] at h1 h2
      have e1 : v = .ref a := (Option.some.inj h1).symm
      have e2 : d = e := Option.some.inj h2
      subst e2
      exact ⟨a, v1, v2, v3, v4, v5, e1, ha⟩
    | succ n => rw [hi] at h1; simp at h1

theorem OrigAll.sub {kvs : List (PySem.Str × Value)} {tl tl' : List (Addr × Obj)} (h : OrigAll kvs tl) (hs : ∀ p ∈ tl, p ∈ tl') : OrigAll kvs tl' :=
  ⟨h.no, fun k f r e => let ⟨a, tf, tr, q1, q2⟩ := h.yes k f r e; ⟨a, tf, tr, q1, hs _ q2⟩⟩

def Agree (names : List PySem.Str) (mm m : PySem.Str → Option Value) : Prop := ∀ y, y ∉ names → m y = mm y
noncomputable def overL (v : PySem.Str → Option Value) (mm : PySem.Str → Option Value) : List PySem.Str → PySem.Str → Option Value
  | [] => mm
  | n :: r => fun y => if y = n then v n else overL v mm r y
theorem Agree.eq {names : List PySem.Str} {mm m : PySem.Str → Option Value} (h : Agree names mm m) : m = overL m mm names := by
  funext y
  by_cases hy : y ∈ names
  · clear h
    induction names with
    | nil => exact absurd hy (List.not_mem_nil)
    | cons n r ih =>
      show m y = if y = n then m n else overL m mm r y
      by_cases e : y = n
      · rw [if_pos e, e]
      · rw [if_neg e]
        exact ih ((List.mem_cons.mp hy).resolve_left e)
  · rw [h y hy]
    clear h
    induction names with
    | nil => rfl
    | cons n r ih =>
      show mm y = if y = n then m n else overL m mm r y
      rw [if_neg (fun e => hy (by rw [e]; exact List.Mem.head _))]
      exact ih fun q => hy (.tail _ q)

/-- the state between two turns of the loops of _law_ways -/
def WJ (D Fd : Addr) (o : Obj) (kvs : List (PySem.Str × Value)) (X : List (Addr × Obj)) (P : List (Addr × Obj) → Prop) (names : List PySem.Str) (mm : PySem.Str → Option Value) (ds : List Dat) (m : PySem.Str → Option Value) (news : List (Addr × Obj)) : Prop :=
  ∃ fvs c tl, Agree names mm m ∧ (∀ p ∈ X ++ (Fd, listOf fvs.toArray c) :: (D, o) :: tl, p ∈ news) ∧ OrigAll kvs tl ∧ FoundR fvs ds tl ∧ (∀ p ∈ tl, p.2.cls = .type "tuple") ∧ P tl

def MEN : List PySem.Str := [Str.ofString "", Str.ofString "B", Str.ofString "K", Str.ofString "N", Str.ofString "Q", Str.ofString "R"]
theorem men_at {t0 t1 t2 t3 t4 t5 : Tok} {i : Nat} {v : Value} (h : [Value.str (Str.ofString "") t0, Value.str (Str.ofString "B") t1, Value.str (Str.ofString "K") t2, Value.str (Str.ofString "N") t3, Value.str (Str.ofString "Q") t4, Value.str (Str.ofString "R") t5][i]? = some v) :
    ∃ mn t, v = .str mn t ∧ MEN[i]? = some mn := by
  match i, h with
  | 0, h => exact ⟨_, _, (Option.some.inj h).symm, rfl⟩
  | 1, h => exact ⟨_, _, (Option.some.inj h).symm, rfl⟩
  | 2, h => exact ⟨_, _, (Option.some.inj h).symm, rfl⟩
  | 3, h => exact ⟨_, _, (Option.some.inj h).symm, rfl⟩
  | 4, h => exact ⟨_, _, (Option.some.inj h).symm, rfl⟩
  | 5, h => exact ⟨_, _, (Option.some.inj h).symm, rfl⟩
  | n + 6, h => simp at h
theorem men_len {i : Nat} {mn : PySem.Str} (h : MEN[i]? = some mn) : mn.length ≤ 1 := by
  match i, h with
  | 0, h => rw [← Option.some.inj h]; decide +kernel
  | 1, h => rw [← Option.some.inj h]; decide +kernel
  | 2, h => rw [← Option.some.inj h]; decide +kernel
  | 3, h => rw [← Option.some.inj h]; decide +kernel
  | 4, h => rw [← Option.some.inj h]; decide +kernel
  | 5, h => rw [← Option.some.inj h]; decide +kernel
  | n + 6, h => simp [MEN] at h

def PRO : List (PySem.Str × PySem.Str) := [("N", "N"), ("=N", "N"), ("B", "B"), ("=B", "B"), ("R", "R"), ("=R", "R"), ("Q", "Q"), ("=Q", "Q")].map fun p => (Str.ofString p.1, Str.ofString p.2)
def endsOf (man : PySem.Str) : List (PySem.Str × PySem.Str) := (E0, E0) :: (if man = E0 then PRO else [])
def menK (man : PySem.Str) : Int := if man = E0 then 1 else if man = Str.ofString "N" then 2 else if man = Str.ofString "B" then 3 else if man = Str.ofString "R" then 4 else if man = Str.ofString "Q" then 5 else 6
def becK (made : PySem.Str) : Int := if made = E0 then 0 else if made = Str.ofString "N" then 2 else if made = Str.ofString "B" then 3 else if made = Str.ofString "R" then 4 else 5
def innerF (x man en : PySem.Str) : PySem.Str := Txt.slice x (some (man.length : Int)) (some ((x.length : Int) - (en.length : Int)))
def aheadF (inner cross : PySem.Str) : PySem.Str := Txt.slice inner none (some ((inner.length : Int) - 2 - (cross.length : Int)))
def fileF (fs : Int) (inner : PySem.Str) : Int := Txt.find (Txt.slice FLS none (some fs)) (Txt.slice inner (some (-2)) (some (-1)))
def rankF (rs : Int) (inner : PySem.Str) : Int := Txt.find (Txt.slice RDS none (some rs)) (Txt.slice inner (some (-1)) none)
def wayC (fs rs : Int) (man made inner cross : PySem.Str) : List Dat :=
  match cutF (aheadF inner cross) with
  | none => []
  | some (f, r) =>
    if aheadF inner cross ++ cross ≠ Txt.slice inner none (some (-2)) ∨ fileF fs inner < 0 ∨ rankF rs inner < 0 then []
    else if man ≠ E0 ∨ cross = E0 ∨ 0 ≤ f then [(menK man, f, r, decide (cross = XS), rankF rs inner * fs + fileF fs inner, becK made)] else []
def wayE (fs rs : Int) (x man : PySem.Str) (em : PySem.Str × PySem.Str) : List Dat :=
  if x ≠ man ++ innerF x man em.1 ++ em.1 ∨ (x.length : Int) < (man.length : Int) + em.1.length + 2 then []
  else wayC fs rs man em.2 (innerF x man em.1) E0 ++ wayC fs rs man em.2 (innerF x man em.1) XS
def wayM (fs rs : Int) (x man : PySem.Str) : List Dat := (endsOf man).flatMap (wayE fs rs x man)
def waysF (fs rs : Int) (x : PySem.Str) : List Dat := MEN.flatMap (wayM fs rs x)
theorem flat_take {α β : Type} (f : α → List β) (l : List α) (i : Nat) {a : α} (h : l[i]? = some a) : (l.take (i + 1)).flatMap f = (l.take i).flatMap f ++ f a := by
  rw [List.take_add_one, h, List.flatMap_append]
  simp
end
section
theorem rsM8 : True := by first | (w_top off; walk1) | trivial
section
variable {prog : Program} {w : World} {A : Around} {E : Value → Shared → Prop} {R : Result → Shared → Prop} {s : Shared} {env : Env} {elt ta tb iA iB : PySem.Expr} {scope : Scope} {pos : Pos} {it acc : Value}

abbrev lc2 (elt ta iA tb iB : PySem.Expr) (scope : Scope) (pos : Pos) : PySem.Expr := .ListComp elt [⟨ta, iA, [], 0⟩, ⟨tb, iB, [], 0⟩] scope pos
theorem compTurn2_1 : compTurn (lc2 elt ta iA tb iB scope pos) 1 it acc env = (standAt iB.pos >>= fun _ => pyNext it >>= fun r => match r with
      | none => pure (.done .next)
      | some v => letOwnedTupleGo tb it v >>= fun _ => assign tb env v >>= fun _ =>
        (eval elt env >>= fun x => call (.builtin "list.append") [acc, x] >>= fun _ => pure ()) >>= fun _ =>
          again (.compLoop (lc2 elt ta iA tb iB scope pos) 1 it acc env)) := by rfl
theorem compTurn2_0 : compTurn (lc2 elt ta iA tb iB scope pos) 0 it acc env = (standAt iA.pos >>= fun _ => pyNext it >>= fun r => match r with
      | none => pure (.done .next)
      | some v => letOwnedTupleGo ta it v >>= fun _ => assign ta env v >>= fun _ =>
        eval iB env >>= fun x => standAt iB.pos >>= fun _ => foldedSetIterable iB env x >>= fun x => holding [x] (pyIter x) >>= fun jt => runOwn (.compStart (lc2 elt ta iA tb iB scope pos) 1 jt acc env) env >>= fun _ =>
          again (.compLoop (lc2 elt ta iA tb iB scope pos) 0 it acc env)) := by rfl
theorem start2_1
    (h0 : codeAny (model prog w) A (.compLoop (lc2 elt ta iA tb iB scope pos) 1 it acc env) R s)
    (h : wpAny (model prog w) A (pyIter it) (fun it' s' => codeAny (model prog w) A (.compLoop (lc2 elt ta iA tb iB scope pos) 1 it' acc env) R s')
      (notedBy (model prog w) A env fun x s' => R (.error x) s') s) :
    codeAny (model prog w) A (.compStart (lc2 elt ta iA tb iB scope pos) 1 it acc env) R s := by
  refine codeAny_of_tree ?_
  show wpAny _ _ ((compStart (lc2 elt ta iA tb iB scope pos) 1 it acc env).onRaise (fun x => do noteFrame x env; standAt theWindowsPlace)) _ _ s
  refine wpAny_notedAt ?_
  unfold compStart
  show wpAny _ _ (ask >>= _) _ _ s
  refine wpAny_bind (wpAny_askSetting (wpAny_ite ?_))
  split
  · first
      | exact wpAny_bind (wpAny_pure (wpAny_pure (And.intro rfl h0)))
      | exact wpAny_pure (And.intro rfl h0)
  · first
      | exact wpAny_bind (wpAny_rule (wpAny_bind (wpAny_standAt (wpAny_bind (wpAny_mono h (fun it' s' h' => wpAny_pure (And.intro rfl h')) fun _ _ x => x)))))
      | (refine wpAny_bind (wpAny_rule ?_); show wpAny _ _ (standAt iB.pos >>= _) _ _ s; exact wpAny_bind (wpAny_standAt (wpAny_bind (wpAny_mono h (fun it' s' h' => wpAny_pure (And.intro rfl h')) fun _ _ x => x))))
theorem loop2_1 (I : Nat → Shared → Prop)
    (turn : ∀ n s, I n s → wpAny (model prog w) A (pyNext it) (fun r s₁ => match r with
      | none => R (.ok .next) s₁
      | some v => wpAny (model prog w) A (letOwnedTupleGo tb it v) (fun _ s₀ => wpAny (model prog w) A (assign tb env v) (fun _ s₂ =>
          wpAny (model prog w) A (eval elt env) (fun x s₄ =>
            wpAny (model prog w) A (call (.builtin "list.append") [acc, x]) (fun _ s₅ => ∃ m, m < n ∧ I m s₅) (notedBy (model prog w) A env fun e s' => R (.error e) s') s₄) (notedBy (model prog w) A env fun e s' => R (.error e) s') s₂)
          (notedBy (model prog w) A env fun e s' => R (.error e) s') s₀) (notedBy (model prog w) A env fun e s' => R (.error e) s') s₁) (notedBy (model prog w) A env fun e s' => R (.error e) s') s)
    (n : Nat) (h : I n s) : codeAny (model prog w) A (.compLoop (lc2 elt ta iA tb iB scope pos) 1 it acc env) R s := by
  refine codeAny_loop rfl I (fun n s hI => ?_) n h
  show wpAny _ A ((compTurn (lc2 elt ta iA tb iB scope pos) 1 it acc env).onRaise (fun x => do noteFrame x env; theTreesLotGoes x)) _ _ s
  refine wpAny_noted ?_
  rw [compTurn2_1]
  refine wpAny_bind (wpAny_standAt (wpAny_bind (wpAny_mono (turn n s hI) (fun r s₁ h₁ => ?_) fun _ _ h' => h')))
  cases r with
  | none => exact wpAny_pure h₁
  | some v =>
    refine wpAny_bind (wpAny_mono h₁ (fun _ s₀ h₀' => ?_) fun _ _ h' => h')
    refine wpAny_bind (wpAny_mono h₀' (fun _ s₂ h₂ => ?_) fun _ _ h' => h')
    exact wpAny_bind (wpAny_bind (wpAny_mono h₂ (fun x s₄ h₄ => wpAny_bind (wpAny_mono h₄ (fun _ s₅ h₅ => wpAny_pure (wpAny_pure ⟨rfl, h₅⟩)) fun _ _ h' => h')) fun _ _ h' => h'))
theorem loop2_0 (hs : ∀ x, foldedSetIterable iB env x = pure x) (I : Nat → Shared → Prop)
    (turn : ∀ n s, I n s → wpAny (model prog w) A (pyNext it) (fun r s₁ => match r with
      | none => R (.ok .next) s₁
      | some v => wpAny (model prog w) A (letOwnedTupleGo ta it v) (fun _ s₀ => wpAny (model prog w) A (assign ta env v) (fun _ s₂ =>
          wpAny (model prog w) A (eval iB env) (fun x s₄ =>
            wpAny (model prog w) A (pyIter x) (fun jt s₅ => codeAny (model prog w) A (.compStart (lc2 elt ta iA tb iB scope pos) 1 jt acc env) (fun r s₆ => ∃ f, r = .ok f ∧ ∃ m, m < n ∧ I m s₆) s₅) (notedBy (model prog w) A env fun e s' => R (.error e) s') s₄) (notedBy (model prog w) A env fun e s' => R (.error e) s') s₂)
          (notedBy (model prog w) A env fun e s' => R (.error e) s') s₀) (notedBy (model prog w) A env fun e s' => R (.error e) s') s₁) (notedBy (model prog w) A env fun e s' => R (.error e) s') s)
    (n : Nat) (h : I n s) : codeAny (model prog w) A (.compLoop (lc2 elt ta iA tb iB scope pos) 0 it acc env) R s := by
  refine codeAny_loop rfl I (fun n s hI => ?_) n h
  show wpAny _ A ((compTurn (lc2 elt ta iA tb iB scope pos) 0 it acc env).onRaise (fun x => do noteFrame x env; theTreesLotGoes x)) _ _ s
  refine wpAny_noted ?_
  rw [compTurn2_0]
  refine wpAny_bind (wpAny_standAt (wpAny_bind (wpAny_mono (turn n s hI) (fun r s₁ h₁ => ?_) fun _ _ h' => h')))
  cases r with
  | none => exact wpAny_pure h₁
  | some v =>
    refine wpAny_bind (wpAny_mono h₁ (fun _ s₀ h₀' => ?_) fun _ _ h' => h')
    refine wpAny_bind (wpAny_mono h₀' (fun _ s₂ h₂ => ?_) fun _ _ h' => h')
    refine wpAny_bind (wpAny_mono h₂ (fun x s₄ h₄ => ?_) fun _ _ h' => h')
    refine wpAny_bind (wpAny_standAt (wpAny_bind (wpAny_of_eq (hs x) (wpAny_bind (wpAny_holding (wpAny_mono h₄ (fun jt s₅ h₅ => ?_) fun _ _ h' => h'))))))
    refine wpAny_bind (wpAny_runOwn (codeAny_mono h₅ fun r s₆ h₆ => ?_))
    obtain ⟨f, rfl, hm⟩ := h₆
    exact wpAny_pure ⟨rfl, hm⟩
end

abbrev tupS (x : PySem.Str) (t : Tok) (y : PySem.Str) (u : Tok) : Obj := { cls := .type "tuple", data := .seq #[.str x t, .str y u] }
/-- the pairs of the block made so far -/
def EL (H : Heap) (ys : List Value) (n : Nat) (h : Heap) : Prop :=
  ys.length = n ∧ ∀ (k : Nat) (v : Value), ys[k]? = some v → ∃ a e m t1 t2, PRO[k]? = some (e, m) ∧ v = Value.ref a ∧ H.get? a = none ∧ h.get? a = some (tupS e t1 m t2)
theorem EL.keep {H h h' : Heap} {ys : List Value} {n : Nat} (x : EL H ys n h) (k : ∀ b o, H.get? b = none → h.get? b = some o → o.cls = .type "tuple" → h'.get? b = some o) : EL H ys n h' :=
  ⟨x.1, fun i v hv => let ⟨a, e, m, t1, t2, q1, q2, q3, q4⟩ := x.2 i v hv; ⟨a, e, m, t1, t2, q1, q2, q3, k _ _ q3 q4 rfl⟩⟩
def sgN (j : Nat) : PySem.Str := if j = 0 then E0 else EQS
def mkN (i : Nat) : PySem.Str := ⟨#[((Str.ofString "NBRQ").cps[i]?).getD 0]⟩
theorem pro_at : ∀ i < 4, ∀ j < 2, PRO[2 * i + j]? = some (sgN j ++ mkN i, mkN i) := by decide +kernel
theorem mkN_len (i : Nat) : (mkN i).length = 1 := rfl
theorem sgN_len (j : Nat) : (sgN j).length ≤ 1 := by
  unfold sgN; split <;> decide +kernel
theorem nbrq_size : (Str.ofString "NBRQ").cps.size = 4 := by decide +kernel
theorem sg_at {t u : Tok} {j : Nat} {v : Value} (h : (#[Value.str E0 t, Value.str EQS u] : Array Value)[j]? = some v) : ∃ t', v = .str (sgN j) t' := by
  match j, h with
  | 0, h => exact ⟨t, (Option.some.inj h).symm⟩
  | 1, h => exact ⟨u, (Option.some.inj h).symm⟩
  | n + 2, h => simp at h
theorem EL.snoc {H h' : Heap} {ys : List Value} {i j : Nat} {a : Addr} {t1 t2 : Tok} (x : EL H ys (2 * i + j) h') (hi : i < 4) (hj : j < 2) (hn : H.get? a = none) (ha : h'.get? a = some (tupS (sgN j ++ mkN i) t1 (mkN i) t2)) : EL H (ys ++ [.ref a]) (2 * i + (j + 1)) h' := by
  refine ⟨by rw [List.length_append, x.1]; rfl, fun k v hv => ?_⟩
  rcases Nat.lt_or_ge k ys.length with q | q
  · rw [List.getElem?_append_left q] at hv
    exact x.2 k v hv
  · rw [List.getElem?_append_right q] at hv
    cases hk : k - ys.length with
    | zero =>
      rw [hk] at hv
      have e1 : v = .ref a := (Option.some.inj hv).symm
      have e2 : k = 2 * i + j := by rw [← x.1]; omega
      subst e2
      exact ⟨a, _, _, t1, t2, pro_at i hi j hj, e1, hn, ha⟩
    | succ n => rw [hk] at hv; simp at hv

section
variable {prog : Program} {w : World} {A : Around} {E : Value → Shared → Prop} {s : Shared} {env : Env} {scope : Scope} {cl : List (PySem.Str × Addr)} {C : Addr}
theorem elt_walk {x y : PySem.Str} {t u : Tok} {m : PySem.Str → Option Value} {Q : Value → Shared → Prop} {k : Nat} {p1 p2 p3 p4 p5 : Pos} (hn : s.heap.Ns C m) (hx : m (Str.ofString "sign") = some (.str x t)) (hy : m (Str.ofString "made") = some (.str y u)) (hl : x.length + y.length ≤ sizeLine)
    (hk : (compEnvC scope cl C env).scope.kind = .function) (h1 : (compEnvC scope cl C env).kindOf (Str.ofString "sign") = some .local) (h2 : (compEnvC scope cl C env).kindOf (Str.ofString "made") = some .local)
    (h : ∀ t' tk, Q (.ref s.heap.objs.size) { s with heap := s.heap.push (tupS (x ++ y) t' y u), toks := tk }) :
    wpAny (model prog w) A (eval (.Tuple [.BinOp (.Name (Str.ofString "sign") p1) .Add (.Name (Str.ofString "made") p2) p3, .Name (Str.ofString "made") p4] k p5) (compEnvC scope cl C env)) Q E s := by
  refine Tuple_ (spliced_more (wpAny_BinOp (ldVarK hn hx (ldVarK hn hy (add_str (hsz := hl) fun t' tk => ?_) hk h2) hk h1)))
  refine spliced_more (ldVarK hn hy ?_ hk h2)
  refine spliced_none ?_
  exact wpAny_newTuple (h t' tk) (by show 2 ≤ sizeLine; rw [sizeLine_eq]; omega)
end

section
variable {prog : Program} {w : World} {A : Around} {E : Value → Shared → Prop} {R : Result → Shared → Prop} {s : Shared} {env : Env} {scope : Scope} {cl : List (PySem.Str × Addr)} {pos : Pos}
abbrev ELT (p1 p2 p3 p4 p5 : Pos) (k : Nat) : PySem.Expr := .Tuple [.BinOp (.Name (Str.ofString "sign") p1) .Add (.Name (Str.ofString "made") p2) p3, .Name (Str.ofString "made") p4] k p5
abbrev PRX (p1 p2 p3 p4 p5 p6 p7 p8 p9 q1 q2 : Pos) (k k1 k2 k3 k4 : Nat) (scope : Scope) (pos : Pos) : PySem.Expr :=
  lc2 (ELT p1 p2 p3 p4 p5 k) (.Name (Str.ofString "made") p6) (.Constant (.str (Str.ofString "NBRQ")) k1 p7) (.Name (Str.ofString "sign") p8) (.Tuple [.Constant (.str E0) k2 q1, .Constant (.str EQS) k3 q2] k4 p9) scope pos
variable {p1 p2 p3 p4 p5 p6 p7 p8 p9 q1 q2 : Pos} {k k1 k2 k3 k4 : Nat}
theorem sameBut_at {D b : Addr} {h h' : Heap} {o : Obj} (hs : Heap.SameBut D h h') (hb : b ≠ D) (e : h.get? b = some o) : h'.get? b = some o := hs.extBut b o hb e
theorem fresh_of {H h : Heap} (hs : ∀ b o, H.get? b = some o → ∃ o', h.get? b = some o') : H.get? h.objs.size = none := by
  cases q : H.get? h.objs.size with
  | none => rfl
  | some o => obtain ⟨o', e⟩ := hs _ _ q; exact absurd (Heap.lt_size e) (Nat.lt_irrefl _)
theorem ns_some {h : Heap} {C : Addr} {m : PySem.Str → Option Value} (x : h.Ns C m) : ∃ o, h.get? C = some o := let ⟨o, _, _, e, _⟩ := x; ⟨o, e⟩
/-- one turn of the first clause: the second clause's loop -/
theorem pro_inner {s₀ : Shared} {H : Heap} {C D J T : Addr} {i : Nat} {u : Tok} {t0 t1 : Tok} {ys : List Value} {m : PySem.Str → Option Value}
    (hh : A.handled = none) (hi : i < 4) (hk : scope.kind = .function) (h1 : scope.names.lookup (Str.ofString "sign") = some .local) (h2 : scope.names.lookup (Str.ofString "made") = some .local)
    (hJT : T ≠ J) (hJH : H.get? J = none) (hC : H.get? C ≠ none) (hD : H.get? D ≠ none) (hDC : D ≠ C)
    (hn : s₀.heap.Ns C m) (hm : m (Str.ofString "made") = some (.str (mkN i) u)) (hy : EL H ys (2 * i) s₀.heap) (hacc : s₀.heap.get? D = some (LCg.lst ys))
    (hsub : ∀ b o, H.get? b = some o → ∃ o', s₀.heap.get? b = some o')
    (hJ : s₀.heap.IsTupleIter J T 0) (hT : s₀.heap.IsTuple T #[.str E0 t0, .str EQS t1]) (hTH : H.get? T = none)
    (hR : ∀ h tk m' ys', h.Ns C m' → EL H ys' (2 * i + 2) h → h.get? D = some (LCg.lst ys') → (∀ b o, b ≠ J → b ≠ C → b ≠ D → s₀.heap.get? b = some o → h.get? b = some o) → R (.ok .next) { s₀ with heap := h, toks := tk }) :
    codeAny (model prog w) A (.compStart (PRX p1 p2 p3 p4 p5 p6 p7 p8 p9 q1 q2 k k1 k2 k3 k4 scope pos) 1 (.ref J) (.ref D) (compEnvC scope cl C env)) R s₀ := by
  have W := Walks.tuple (prog := prog) (w := w) hh J T hJT #[Value.str E0 t0, .str EQS t1]
  have hCJ : C ≠ J := fun e => hC (e ▸ hJH)
  have hDJ : D ≠ J := fun e => hD (e ▸ hJH)
  have hCT : C ≠ T := fun e => hC (e ▸ hTH)
  have hDT : D ≠ T := fun e => hD (e ▸ hTH)
  have loop : codeAny (model prog w) A (.compLoop (PRX p1 p2 p3 p4 p5 p6 p7 p8 p9 q1 q2 k k1 k2 k3 k4 scope pos) 1 (.ref J) (.ref D) (compEnvC scope cl C env)) R s₀ := by
    refine loop2_1 (fun n s' => ∃ h tk j ys m', s' = { s₀ with heap := h, toks := tk } ∧ j ≤ 2 ∧ n = 3 - j ∧ (h.IsTupleIter J T j ∧ h.IsTuple T #[.str E0 t0, .str EQS t1]) ∧ h.Ns C m' ∧ m' (Str.ofString "made") = some (.str (mkN i) u) ∧
      EL H ys (2 * i + j) h ∧ h.get? D = some (LCg.lst ys) ∧ (∀ b o, b ≠ J → b ≠ C → b ≠ D → s₀.heap.get? b = some o → h.get? b = some o)) ?_ 3 ⟨s₀.heap, s₀.toks, 0, ys, m, rfl, Nat.zero_le _, rfl, ⟨hJ, hT⟩, hn, hm, hy, hacc, fun _ _ _ _ _ e => e⟩
    rintro n s' ⟨h, tk, j, ys, m', rfl, hj, rfl, hst, hn, hm, hy, hacc, hkp⟩
    by_cases hlt : j < 2
    · refine W.item j _ _ _ hlt hst fun v h₁ tk₁ hv hst₁ hk₁ => ?_
      obtain ⟨t', rfl⟩ := sg_at hv
      have e1 : ∀ b o, b ≠ J → h.get? b = some o → h₁.get? b = some o := fun b o hb e => hk₁ b o (by simpa using hb) e
      show wpAny _ _ (pure ()) _ _ _
      refine wpAny_pure ?_
      refine wpAny_assign_Name (wpAny_storeName_local (lookup_relabel_local h1) (hn.at' fun o e => e1 _ o hCJ e) (fun h₂ hn₂ hs₂ => ?_) (by simp [compEnvC, relabel, hk]))
      have hs₂' : Heap.SameBut C h₁ h₂ := hs₂
      refine elt_walk (m := fun y => if y = Str.ofString "sign" then some (.str (sgN j) t') else m' y) hn₂ (if_pos rfl) ((if_neg (by decide)).trans hm) (by rw [sizeLine_eq, mkN_len]; have := sgN_len j; omega) hk (lookup_relabel_local h1) (lookup_relabel_local h2) fun t2 tk₂ => ?_
      have e2 : ∀ b o, b ≠ J → b ≠ C → h.get? b = some o → h₂.get? b = some o := fun b o hb hc e => hs₂'.extBut b o hc (e1 b o hb e)
      have hfr : H.get? h₂.objs.size = none := fresh_of fun b o e => by
        by_cases hbC : b = C
        · subst hbC; exact ⟨_, (ns_some hn₂).choose_spec⟩
        · by_cases hbD : b = D
          · subst hbD; exact ⟨_, e2 _ _ hDJ hbC hacc⟩
          · have hbJ : b ≠ J := fun q => by rw [q, hJH] at e; cases e
            obtain ⟨o', q⟩ := hsub b o e
            exact ⟨o', e2 b o' hbJ hbC (hkp b o' hbJ hbC hbD q)⟩
      refine append_at (its := ys.toArray) (n := ys.length) (hsz := by rw [sizeLine_eq, List.size_toArray, hy.1]; omega) (Heap.get?_push_of_some _ (e2 D _ hDJ hDC hacc)) fun h₄ hs₄ hD₄ => ?_
      have e4 : ∀ b o, b ≠ J → b ≠ C → b ≠ D → h.get? b = some o → h₄.get? b = some o := fun b o hb hc hd e => hs₄.extBut b o hd (Heap.get?_push_of_some _ (e2 b o hb hc e))
      have hDs : h₂.objs.size ≠ D := fun q => by
        have z := Heap.lt_size (e2 D _ hDJ hDC hacc)
        rw [q] at z
        exact Nat.lt_irrefl _ z
      refine ⟨3 - (j + 1), by omega, h₄, _, j + 1, ys ++ [.ref h₂.objs.size], (fun y => if y = Str.ofString "sign" then some (.str (sgN j) t') else m' y), rfl, hlt, rfl, ?_, ?_, ?_, ?_, ?_, ?_⟩
      · refine W.frame _ _ _ hst₁ fun b hb o e => ?_
        have hbC : b ≠ C := by rcases List.mem_cons.mp hb with q | hb; exact q ▸ hCJ.symm; exact List.mem_singleton.mp hb ▸ hCT.symm
        have hbD : b ≠ D := by rcases List.mem_cons.mp hb with q | hb; exact q ▸ hDJ.symm; exact List.mem_singleton.mp hb ▸ hDT.symm
        exact hs₄.extBut b o hbD (Heap.get?_push_of_some _ (hs₂'.extBut b o hbC e))
      · exact hn₂.at' fun o e => hs₄.extBut C o hDC.symm (Heap.get?_push_of_some _ e)
      · exact (if_neg (by decide)).trans hm
      · refine EL.snoc (hy.keep fun b o q e c => e4 b o (fun q' => ?_) (fun q' => hC (q' ▸ q)) (fun q' => hD (q' ▸ q)) e) hi hlt hfr (hs₄.extBut _ _ hDs (Heap.get?_push_size _ rfl))
        obtain ⟨oJ, x1, x2, _⟩ := hst.1
        rw [q', x1] at e
        rw [← Option.some.inj e, x2] at c
        exact absurd (Value.type.inj c) (by decide)
      · exact hD₄.trans (congrArg some (LCg.lst_snoc ys _))
      · exact fun b o hb hc hd e => e4 b o hb hc hd (hkp b o hb hc hd e)
    · have hj2 : j = 2 := by omega
      subst hj2
      refine W.done _ _ _ hst fun h₁ tk₁ hk₁ => ?_
      have e1 : ∀ b o, b ≠ J → h.get? b = some o → h₁.get? b = some o := fun b o hb e => hk₁ b o (by simpa using hb) e
      refine hR h₁ tk₁ m' ys (hn.at' fun o e => e1 _ o hCJ e) (hy.keep fun b o q e c => e1 b o (fun q' => ?_) e) (e1 _ _ hDJ hacc) fun b o hb hc hd e => e1 b o hb (hkp b o hb hc hd e)
      obtain ⟨oJ, x1, x2, _⟩ := hst.1
      rw [q', x1] at e
      rw [← Option.some.inj e, x2] at c
      exact absurd (Value.type.inj c) (by decide)
  exact start2_1 loop (W.self 0 _ _ _ ⟨hJ, hT⟩ loop)
theorem comp_pro {Q : Value → Shared → Prop} (hh : A.handled = none) (hcl : closureFor scope env = pure cl) (hcell : ∀ y ∈ scope.names, y.2 ≠ .cell) (hk : scope.kind = .function)
    (hnames : ∀ y ∈ scope.names, y.2 = .local → scope.names.lookup y.1 = some .local) (h1 : scope.names.lookup (Str.ofString "sign") = some .local) (h2 : scope.names.lookup (Str.ofString "made") = some .local)
    (hs1 : ∀ x, foldedSetIterable (.Constant (.str (Str.ofString "NBRQ")) k1 p7) env x = pure x) (hs2 : ∀ C x, foldedSetIterable (.Tuple [.Constant (.str E0) k2 q1, .Constant (.str EQS) k3 q2] k4 p9) (compEnvC scope cl C env) x = pure x)
    (hQ : ∀ D h' tk ys, Kp s.heap h' → @LE.le Nat _ s.heap.objs.size D → h'.get? D = some (LCg.lst ys) → EL s.heap ys 8 h' → Q (.ref D) { s with heap := h', toks := tk }) :
    wpAny (model prog w) A (eval (PRX p1 p2 p3 p4 p5 p6 p7 p8 p9 q1 q2 k k1 k2 k3 k4 scope pos) env) Q E s := by
  rw [eval_ListComp]
  refine wpAny_comprehension_free (use := none) rfl hs1 hcl hk hnames (wpAny_Constant_str (k := k1) (pos := p7) (wpAny_pyIter_ascii (by decide +kernel) ?_))
  refine wpAny_newObj_type (wpAny_newFunctionEnv hcell (by intro y hy; simp at hy) (fun h₁ hns₁ hsb₁ => ?_) hk)
  dsimp only at hns₁ hsb₁ ⊢
  have W := Walks.strAscii (prog := prog) (w := w) hh s.heap.objs.size (Str.ofString "NBRQ") s.toks
  rw [nbrq_size] at W
  generalize hH1 : s.heap.push _ = H1 at hns₁ hsb₁ ⊢
  generalize hH2 : H1.push { cls := .type "list", dict := none, data := .seq ([] : List Value).toArray } = H2 at hns₁ hsb₁ ⊢
  have z1 : H1.objs.size = s.heap.objs.size + 1 := by rw [← hH1, Heap.size_push]
  have z2 : H2.objs.size = H1.objs.size + 1 := by rw [← hH2, Heap.size_push]
  have hDC : H1.objs.size ≠ H2.objs.size := neN (by omega)
  have hCI : H2.objs.size ≠ s.heap.objs.size := neN (by omega)
  have hDI : H1.objs.size ≠ s.heap.objs.size := neN (by omega)
  have up1 : ∀ b o, s.heap.get? b = some o → H1.get? b = some o := fun b o e => by rw [← hH1]; exact Heap.get?_push_of_some _ e
  have up2 : ∀ b o, H1.get? b = some o → H2.get? b = some o := fun b o e => by rw [← hH2]; exact Heap.get?_push_of_some _ e
  have up3 : ∀ b o, H2.get? b = some o → h₁.get? b = some o := fun b o e => hsb₁.extBut b o (fun q => by have := Heap.lt_size e; rw [q] at this; exact Nat.lt_irrefl _ this) (Heap.get?_push_of_some _ e)
  have old : ∀ b o, s.heap.get? b = some o → h₁.get? b = some o := fun b o e => up3 b o (up2 b o (up1 b o e))
  have hI1 : H1.get? s.heap.objs.size = some { cls := .type "str_ascii_iterator", data := .fields #[.str (Str.ofString "NBRQ") s.toks, .int 0 0] } := by rw [← hH1]; exact Heap.get?_push_size _ rfl
  have hI : h₁.IsStrIter s.heap.objs.size "str_ascii_iterator" (Str.ofString "NBRQ") s.toks 0 := ⟨_, up3 _ _ (up2 _ _ hI1), rfl, rfl⟩
  have hacc2 : H2.get? H1.objs.size = some (LCg.lst []) := by rw [← hH2]; exact Heap.get?_push_size _ rfl
  have hacc : h₁.get? H1.objs.size = some (LCg.lst []) := up3 _ _ hacc2
  have fresh : ∀ b, s.heap.objs.size ≤ b → s.heap.get? b = none := fun b hb => by
    cases q : s.heap.get? b with
    | none => rfl
    | some o => exact absurd (Heap.lt_size q) (Nat.not_lt.mpr hb)
  obtain ⟨oC, hC1⟩ := ns_some hns₁
  have loop : ∀ s₃ : Shared, (∃ tk, s₃ = { s with heap := h₁, toks := tk }) →
      codeAny (model prog w) A (.compLoop (PRX p1 p2 p3 p4 p5 p6 p7 p8 p9 q1 q2 k k1 k2 k3 k4 scope pos) 0 (.ref s.heap.objs.size) (.ref H1.objs.size) (compEnvC scope cl H2.objs.size env)) (compPost (model prog w) A E none Q (.ref H1.objs.size) H2.objs.size) s₃ := by
    rintro s₃ ⟨tk₀, rfl⟩
    refine loop2_0 (hs2 _) (fun n s' => ∃ h tk i ys m', s' = { s with heap := h, toks := tk } ∧ i ≤ 4 ∧ n = 5 - i ∧ h.IsStrIter s.heap.objs.size "str_ascii_iterator" (Str.ofString "NBRQ") s.toks i ∧ h.Ns H2.objs.size m' ∧ EL h₁ ys (2 * i) h ∧
      h.get? H1.objs.size = some (LCg.lst ys) ∧ (∀ b o, b ≠ s.heap.objs.size → b ≠ H2.objs.size → b ≠ H1.objs.size → h₁.get? b = some o → h.get? b = some o)) ?_ 5
      ⟨h₁, _, 0, [], _, rfl, Nat.zero_le _, rfl, hI, hns₁, ⟨rfl, fun _ _ q => nomatch q⟩, hacc, fun _ _ _ _ _ e => e⟩
    rintro n s' ⟨h, tk, i, ys, m', rfl, hi, rfl, hst, hn, hy, hD, hkp⟩
    by_cases hlt : i < 4
    · refine W.item i _ _ _ hlt hst fun v h₂ tk₁ hv hst₂ hk₂ => ?_
      obtain ⟨c, u, hc, rfl⟩ := hv
      have hmk : (⟨#[c]⟩ : PySem.Str) = mkN i := by unfold mkN; rw [hc]; rfl
      rw [hmk]
      have e1 : ∀ b o, b ≠ s.heap.objs.size → h.get? b = some o → h₂.get? b = some o := fun b o hb e => hk₂ b o (by simpa using hb) e
      show wpAny _ _ (pure ()) _ _ _
      refine wpAny_pure ?_
      refine wpAny_assign_Name (wpAny_storeName_local (lookup_relabel_local h2) (hn.at' fun o e => e1 _ o hCI e) (fun h₃ hn₃ hs₃ => ?_) (by simp [compEnvC, relabel, hk]))
      have hs₃' : Heap.SameBut H2.objs.size h₂ h₃ := hs₃
      refine Tuple_ (spliced_more (wpAny_Constant_str (k := k2) (pos := q1) (spliced_more (wpAny_Constant_str (k := k3) (pos := q2) (spliced_none (wpAny_newTuple ?_ (by show 2 ≤ sizeLine; rw [sizeLine_eq]; omega)))))))
      generalize hH4 : Heap.push h₃ _ = h₄
      have up4 : ∀ b o, h₃.get? b = some o → h₄.get? b = some o := fun b o e => by rw [← hH4]; exact Heap.get?_push_of_some _ e
      have s4 : h₄.objs.size = h₃.objs.size + 1 := by rw [← hH4, Heap.size_push]
      obtain ⟨ta, tb, g4⟩ : ∃ ta tb, h₄.get? h₃.objs.size = some (tupS E0 ta EQS tb) := ⟨_, _, by rw [← hH4]; exact Heap.get?_push_size _ rfl⟩
      have hT4 : h₄.IsTuple h₃.objs.size #[.str E0 ta, .str EQS tb] := ⟨_, g4, rfl, _, rfl⟩
      refine wpAny_pyIter_tuple hT4 ?_
      have e3 : ∀ b o, b ≠ s.heap.objs.size → b ≠ H2.objs.size → h.get? b = some o → h₃.get? b = some o := fun b o hb hc e => hs₃'.extBut b o hc (e1 b o hb e)
      have sub3 : ∀ b o, h₁.get? b = some o → ∃ o', h₃.get? b = some o' := fun b o e => by
        by_cases hbC : b = H2.objs.size
        · subst hbC; exact ns_some hn₃
        · by_cases hbI : b = s.heap.objs.size
          · obtain ⟨oI, x, _⟩ := hst₂
            exact ⟨oI, hbI ▸ hs₃'.extBut _ _ hCI.symm x⟩
          · by_cases hbD : b = H1.objs.size
            · exact ⟨_, hbD ▸ e3 _ _ hDI hDC hD⟩
            · exact ⟨o, e3 b o hbI hbC (hkp b o hbI hbC hbD e)⟩
      have sub4 : ∀ b o, h₁.get? b = some o → ∃ o', h₄.get? b = some o' := fun b o e => let ⟨o', x⟩ := sub3 b o e; ⟨o', up4 _ _ x⟩
      refine pro_inner (H := h₁) hh hlt hk h1 h2 (by show h₃.objs.size ≠ h₄.objs.size; rw [s4]; exact Nat.ne_of_lt (Nat.lt_succ_self _)) (fresh_of sub4) (by rw [hC1]; exact nofun) (by rw [hacc]; exact nofun) hDC (hn₃.at' fun o e => Heap.get?_push_of_some _ (up4 _ _ e)) (if_pos rfl)
        (ys := ys) (hy.keep fun b o q e c => Heap.get?_push_of_some _ (up4 _ _ (e3 b o (fun q' => ?_) (fun q' => ?_) e))) (Heap.get?_push_of_some _ (up4 _ _ (e3 _ _ hDI hDC hD))) (fun b o e => let ⟨o', x⟩ := sub4 b o e; ⟨o', Heap.get?_push_of_some _ x⟩) ⟨_, Heap.get?_push_size _ rfl, rfl, rfl⟩ (hT4.push _) (fresh_of sub3) ?_
      · rw [q', hI.choose_spec.1] at q; cases q
      · rw [q', hC1] at q; cases q
      intro h₆ tk₆ m₆ ys₆ hn₆ hy₆ hD₆ hk₆
      have e6 : ∀ b o, b ≠ s.heap.objs.size → b ≠ H2.objs.size → b ≠ H1.objs.size → h.get? b = some o → h₆.get? b = some o := fun b o hb hc hd e =>
        hk₆ b o (fun q => by have := Heap.lt_size (up4 _ _ (e3 b o hb hc e)); rw [q] at this; exact Nat.lt_irrefl _ this) hc hd (Heap.get?_push_of_some _ (up4 _ _ (e3 b o hb hc e)))
      refine ⟨.next, rfl, 5 - (i + 1), by omega, h₆, tk₆, i + 1, ys₆, m₆, rfl, hlt, rfl, ?_, hn₆, hy₆, hD₆, fun b o hb hc hd e => e6 b o hb hc hd (hkp b o hb hc hd e)⟩
      obtain ⟨oI, x, y⟩ := hst₂
      have x3 := hs₃'.extBut _ _ hCI.symm x
      exact ⟨oI, hk₆ _ _ (fun q => by have := Heap.lt_size (up4 _ _ x3); rw [q] at this; exact Nat.lt_irrefl _ this) hCI.symm hDI.symm (Heap.get?_push_of_some _ (up4 _ _ x3)), y⟩
    · have hi4 : i = 4 := by omega
      subst hi4
      refine W.done _ _ _ hst fun h₂ tk₂ hk₂ => ?_
      have e1 : ∀ b o, b ≠ s.heap.objs.size → h.get? b = some o → h₂.get? b = some o := fun b o hb e => hk₂ b o (by simpa using hb) e
      refine ⟨m', hn.at' fun o e => e1 _ o hCI e, fun h₇ hs₇ => ?_⟩
      have e7 : ∀ b o, b ≠ s.heap.objs.size → b ≠ H2.objs.size → h.get? b = some o → h₇.get? b = some o := fun b o hb hc e => hs₇.extBut b o hc (e1 b o hb e)
      have fr : ∀ b, h₁.get? b = none → s.heap.get? b = none := fun b q => by
        cases x : s.heap.get? b with
        | none => rfl
        | some o => rw [old b o x] at q; cases q
      refine hQ H1.objs.size h₇ tk₂ ys (fun b o e => ?_) (by rw [z1]; exact Nat.le_succ _) (e7 _ _ hDI hDC hD) ?_
      · have hb := Heap.lt_size e
        have n1 : b ≠ s.heap.objs.size := fun q => by rw [q] at hb; exact Nat.lt_irrefl _ hb
        have n2 : b ≠ H2.objs.size := fun q => by rw [q] at hb; exact absurd hb (by show ¬ @LT.lt Nat _ _ _; omega)
        have n3 : b ≠ H1.objs.size := fun q => by rw [q] at hb; exact absurd hb (by show ¬ @LT.lt Nat _ _ _; omega)
        exact e7 b o n1 n2 (hkp b o n1 n2 n3 (old b o e))
      · have hy7 : EL h₁ ys 8 h₇ := hy.keep fun b o q e c => e7 b o (fun q' => by rw [q', hI.choose_spec.1] at q; cases q) (fun q' => by rw [q', hC1] at q; cases q) e
        exact ⟨hy7.1, fun i v hv => let ⟨a, e, m, t1, t2, r1, r2, r3, r4⟩ := hy7.2 i v hv; ⟨a, e, m, t1, t2, r1, r2, fr _ r3, r4⟩⟩
  exact codeAny_compStart_list (loop _ ⟨_, rfl⟩) (W.self 0 _ _ _ hI (loop _ ⟨_, rfl⟩))
end

/-- pairs of texts in a list, as tuples of the tail -/
def PR (ys : List Value) (es : List (PySem.Str × PySem.Str)) (T : List (Addr × Obj)) : Prop :=
  ys.length = es.length ∧ ∀ (k : Nat) (v : Value) (e m : PySem.Str), ys[k]? = some v → es[k]? = some (e, m) → ∃ a t1 t2, v = Value.ref a ∧ (a, tupS e t1 m t2) ∈ T
theorem PR.sub {ys : List Value} {es : List (PySem.Str × PySem.Str)} {T T' : List (Addr × Obj)} (x : PR ys es T) (h : ∀ p ∈ T, p ∈ T') : PR ys es T' :=
  ⟨x.1, fun k v e m h1 h2 => let ⟨a, t1, t2, q1, q2⟩ := x.2 k v e m h1 h2; ⟨a, t1, t2, q1, h _ q2⟩⟩
theorem PR.cons {ys : List Value} {es : List (PySem.Str × PySem.Str)} {T : List (Addr × Obj)} {a : Addr} {e m : PySem.Str} {t1 t2 : Tok} (x : PR ys es T) (h : (a, tupS e t1 m t2) ∈ T) : PR (.ref a :: ys) ((e, m) :: es) T := by
  refine ⟨by rw [List.length_cons, List.length_cons, x.1], fun k v e' m' h1 h2 => ?_⟩
  cases k with
  | zero =>
    have e1 : v = .ref a := (Option.some.inj h1).symm
    have e2 : (e, m) = (e', m') := Option.some.inj h2
    obtain ⟨rfl, rfl⟩ := Prod.mk.inj e2
    exact ⟨a, t1, t2, e1, h⟩
  | succ k => exact x.2 k v e' m' h1 h2
theorem PR.nil {T : List (Addr × Obj)} : PR [] [] T := ⟨rfl, fun _ _ _ _ h => nomatch h⟩
def tailOf (h : Heap) (ys : List Value) : List (Addr × Obj) := ys.filterMap fun v => match v with | .ref a => (h.get? a).map fun o => (a, o) | _ => none
theorem EL.pr {H h : Heap} {ys : List Value} (x : EL H ys 8 h) : PR ys PRO (tailOf h ys) ∧ ∀ p ∈ tailOf h ys, h.get? p.1 = some p.2 ∧ H.get? p.1 = none ∧ p.2.cls = .type "tuple" := by
  refine ⟨⟨x.1, fun k v e m h1 h2 => ?_⟩, fun p hp => ?_⟩
  · obtain ⟨a, e', m', t1, t2, q1, q2, q3, q4⟩ := x.2 k v h1
    rw [h2] at q1
    obtain ⟨rfl, rfl⟩ := Prod.mk.inj (Option.some.inj q1)
    refine ⟨a, t1, t2, q2, List.mem_filterMap.mpr ⟨v, List.mem_of_getElem? h1, ?_⟩⟩
    rw [q2]
    show (h.get? a).map _ = _
    rw [q4]; rfl
  · obtain ⟨v, hv, q⟩ := List.mem_filterMap.mp hp
    obtain ⟨k, hk⟩ := List.mem_iff_getElem?.mp hv
    obtain ⟨a, e', m', t1, t2, q1, q2, q3, q4⟩ := x.2 k v hk
    rw [q2] at q
    have q' : (h.get? a).map (fun o => (a, o)) = some p := q
    rw [q4] at q'
    have q'' : (a, tupS e' t1 m' t2) = p := Option.some.inj q'
    rw [← q'']
    exact ⟨q4, q3, rfl⟩
section
variable {prog : Program} {w : World} {A : Around} {E : Value → Shared → Prop} {s : Shared} {env : Env} {scope : Scope} {cl : List (PySem.Str × Addr)} {pos : Pos} {p1 p2 p3 p4 p5 p6 p7 p8 p9 q1 q2 : Pos} {k k1 k2 k3 k4 : Nat}
theorem comp_K {h₀ : Heap} {L : Addr} {m : PySem.Str → Option Value} {news : List (Addr × Obj)} {Q : Value → Shared → Prop} (F : Fr h₀ L s.heap m) (N : News h₀ L s.heap news) (hh : A.handled = none) (hcl : closureFor scope env = pure cl) (hcell : ∀ y ∈ scope.names, y.2 ≠ .cell) (hk : scope.kind = .function)
    (hnames : ∀ y ∈ scope.names, y.2 = .local → scope.names.lookup y.1 = some .local) (h1 : scope.names.lookup (Str.ofString "sign") = some .local) (h2 : scope.names.lookup (Str.ofString "made") = some .local)
    (hs1 : ∀ x, foldedSetIterable (.Constant (.str (Str.ofString "NBRQ")) k1 p7) env x = pure x) (hs2 : ∀ C x, foldedSetIterable (.Tuple [.Constant (.str E0) k2 q1, .Constant (.str EQS) k3 q2] k4 p9) (compEnvC scope cl C env) x = pure x)
    (hQ : ∀ D h' tk ys T, Fr h₀ L h' m → News h₀ L h' ((D, listOf ys.toArray ys.length) :: (news ++ T)) → (∀ p ∈ news, p.1 < D) → PR ys PRO T → (∀ p ∈ T, p.2.cls = .type "tuple") → Q (.ref D) { s with heap := h', toks := tk }) :
    wpAny (model prog w) A (eval (PRX p1 p2 p3 p4 p5 p6 p7 p8 p9 q1 q2 k k1 k2 k3 k4 scope pos) env) Q E s := by
  refine comp_pro (s := { s with heap := s.heap }) hh hcl hcell hk hnames h1 h2 hs1 hs2 fun D h' tk ys hkp hDs hD' hy => ?_
  have hD : s.heap.get? D = none := by
    cases q : s.heap.get? D with
    | none => rfl
    | some o => exact absurd (Heap.lt_size q) (Nat.not_lt.mpr hDs)
  obtain ⟨x1, x2⟩ := EL.pr hy
  have fr : ∀ b, s.heap.get? b = none → h₀.get? b = none ∧ b ≠ L := fun b e => by
    refine ⟨?_, fun q => ?_⟩
    · cases z : h₀.get? b with
      | none => rfl
      | some o => rw [F.keep b o z] at e; cases e
    · obtain ⟨o, _, _, z, _⟩ := F.ns
      rw [q, z] at e; cases e
  refine hQ D h' tk ys (tailOf h' ys) (F.after hkp) (fun p hp => ?_) (fun p hp => ?_) x1 fun p hp => (x2 p hp).2.2
  · rcases List.mem_cons.mp hp with rfl | hp
    · exact ⟨hD', (fr _ hD).2, (fr _ hD).1⟩
    · rcases List.mem_append.mp hp with hp | hp
      · exact ⟨hkp _ _ (N p hp).1, (N p hp).2⟩
      · have z := x2 p hp
        exact ⟨z.1, (fr _ z.2.1).2, (fr _ z.2.1).1⟩
  · exact Nat.lt_of_lt_of_le (Heap.lt_size (N p hp).1) hDs
end

def EndsJ (gE : Heap) (L' : Addr) (me : PySem.Str → Option Value) (es : List (PySem.Str × PySem.Str)) (X tl : List (Addr × Obj)) (s : Shared) (f : Flow) (s' : Shared) : Prop :=
  f = .next ∧ ∃ h' n' a evs c tl2, s' = { s with heap := h', toks := n' } ∧ Fr gE L' h' (fun y => if y = Str.ofString "ends" then some (.ref a) else me y) ∧ News gE L' h' ((a, listOf evs.toArray c) :: (X ++ tl2)) ∧ (∀ p ∈ X, p.1 < a) ∧ (∀ p ∈ tl, p ∈ tl2) ∧ PR evs es tl2 ∧ (∀ p ∈ tl2, p.2.cls = .type "tuple")
abbrev menL (t0 t1 t2 t3 t4 t5 : Tok) (c : Nat) : Obj := listOf #[.str (Str.ofString "") t0, .str (Str.ofString "B") t1, .str (Str.ofString "K") t2, .str (Str.ofString "N") t3, .str (Str.ofString "Q") t4, .str (Str.ofString "R") t5] c
theorem PR.len {ys : List Value} {es : List (PySem.Str × PySem.Str)} {T : List (Addr × Obj)} (x : PR ys es T) : ys.length = es.length := x.1
section
variable {prog : Program} {w : World} {A : Around} {E : Value → Shared → Prop} {s : Shared} {h₀ : Heap} {L a b : Addr} {m : PySem.Str → Option Value} {news : List (Addr × Obj)} {xs ys : List Value} {n n' : Nat} {Q : Value → Shared → Prop}
theorem cat_K (F : Fr h₀ L s.heap m) (N : News h₀ L s.heap news) (ha : (a, listOf xs.toArray n) ∈ news) (hb : (b, listOf ys.toArray n') ∈ news) (hz : xs.length + ys.length ≤ 100)
    (h : ∀ D h', Fr h₀ L h' m → News h₀ L h' ((D, listOf (xs ++ ys).toArray 0) :: news) → (∀ p ∈ news, p.1 < D) → Q (.ref D) { s with heap := h' }) : wpAny (model prog w) A (binaryOp .Add (.ref a) (.ref b)) Q E s :=
  add_lists F N (N.isList ha) (N.isList hb) (fun h' F' N' => h _ h' F' N' fun p hp => Heap.lt_size (N p hp).1) (by rw [sizeLine_eq]; omega)
end
theorem endsJ_1 {gE h' : Heap} {L' : Addr} {me : PySem.Str → Option Value} {mn : PySem.Str} {a a0 : Addr} {ys : List Value} {T tl : List (Addr × Obj)} {Y1 Y2 X1 X2 X3 X4 : Addr × Obj} {t0 t1 : Tok} {s : Shared} {n' : Nat}
    (hE : mn = E0) (F : Fr gE L' h' (fun y => if y = Str.ofString "ends" then some (.ref a) else me y)) (N : News gE L' h' ((a, listOf ([Value.ref a0] ++ ys).toArray 0) :: Y1 :: Y2 :: (a0, tupS E0 t0 E0 t1) :: X1 :: X2 :: X3 :: X4 :: (tl ++ T)))
    (hpr : PR ys PRO T) (hct : ∀ p ∈ T, p.2.cls = .type "tuple") (hcl : ∀ p ∈ tl, p.2.cls = .type "tuple") (h1 : @LT.lt Nat _ X1.1 a) (h2 : @LT.lt Nat _ X2.1 a) (h3 : @LT.lt Nat _ X3.1 a) (h4 : @LT.lt Nat _ X4.1 a) :
    EndsJ gE L' me (endsOf mn) [X1, X2, X3, X4] tl s .next { s with heap := h', toks := n' } := by
  have he : endsOf mn = (E0, E0) :: PRO := by unfold endsOf; rw [if_pos hE]
  rw [he]
  refine ⟨rfl, h', n', a, [Value.ref a0] ++ ys, 0, (a0, tupS E0 t0 E0 t1) :: (tl ++ T), rfl, F, fun p hp => N p ?_, ?_, fun p hp => .tail _ (List.mem_append_left _ hp), PR.cons (hpr.sub fun p hp => .tail _ (List.mem_append_right _ hp)) (.head _), ?_⟩
  · simp only [List.mem_cons, List.cons_append, List.nil_append] at hp ⊢
    grind
  · intro p hp
    simp only [List.mem_cons, List.not_mem_nil, or_false] at hp
    rcases hp with h | h | h | h <;> (rw [h]; assumption)
  · intro p hp
    rcases List.mem_cons.mp hp with e | hp
    · rw [e]
    · rcases List.mem_append.mp hp with hp | hp
      · exact hcl p hp
      · exact hct p hp
theorem endsJ_2 {gE h' : Heap} {L' : Addr} {me : PySem.Str → Option Value} {mn : PySem.Str} {a a0 : Addr} {tl : List (Addr × Obj)} {Y1 Y2 X1 X2 X3 X4 : Addr × Obj} {t0 t1 : Tok} {s : Shared} {n' : Nat}
    (hE : mn ≠ E0) (F : Fr gE L' h' (fun y => if y = Str.ofString "ends" then some (.ref a) else me y)) (N : News gE L' h' ((a, listOf ([Value.ref a0] ++ []).toArray 0) :: Y1 :: Y2 :: (a0, tupS E0 t0 E0 t1) :: X1 :: X2 :: X3 :: X4 :: tl))
    (hcl : ∀ p ∈ tl, p.2.cls = .type "tuple") (h1 : @LT.lt Nat _ X1.1 a) (h2 : @LT.lt Nat _ X2.1 a) (h3 : @LT.lt Nat _ X3.1 a) (h4 : @LT.lt Nat _ X4.1 a) :
    EndsJ gE L' me (endsOf mn) [X1, X2, X3, X4] tl s .next { s with heap := h', toks := n' } := by
  have he : endsOf mn = [(E0, E0)] := by unfold endsOf; rw [if_neg hE]
  rw [he]
  refine ⟨rfl, h', n', a, [Value.ref a0], 0, (a0, tupS E0 t0 E0 t1) :: tl, rfl, F, fun p hp => N p ?_, ?_, fun p hp => .tail _ hp, PR.cons PR.nil (.head _), ?_⟩
  · simp only [List.mem_cons, List.cons_append, List.nil_append] at hp ⊢
    grind
  · intro p hp
    simp only [List.mem_cons, List.not_mem_nil, or_false] at hp
    rcases hp with h | h | h | h <;> (rw [h]; assumption)
  · intro p hp
    rcases List.mem_cons.mp hp with e | hp
    · rw [e]
    · exact hcl p hp
theorem PR.at {ys : List Value} {es : List (PySem.Str × PySem.Str)} {T : List (Addr × Obj)} (x : PR ys es T) {k : Nat} {v : Value} (h : ys[k]? = some v) : ∃ e m a t1 t2, es[k]? = some (e, m) ∧ v = Value.ref a ∧ (a, tupS e t1 m t2) ∈ T := by
  have hk : k < es.length := by
    rw [← x.1]
    rcases Nat.lt_or_ge k ys.length with q | q
    · exact q
    · rw [List.getElem?_eq_none q] at h; cases h
  have he : es[k]? = some (es[k].1, es[k].2) := List.getElem?_eq_getElem hk
  obtain ⟨a, t1, t2, q1, q2⟩ := x.2 k v _ _ h he
  exact ⟨_, _, a, t1, t2, he, q1, q2⟩
theorem objs1 {I : Addr} {n : String} {its : List (Addr × Obj)} (h : Objs [(I, n)] its) : ∃ o, its = [(I, o)] ∧ o.cls = .type n := by
  cases its with
  | nil => exact (show False from h).elim
  | cons p r =>
    cases r with
    | nil => exact ⟨p.2, by rw [← show p.1 = I from h.1.1], h.1.2⟩
    | cons q r => exact (show False from h.2).elim
theorem ends_len {man : PySem.Str} {k : Nat} {e m : PySem.Str} (h : (endsOf man)[k]? = some (e, m)) : e.length ≤ 2 ∧ m.length ≤ 1 := by
  have h2 : (e, m) ∈ (E0, E0) :: PRO := by
    have := List.mem_of_getElem? h
    unfold endsOf at this
    rcases List.mem_cons.mp this with q | q
    · rw [q]; exact .head _
    · by_cases hm : man = E0
      · rw [if_pos hm] at q; exact .tail _ q
      · rw [if_neg hm] at q; exact absurd q List.not_mem_nil
  have all : ∀ p ∈ (E0, E0) :: PRO, p.1.length ≤ 2 ∧ p.2.length ≤ 1 := by decide +kernel
  exact all _ h2
abbrev mk2 (a11 : Addr) (mn : PySem.Str) (tm : Tok) (mm : PySem.Str → Option Value) : PySem.Str → Option Value := fun y => if y = Str.ofString "ends" then some (Value.ref a11) else if y = Str.ofString "man" then some (Value.str mn tm) else mm y
def wNames2 : List PySem.Str := ["rank", "file", "end", "made", "inner", "cross", "ahead", "goal"].map Str.ofString
theorem name_map {h₀ h : Heap} {L : Addr} {m : PySem.Str → Option Value} (F : Fr h₀ L h m) : ∃ mm, mm = m ∧ Fr h₀ L h mm := ⟨m, rfl, F⟩
def wNames3 : List PySem.Str := ["cross", "ahead", "goal"].map Str.ofString
def crN (j : Nat) : PySem.Str := if j = 0 then E0 else XS
theorem cr_at {t u : Tok} {j : Nat} {v : Value} (h : [Value.str E0 t, Value.str XS u][j]? = some v) : j < 2 ∧ ∃ t', v = .str (crN j) t' := by
  match j, h with
  | 0, h => exact ⟨by omega, t, (Option.some.inj h).symm⟩
  | 1, h => exact ⟨by omega, u, (Option.some.inj h).symm⟩
  | n + 2, h => simp at h
theorem crN_len (j : Nat) : (crN j).length ≤ 1 := by
  unfold crN; split <;> decide +kernel
theorem cr_get {j : Nat} (h : j < 2) : [E0, XS][j]? = some (crN j) := by
  match j, h with
  | 0, _ => rfl
  | 1, _ => rfl
theorem wayE_no {fs rs : Int} {x man : PySem.Str} {em : PySem.Str × PySem.Str} (h : x ≠ man ++ innerF x man em.1 ++ em.1 ∨ (x.length : Int) < (man.length : Int) + em.1.length + 2) : wayE fs rs x man em = [] := if_pos h
theorem wayE_yes {fs rs : Int} {x man : PySem.Str} {em : PySem.Str × PySem.Str} (h1 : x = man ++ innerF x man em.1 ++ em.1) (h2 : ¬ (x.length : Int) < (man.length : Int) + em.1.length + 2) : wayE fs rs x man em = [E0, XS].flatMap (wayC fs rs man em.2 (innerF x man em.1)) := by
  unfold wayE
  rw [if_neg (fun h => h.elim (fun q => q h1) h2)]
  simp
theorem news_dup {h₀ h : Heap} {L : Addr} {p : Addr × Obj} {l : List (Addr × Obj)} (N : News h₀ L h l) (hm : p ∈ l) : News h₀ L h (p :: l) := fun q hq => by
  rcases List.mem_cons.mp hq with e | hq
  · rw [e]; exact N p hm
  · exact N q hq
section
variable {prog : Program} {w : World} {A : Around} {E : Value → Shared → Prop} {s : Shared} {h₀ : Heap} {L D : Addr} {o : Obj} {news tl : List (Addr × Obj)} {kvs : List (PySem.Str × Value)} {x : PySem.Str} {t : Tok} {Q : Value → Shared → Prop}
theorem notin_split (N : News h₀ L s.heap news) (hm : (D, o) ∈ news) (hd : o.IsDictOf (PySem.strKind prog w) kvs) (lo : (D == sysModules) = false) (hO : OrigAll kvs tl)
    (h1 : cutF x = none → Q (.bool true) { s with toks := s.toks + 1 })
    (h2 : ∀ f r a tf tr, cutF x = some (f, r) → valueAt kvs x = some (.ref a) → (a, tup2 f tf r tr) ∈ tl → Q (.bool false) { s with toks := s.toks + 1 }) :
    wpAny (model prog w) A (compareOp .NotIn (.str x t) (.ref D)) Q E s := by
  cases hc : cutF x with
  | none => exact kdg_notin N hm hd lo (strKind_is _ _ _ _) false (by rw [hO.no x hc]; rfl) (h1 hc)
  | some p =>
    obtain ⟨f, r⟩ := p
    obtain ⟨a, tf, tr, q1, q2⟩ := hO.yes x f r hc
    exact kdg_notin N hm hd lo (strKind_is _ _ _ _) true (by rw [q1]; rfl) (h2 f r a tf tr hc q1 q2)
end
end
section
theorem rsM8b : True := by first | (w_top off; walk1) | trivial
abbrev wBase (x : PySem.Str) (fs rs : Int) (t1 t2 tx : Tok) (D : Addr) : PySem.Str → Option Value := fun y => if y = Str.ofString "origins" then some (Value.ref D) else List.lookup y [(Str.ofString "text", Value.str x tx), (Str.ofString "files", Value.int fs t1), (Str.ofString "ranks", Value.int rs t2)].reverse
abbrev wB (x : PySem.Str) (fs rs : Int) (t1 t2 tx : Tok) (D Fd : Addr) : PySem.Str → Option Value := fun y => if y = Str.ofString "found" then some (Value.ref Fd) else wBase x fs rs t1 t2 tx D y
def wNames : List PySem.Str := ["rank", "file", "man", "ends", "end", "made", "inner", "cross", "ahead", "goal"].map Str.ofString
theorem overL_off {v mm : PySem.Str → Option Value} : ∀ {names : List PySem.Str} {y : PySem.Str}, y ∉ names → overL v mm names y = mm y
  | [], _, _ => rfl
  | n :: r, y, h => by
    show (if y = n then v n else overL v mm r y) = mm y
    rw [if_neg (fun e : y = n => h (by rw [e]; exact .head _)), overL_off fun q => h (.tail _ q)]
theorem Agree.over {v mm : PySem.Str → Option Value} {names : List PySem.Str} : Agree names mm (overL v mm names) := fun _ h => overL_off h
theorem Agree.ite {mm f : PySem.Str → Option Value} {names : List PySem.Str} {n : PySem.Str} {v : Option Value} (hn : n ∈ names) (h : Agree names mm f) : Agree names mm (fun y => if y = n then v else f y) := fun y hy => by
  show (if y = n then v else f y) = mm y
  rw [if_neg (fun e : y = n => hy (by rw [e]; exact hn)), h y hy]
theorem Agree.trans {a b c : PySem.Str → Option Value} {n1 n2 : List PySem.Str} (h1 : Agree n1 b c) (hs : ∀ y ∈ n1, y ∈ n2) (h2 : Agree n2 a b) : Agree n2 a c := fun y hy => (h1 y fun q => hy (hs y q)).trans (h2 y hy)
theorem agree_mk2 {a11 : Addr} {mn : PySem.Str} {tm : Tok} {m9 mm : PySem.Str → Option Value} : Agree wNames2 (mk2 a11 mn tm mm) (fun y => if y = Str.ofString "ends" then some (Value.ref a11) else if y = Str.ofString "man" then some (Value.str mn tm) else overL m9 mm wNames y) := fun y hy => by
  show (if y = _ then _ else if y = _ then _ else _) = if y = _ then _ else if y = _ then _ else _
  by_cases h1 : y = Str.ofString "ends"
  · rw [if_pos h1, if_pos h1]
  · rw [if_neg h1, if_neg h1]
    by_cases h2 : y = Str.ofString "man"
    · rw [if_pos h2, if_pos h2]
    · rw [if_neg h2, if_neg h2]
      refine overL_off fun q => ?_
      simp only [wNames, wNames2, List.map, List.mem_cons, List.not_mem_nil, or_false, not_or] at q hy
      simp only [h1, h2, hy.1, hy.2.1, hy.2.2.1, hy.2.2.2.1, hy.2.2.2.2.1, hy.2.2.2.2.2.1, hy.2.2.2.2.2.2.1, hy.2.2.2.2.2.2.2, or_false] at q
theorem agree_back {a11 : Addr} {mn : PySem.Str} {tm : Tok} {m mm : PySem.Str → Option Value} (h : Agree wNames2 (mk2 a11 mn tm mm) m) : Agree wNames mm m := fun y hy => by
  simp only [wNames, List.map, List.mem_cons, List.not_mem_nil, or_false, not_or] at hy
  obtain ⟨h1, h2, h3, h4, h5, h6, h7, h8, h9, h10⟩ := hy
  rw [h y (by simp only [wNames2, List.map, List.mem_cons, List.not_mem_nil, or_false, not_or]; exact ⟨h1, h2, h5, h6, h7, h8, h9, h10⟩)]
  show (if y = _ then _ else if y = _ then _ else _) = _
  rw [if_neg h4, if_neg h3]
theorem FoundR.turn {α : Type} {A d : List Dat} {es : List α} {f : α → List Dat} {j : Nat} {a : α} {fvs : List Value} {tl : List (Addr × Obj)} (hR : FoundR fvs (A ++ (es.take j).flatMap f ++ d) tl) (h : es[j]? = some a) (e : f a = d) : FoundR fvs (A ++ (es.take (j + 1)).flatMap f) tl := by
  rw [flat_take f es j h, e, ← List.append_assoc]; exact hR
theorem FoundR.turn0 {α : Type} {A : List Dat} {es : List α} {f : α → List Dat} {j : Nat} {a : α} {fvs : List Value} {tl : List (Addr × Obj)} (hR : FoundR fvs (A ++ (es.take j).flatMap f) tl) (h : es[j]? = some a) (e : f a = []) : FoundR fvs (A ++ (es.take (j + 1)).flatMap f) tl :=
  FoundR.turn (by rw [List.append_nil]; exact hR) h e
theorem tup_ne {p : Addr × Obj} {c : Value} (h : p.2.cls = .type "tuple") (hc : c ≠ .type "tuple") : p.2.cls ≠ c := fun e => hc (e ▸ h)
theorem allLt_at {d : Addr} : ∀ {l : List (Addr × Obj)}, AllLt d l → ∀ p ∈ l, p.1 ≠ d
  | [], _, _, h => nomatch h
  | q :: r, x, p, h => by
    rcases List.mem_cons.mp h with rfl | h
    · exact Nat.ne_of_lt x.1
    · exact allLt_at x.2 p h
section
variable {gE h' : Heap} {L' I Fd D : Addr} {oI o : Obj} {fvs : List Value} {c : Nat} {tl X all : List (Addr × Obj)} {kp : Addr × Obj} {m' mm : PySem.Str → Option Value} {names : List PySem.Str} {ds : List Dat} {kvs : List (PySem.Str × Value)} {P : List (Addr × Obj) → Prop} {s₁ : Shared} {tk : Nat}
theorem wj_off (N : News gE L' h' all) (hI : (I, oI) ∈ all) (hoI : oI.cls ≠ .type "tuple") (sub : ∀ p ∈ X ++ (Fd, listOf fvs.toArray c) :: (D, o) :: tl, p ∈ all) (hlt : AllLt I (X ++ [(Fd, o), (D, o)])) (hcl : ∀ p ∈ tl, p.2.cls = .type "tuple") :
    ∀ p ∈ X ++ (Fd, listOf fvs.toArray c) :: (D, o) :: tl, p.1 ≠ I := by
  intro p hp
  have h0 := allLt_at hlt
  have hp' := sub p hp
  rcases List.mem_append.mp hp with hp | hp
  · exact h0 p (List.mem_append_left _ hp)
  rcases List.mem_cons.mp hp with e | hp
  · subst e; exact h0 (Fd, o) (List.mem_append_right _ (.head _))
  rcases List.mem_cons.mp hp with e | hp
  · subst e; exact h0 (D, o) (List.mem_append_right _ (.tail _ (.head _)))
  intro e
  have h1 := (N _ hp').1
  have h2 := (N _ hI).1
  rw [e] at h1
  exact tup_ne (hcl p hp) hoI (congrArg Obj.cls (Option.some.inj (h1.symm.trans h2)))
theorem endW (F : Fr gE L' h' m') (N : News gE L' h' all) (hI : (I, oI) ∈ all) (hoI : oI.cls ≠ .type "tuple")
    (sub : ∀ p ∈ (kp :: X) ++ (Fd, listOf fvs.toArray c) :: (D, o) :: tl, p ∈ all) (hlt : AllLt I ((kp :: X) ++ [(Fd, o), (D, o)])) (hA : Agree names mm m') (hO : OrigAll kvs tl) (hR : FoundR fvs ds tl) (hcl : ∀ p ∈ tl, p.2.cls = .type "tuple") (hP : P tl) :
    UnrEndW gE L' s₁ [(I, oI)] (fun m' n' => SubL [kp] n' ∧ WJ D Fd o kvs (kp :: X) P names mm ds m' n') { s₁ with heap := h', toks := tk } :=
  ⟨h', tk, m', (kp :: X) ++ (Fd, listOf fvs.toArray c) :: (D, o) :: tl, rfl, F, fun p hp => by
    rcases List.mem_append.mp hp with hp | hp
    · rw [List.mem_singleton.mp hp]; exact N _ hI
    · exact N p (sub p hp), fun p hp q hq => by
    rw [List.mem_singleton.mp hq]
    exact wj_off N hI hoI sub hlt hcl p hp, ⟨List.mem_append_left _ (.head _), trivial⟩, ⟨fvs, c, tl, hA, fun p hp => hp, hO, hR, hcl, hP⟩⟩
theorem endL (F : Fr gE L' h' m') (N : News gE L' h' all) (hI : (I, oI) ∈ all) (hoI : oI.cls ≠ .type "tuple") (hkp : kp ∈ all) (hkl : @LT.lt Nat _ kp.1 I)
    (sub : ∀ p ∈ (Fd, listOf fvs.toArray c) :: (D, o) :: tl, p ∈ all) (hlt : AllLt I [(Fd, o), (D, o)]) (hA : Agree names mm m') (hO : OrigAll kvs tl) (hR : FoundR fvs ds tl) (hcl : ∀ p ∈ tl, p.2.cls = .type "tuple") (hP : P tl) :
    UnrEnd gE L' s₁ I oI (fun m' n' => kp ∈ n' ∧ WJ D Fd o kvs [] P names mm ds m' n') { s₁ with heap := h', toks := tk } := by
  have h0 := wj_off (X := []) N hI hoI sub hlt hcl
  refine UnrEnd.intro F N (kp :: (Fd, listOf fvs.toArray c) :: (D, o) :: tl) (fun p hp => ?_) (fun p hp => ?_) ⟨.head _, fvs, c, tl, hA, fun p hp => .tail _ hp, hO, hR, hcl, hP⟩
  · rcases List.mem_cons.mp hp with rfl | hp
    · exact hI
    rcases List.mem_cons.mp hp with rfl | hp
    · exact hkp
    exact sub p hp
  · rcases List.mem_cons.mp hp with rfl | hp
    · exact Nat.ne_of_lt hkl
    · exact h0 p hp
end
theorem mem_drop1 {α : Type} {p x : α} {X a b : List α} (h : p ∈ X ++ a) (f : ∀ q ∈ X, q ∈ b) (g : ∀ q ∈ a, q ∈ b) : p ∈ b := by
  rcases List.mem_append.mp h with h | h
  · exact f p h
  · exact g p h
theorem iter_ne {o : Obj} {n : String} (h : o.cls = .type n) (hn : n ≠ "tuple") : o.cls ≠ .type "tuple" := by
  rw [h]; intro e; exact hn (Value.type.inj e)
theorem neq_of {x y : PySem.Str} (h : (x != y) = true) : x ≠ y := by simpa using h
theorem eq_of_neq {x y : PySem.Str} (h : (x != y) = false) : x = y := by simpa using h
theorem wayE_n1 {fs rs : Int} {x mn en md : PySem.Str} (h : (x != mn ++ Txt.slice x (some ↑mn.length) (some (↑x.length - ↑en.length)) ++ en) = true) : wayE fs rs x mn (en, md) = [] := wayE_no (.inl (neq_of h))
theorem wayE_n2 {fs rs : Int} {x mn en md : PySem.Str} (h : (x.length : Int) < (mn.length : Int) + en.length + 2) : wayE fs rs x mn (en, md) = [] := wayE_no (.inr h)
theorem wayE_y {fs rs : Int} {x mn en md : PySem.Str} (h : (x != mn ++ Txt.slice x (some ↑mn.length) (some (↑x.length - ↑en.length)) ++ en) = false) (h2 : ¬ (x.length : Int) < (mn.length : Int) + en.length + 2) : wayE fs rs x mn (en, md) = [E0, XS].flatMap (wayC fs rs mn md (innerF x mn en)) := wayE_yes (eq_of_neq h) h2
theorem mem_s9 {α : Type} {p a b c d e f g y1 y2 : α} {r : List α} (h : p ∈ [a, b, c, d, e] ++ f :: g :: r) : p ∈ a :: y1 :: b :: y2 :: c :: d :: e :: f :: g :: r := by
  simp only [List.cons_append, List.nil_append, List.mem_cons] at h ⊢
  grind
theorem Agree.overE {v mm lit : PySem.Str → Option Value} {names : List PySem.Str} (h : mm = lit) : Agree names mm (overL v lit names) := by
  rw [h]; exact Agree.over
section
variable {fs rs fi ra f r : Int} {x mn md en inner ah cr : PySem.Str}
theorem wayC_some {inner : PySem.Str} (hc : cutF (aheadF inner cr) = some (f, r)) : wayC fs rs mn md inner cr = if aheadF inner cr ++ cr ≠ Txt.slice inner none (some (-2)) ∨ fileF fs inner < 0 ∨ rankF rs inner < 0 then []
    else if mn ≠ E0 ∨ cr = E0 ∨ 0 ≤ f then [(menK mn, f, r, decide (cr = XS), rankF rs inner * fs + fileF fs inner, becK md)] else [] := by
  unfold wayC; rw [hc]
theorem wayC_none {inner : PySem.Str} (hc : cutF (aheadF inner cr) = none) : wayC fs rs mn md inner cr = [] := by
  unfold wayC; rw [hc]
theorem wayC_bad {inner : PySem.Str} (h : aheadF inner cr ++ cr ≠ Txt.slice inner none (some (-2)) ∨ fileF fs inner < 0 ∨ rankF rs inner < 0) : wayC fs rs mn md inner cr = [] := by
  cases hc : cutF (aheadF inner cr) with
  | none => exact wayC_none hc
  | some p => rw [wayC_some hc, if_pos h]
theorem inner_eq (hin : Txt.slice x (some ↑mn.length) (some (↑x.length - ↑en.length)) = inner) : innerF x mn en = inner := by unfold innerF; exact hin
theorem ahead_eq (hah : Txt.slice inner none (some (↑inner.length - 2 - ↑cr.length)) = ah) : aheadF inner cr = ah := by unfold aheadF; exact hah
theorem file_eq (hfi : Txt.find (Txt.slice (Str.ofString "abcdefgh") none (some fs)) (Txt.slice inner (some (-2)) (some (-1))) = fi) : fileF fs inner = fi := by unfold fileF; exact hfi
theorem rank_eq (hra : Txt.find (Txt.slice (Str.ofString "12345678") none (some rs)) (Txt.slice inner (some (-1)) none) = ra) : rankF rs inner = ra := by unfold rankF; exact hra
theorem wayC_n0 (hin : Txt.slice x (some ↑mn.length) (some (↑x.length - ↑en.length)) = inner) (hah : Txt.slice inner none (some (↑inner.length - 2 - ↑cr.length)) = ah) (hc : cutF ah = none) : wayC fs rs mn md (innerF x mn en) cr = [] := by
  rw [inner_eq hin]
  exact wayC_none (by rw [ahead_eq hah]; exact hc)
theorem wayC_n1 (hin : Txt.slice x (some ↑mn.length) (some (↑x.length - ↑en.length)) = inner) (hah : Txt.slice inner none (some (↑inner.length - 2 - ↑cr.length)) = ah) (h : (ah ++ cr != Txt.slice inner none (some (-2))) = true) : wayC fs rs mn md (innerF x mn en) cr = [] := by
  rw [inner_eq hin]
  exact wayC_bad (.inl (by rw [ahead_eq hah]; exact neq_of h))
theorem wayC_n2 (hin : Txt.slice x (some ↑mn.length) (some (↑x.length - ↑en.length)) = inner) (hfi : Txt.find (Txt.slice (Str.ofString "abcdefgh") none (some fs)) (Txt.slice inner (some (-2)) (some (-1))) = fi) (h : fi < 0) : wayC fs rs mn md (innerF x mn en) cr = [] := by
  rw [inner_eq hin]
  exact wayC_bad (.inr (.inl (by rw [file_eq hfi]; exact h)))
theorem wayC_n3 (hin : Txt.slice x (some ↑mn.length) (some (↑x.length - ↑en.length)) = inner) (hra : Txt.find (Txt.slice (Str.ofString "12345678") none (some rs)) (Txt.slice inner (some (-1)) none) = ra) (h : ra < 0) : wayC fs rs mn md (innerF x mn en) cr = [] := by
  rw [inner_eq hin]
  exact wayC_bad (.inr (.inr (by rw [rank_eq hra]; exact h)))
theorem wayC_eq (hin : Txt.slice x (some ↑mn.length) (some (↑x.length - ↑en.length)) = inner) (hah : Txt.slice inner none (some (↑inner.length - 2 - ↑cr.length)) = ah) (hc : cutF ah = some (f, r)) (h1 : (ah ++ cr != Txt.slice inner none (some (-2))) = false)
    (hfi : Txt.find (Txt.slice (Str.ofString "abcdefgh") none (some fs)) (Txt.slice inner (some (-2)) (some (-1))) = fi) (hra : Txt.find (Txt.slice (Str.ofString "12345678") none (some rs)) (Txt.slice inner (some (-1)) none) = ra) (h2 : ¬ fi < 0) (h3 : ¬ ra < 0) :
    wayC fs rs mn md (innerF x mn en) cr = if mn ≠ E0 ∨ cr = E0 ∨ 0 ≤ f then [(menK mn, f, r, decide (cr = XS), ra * fs + fi, becK md)] else [] := by
  rw [inner_eq hin, wayC_some (by rw [ahead_eq hah]; exact hc), ahead_eq hah, file_eq hfi, rank_eq hra, if_neg]
  rintro (q | q | q)
  · exact q (eq_of_neq h1)
  · exact h2 q
  · exact h3 q
end
/-- what a test says; only the tokens move -/
def BJ (P : Prop) (s₁ : Shared) (b : Bool) (s' : Shared) : Prop := (b = true ↔ P) ∧ ∃ n', s' = { s₁ with toks := n' }
theorem bj_yes {P : Prop} {s₁ : Shared} {n : Nat} (h : P) : BJ P s₁ true { s₁ with toks := n } := ⟨⟨fun _ => h, fun _ => rfl⟩, n, rfl⟩
theorem bj_no {P : Prop} {s₁ : Shared} {n : Nat} (h : ¬ P) : BJ P s₁ false { s₁ with toks := n } := ⟨⟨nofun, fun q => (h q).elim⟩, n, rfl⟩
theorem tup_get {h₀ h : Heap} {L a : Addr} {news : List (Addr × Obj)} {x y : Value} (N : News h₀ L h news) (hm : (a, { cls := .type "tuple", data := .seq [x, y].toArray }) ∈ news) : IsTup h a [x, y].toArray := News.isTup N hm
section
variable {prog : Program} {w : World} {A : Around} {E : Value → Shared → Prop} {s : Shared} {h₀ : Heap} {L : Addr} {news : List (Addr × Obj)}
theorem item2_0 {value slice : PySem.Expr} {a : Addr} {x y : Value} {u : Tok} {Q : Value → Shared → Prop} (N : News h₀ L s.heap news) (hm : (a, { cls := .type "tuple", data := .seq #[x, y] }) ∈ news) (h : Q x s)
    (hs : subscripted slice false (.ref a) (.int 0 u) = operate [.ref a, .int 0 u] (getItem (.ref a) (.int 0 u)) := by with_unfolding_all rfl) :
    wpAny (model prog w) A (subscriptTail value slice (.ref a) (.int 0 u)) Q E s :=
  item_tupleT (l := [x, y]) (j := 0) (News.isTup N hm) (by decide) (by decide) rfl rfl h hs
end
theorem mem_c9 {α : Type} {p a b c d e f g y1 : α} {r : List α} (h : p ∈ [a, b, c, d, e] ++ f :: g :: r) : p ∈ y1 :: a :: b :: c :: d :: e :: f :: g :: r := .tail _ h
theorem mem_c9' {α : Type} {p a b c d e f g y1 y2 : α} {r : List α} (h : p ∈ [a, b, c, d, e] ++ f :: g :: r) : p ∈ y2 :: y1 :: a :: b :: c :: d :: e :: f :: g :: r := .tail _ (.tail _ h)
theorem mem_e9 {α : Type} {p i a b c d e f : α} {r : List α} (h : p ∈ [b, c, d] ++ e :: f :: r) : p ∈ i :: a :: b :: c :: d :: e :: f :: r := .tail _ (.tail _ h)
theorem FoundR.turnE {fs rs : Int} {x mn : PySem.Str} {fvs evs : List Value} {tl : List (Addr × Obj)} {i : Nat} (hR : FoundR fvs ((MEN.take i).flatMap (wayM fs rs x) ++ ((endsOf mn).take evs.length).flatMap (wayE fs rs x mn)) tl) (hl : evs.length = (endsOf mn).length) (h : MEN[i]? = some mn) : FoundR fvs ((MEN.take (i + 1)).flatMap (wayM fs rs x)) tl := by
  rw [hl, List.take_length] at hR
  rw [flat_take (wayM fs rs x) MEN i h]
  exact hR
end
section
theorem rsM8c : True := by first | (w_top off; walk1) | trivial
section
local macro_rules | `(tactic| walk_at "eval Dict") => `(tactic| (k_here; (k_dflt (refine' kdn_str ?q ?F ?N ?b ?a ?l ?e ?n ?_; (case q => rfl); (case F => k_asm); (case N => first | k_asm | exact News.nil); (case b => exact Top.nolimit (by k_asm)); (case a => rfl); (case l => rfl); (case e => exact List.cons_ne_nil _ _); (case n => exact Nat.le_of_ble_eq_true rfl))); intro d' h' o' F' N' l1 lo' hd'; (try k_lt l1)))
theorem men_vals {t0 t1 t2 t3 t4 t5 u0 u1 u2 u3 u4 u5 : Tok} : ∀ mn ∈ MEN, ∃ t, valueAt (strPairs [(Value.str (Str.ofString "") t0, Value.int 1 u0), (Value.str (Str.ofString "N") t1, Value.int 2 u1), (Value.str (Str.ofString "B") t2, Value.int 3 u2), (Value.str (Str.ofString "R") t3, Value.int 4 u3), (Value.str (Str.ofString "Q") t4, Value.int 5 u4), (Value.str (Str.ofString "K") t5, Value.int 6 u5)]) mn = some (.int (menK mn) t) := by
  intro mn h
  simp only [MEN, List.mem_cons, List.not_mem_nil, or_false] at h
  rcases h with h | h | h | h | h | h <;> (subst h; exact ⟨_, rfl⟩)
def BEC : List PySem.Str := [E0, Str.ofString "N", Str.ofString "B", Str.ofString "R", Str.ofString "Q"]
theorem bec_vals {t0 t1 t2 t3 t4 u0 u1 u2 u3 u4 : Tok} : ∀ mn ∈ BEC, ∃ t, valueAt (strPairs [(Value.str (Str.ofString "") t0, Value.int 0 u0), (Value.str (Str.ofString "N") t1, Value.int 2 u1), (Value.str (Str.ofString "B") t2, Value.int 3 u2), (Value.str (Str.ofString "R") t3, Value.int 4 u3), (Value.str (Str.ofString "Q") t4, Value.int 5 u4)]) mn = some (.int (becK mn) t) := by
  intro mn h
  simp only [BEC, List.mem_cons, List.not_mem_nil, or_false] at h
  rcases h with h | h | h | h | h <;> (subst h; exact ⟨_, rfl⟩)
theorem kp_new1 {p : Addr × Obj} {P : Addr × Obj → Prop} (k : ∀ q ∈ [p], P q) : P p := k p (.head _)
set_option maxHeartbeats 1000000 in
theorem men_ctr (w : World) (mean : ExcName → Option Value) (mg mb : Str → Option Value) :
  ∀ (dp un : Nat) (gd : Option (List Code)) (cn : Str) (cs : Scope) (a : Addr) (ccd : Value) (cl : List (Str × Addr)) (outer : List Env) (A₀ : Around) (base h₀ : Heap) (L : Addr) (m : Str → Option Value) (s : Shared) (Q E : Value → Shared → Prop),
    Below A₀ base outer h₀ → Fr h₀ L s.heap m → (Mine.hd.heap_39 w.params).In h₀ → Top Mine.look (looseW Mine.look []) mean mg mb h₀ → cs.kind = .function → dp + 4 < recursionLimit → un + 100 < cLine →
    (∀ d o kvs h' tk', Kp s.heap h' → s.heap.get? d = none → h'.get? d = some o → o.IsDictOf (PySem.strKind PySem.Challenge.pw_pf0092_01 w) kvs → (d == sysModules) = false → (∀ mn ∈ MEN, ∃ t, valueAt kvs mn = some (.int (menK mn) t)) → Q (.ref d) { s with heap := h', toks := tk' }) →
    wpAny (model PySem.Challenge.pw_pf0092_01 w) (ktrTop dp un gd cn cs L a ccd cl outer) (call (.ref 114) []) Q E s := by
  (have e9 : PySem.Challenge.rw_pf0092_01 = PySem.Challenge.rw_pf0092_01 := rfl); revert e9; k_fill; intro _
  intro dp un gd cn cs a ccd cl outer A₀ base h₀ L m s Q E B F X T hk hd hu hret
  refine wpAny_call ?_
  k_dflt (refine' enterG (news := []) (binds := []) ?k1 ?k2 ?k3 ?k4 ?k5 ?kA ?kF ?kK ?k6 ?k7 ?k8 ?k9 ?kB ?_ ?c2 ?c3 ?c4 ?c5; (case kA => exact rfl); (case kF => exact rfl); (case kK => assumption); (case k1 => k_asm); (case k2 => k_asm); (case k3 => k_asm); (case k4 => first | exact News.nil | k_asm); (case k5 => k_asm); (case k6 => k_is); (case k7 => k_is); (case k8 => ktr_room); (case k9 => exact BindsTo.of_eq rfl); (case c5 => decide); (case kB => exact locs rfl); (case c2 => exact rfl); (case c3 => exact rfl); (case c4 => exact rfl); k_whole; intro gE L' h' hgE hgS FG' F' N' B' X' T' lE; (try dsimp only); (try k_fold))
  clear B F X T
  replace hgE : Kp s.heap gE := fun b o e => hgE b o e (fun q => nomatch q)
  clear lE
  repeat' (first | ((fail_if_success (with_reducible show LeaveK _ _ _ _ _ _ _)); first | (k_unfold; (try dsimp only)) | walk1 | (dsimp only; walk1) | (dsimp only; k_unfold; (try dsimp only)) | (dsimp +zetaDelta only)) | fail "no step")
  dsimp only
  k_unfold
  dsimp only
  rename_i hd9 _
  refine leave_pureN (by k_asm) (by k_asm) hgE (fun hk9 hN9 => ?_)
  dsimp only
  exact hret _ _ _ _ _ hk9 (kp_new1 hN9).2 (kp_new1 hN9).1 hd9 (by with_reducible assumption) men_vals
set_option maxHeartbeats 1000000 in
theorem bec_ctr (w : World) (mean : ExcName → Option Value) (mg mb : Str → Option Value) :
  ∀ (dp un : Nat) (gd : Option (List Code)) (cn : Str) (cs : Scope) (a : Addr) (ccd : Value) (cl : List (Str × Addr)) (outer : List Env) (A₀ : Around) (base h₀ : Heap) (L : Addr) (m : Str → Option Value) (s : Shared) (Q E : Value → Shared → Prop),
    Below A₀ base outer h₀ → Fr h₀ L s.heap m → (Mine.hd.heap_39 w.params).In h₀ → Top Mine.look (looseW Mine.look []) mean mg mb h₀ → cs.kind = .function → dp + 4 < recursionLimit → un + 100 < cLine →
    (∀ d o kvs h' tk', Kp s.heap h' → s.heap.get? d = none → h'.get? d = some o → o.IsDictOf (PySem.strKind PySem.Challenge.pw_pf0092_01 w) kvs → (d == sysModules) = false → (∀ mn ∈ BEC, ∃ t, valueAt kvs mn = some (.int (becK mn) t)) → Q (.ref d) { s with heap := h', toks := tk' }) →
    wpAny (model PySem.Challenge.pw_pf0092_01 w) (ktrTop dp un gd cn cs L a ccd cl outer) (call (.ref 121) []) Q E s := by
  (have e9 : PySem.Challenge.rw_pf0092_01 = PySem.Challenge.rw_pf0092_01 := rfl); revert e9; k_fill; intro _
  intro dp un gd cn cs a ccd cl outer A₀ base h₀ L m s Q E B F X T hk hd hu hret
  refine wpAny_call ?_
  k_dflt (refine' enterG (news := []) (binds := []) ?k1 ?k2 ?k3 ?k4 ?k5 ?kA ?kF ?kK ?k6 ?k7 ?k8 ?k9 ?kB ?_ ?c2 ?c3 ?c4 ?c5; (case kA => exact rfl); (case kF => exact rfl); (case kK => assumption); (case k1 => k_asm); (case k2 => k_asm); (case k3 => k_asm); (case k4 => first | exact News.nil | k_asm); (case k5 => k_asm); (case k6 => k_is); (case k7 => k_is); (case k8 => ktr_room); (case k9 => exact BindsTo.of_eq rfl); (case c5 => decide); (case kB => exact locs rfl); (case c2 => exact rfl); (case c3 => exact rfl); (case c4 => exact rfl); k_whole; intro gE L' h' hgE hgS FG' F' N' B' X' T' lE; (try dsimp only); (try k_fold))
  clear B F X T
  replace hgE : Kp s.heap gE := fun b o e => hgE b o e (fun q => nomatch q)
  clear lE
  repeat' (first | ((fail_if_success (with_reducible show LeaveK _ _ _ _ _ _ _)); first | (k_unfold; (try dsimp only)) | walk1 | (dsimp only; walk1) | (dsimp only; k_unfold; (try dsimp only)) | (dsimp +zetaDelta only)) | fail "no step")
  dsimp only
  k_unfold
  dsimp only
  rename_i hd9 _
  refine leave_pureN (by k_asm) (by k_asm) hgE (fun hk9 hN9 => ?_)
  dsimp only
  exact hret _ _ _ _ _ hk9 (kp_new1 hN9).2 (kp_new1 hN9).1 hd9 (by with_reducible assumption) bec_vals
theorem bec_of {mn : PySem.Str} {j : Nat} {en md : PySem.Str} (h : (endsOf mn)[j]? = some (en, md)) : md ∈ BEC := by
  have h2 := List.mem_of_getElem? h
  have all : ∀ p ∈ (E0, E0) :: PRO, p.2 ∈ BEC := by decide +kernel
  refine all (en, md) ?_
  unfold endsOf at h2
  rcases List.mem_cons.mp h2 with q | q
  · rw [q]; exact .head _
  · by_cases hm : mn = E0
    · rw [if_pos hm] at q; exact .tail _ q
    · rw [if_neg hm] at q; exact absurd q List.not_mem_nil
end
end
section
theorem rsM8d : True := by first | (w_top off; walk1) | trivial
section
variable {prog : Program} {w : World} {A : Around} {E : Value → Shared → Prop} {s : Shared} {h₀ : Heap} {L D a b : Addr} {m : PySem.Str → Option Value} {news : List (Addr × Obj)} {xs ys : List Value} {n : Nat} {v : Value} {Q : Value → Shared → Prop}
theorem addT_K (F : Fr h₀ L s.heap m) (N : News h₀ L s.heap news) (ha : (a, { cls := .type "tuple", data := .seq xs.toArray }) ∈ news) (hb : (b, { cls := .type "tuple", data := .seq ys.toArray }) ∈ news) (hx : xs ≠ []) (hy : ys ≠ []) (hz : xs.length + ys.length ≤ 100)
    (h : ∀ D h', Fr h₀ L h' m → News h₀ L h' ((D, ({ cls := .type "tuple", data := .seq (xs ++ ys).toArray } : Obj)) :: news) → (∀ p ∈ news, p.1 < D) → Q (.ref D) { s with heap := h' }) : wpAny (model prog w) A (binaryOp .Add (.ref a) (.ref b)) Q E s :=
  kde_addT F N (N.isTup ha) (N.isTup hb) hx hy (Nat.le_trans hz (by decide)) rfl h
theorem getK {o : Obj} {kvs : List (PySem.Str × Value)} {x : PySem.Str} {t : Tok} (N : News h₀ L s.heap news) (hp : (D, o) ∈ news) (hd : o.IsDictOf (PySem.strKind prog w) kvs) (hl : valueAt kvs x = some v) (h : Q v { s with toks := s.toks + 1 }) : wpAny (model prog w) A (getItem (.ref D) (.str x t)) Q E s :=
  wpAny_getItem_of (strKind_is _ _ _ _) (kda_dict N hp hd).mapOf hl h
theorem app_K (F : Fr h₀ L s.heap m) (N : News h₀ L s.heap news) (hm : (D, listOf xs.toArray n) ∈ news) (hz : xs.length ≤ 16384)
    (h : ∀ h' n', Fr h₀ L h' m → (∀ l, (∀ p ∈ l, p = (D, listOf (xs ++ [v]).toArray n') ∨ (p ∈ news ∧ (p.1 ≠ D ∨ p.2.cls ≠ .type "list"))) → News h₀ L h' l) → Q .none { s with heap := h' }) :
    wpAny (model prog w) A (call (.builtin "list.append") [.ref D, v]) Q E s := by
  have z := N _ hm
  refine append_at (its := xs.toArray) (n := n) (hsz := by rw [sizeLine_eq, List.size_toArray]; omega) z.1 fun h' hs hD => ?_
  refine h h' (n + 1) (F.change hs z.2.1 z.2.2) fun l hl p hp => ?_
  rcases hl p hp with e | ⟨hn, e⟩
  · rw [e]
    refine ⟨hD.trans (congrArg some ?_), z.2⟩
    show ({ cls := .type "list", data := .seq (xs.toArray.push v) (n + 1) } : Obj) = { cls := .type "list", data := .seq (xs ++ [v]).toArray (n + 1) }
    rw [List.push_toArray]
  · refine ⟨hs.extBut _ _ (fun q => ?_) (N p hn).1, (N p hn).2⟩
    rcases e with e | e
    · exact e q
    · have h1 := (N p hn).1
      rw [q, z.1] at h1
      exact e (by rw [← Option.some.inj h1])
end
theorem cls_list {o : Obj} {n : String} (h : o.cls = .type n) (hn : n ≠ "list" := by decide) : o.cls ≠ .type "list" := by
  rw [h]; intro e; exact hn (Value.type.inj e)
theorem flat_len {α β : Type} {f : α → List β} {k : Nat} (h : ∀ a, (f a).length ≤ k) : ∀ l : List α, (l.flatMap f).length ≤ k * l.length
  | [] => Nat.zero_le _
  | a :: l => by
    rw [List.flatMap_cons, List.length_append, List.length_cons, Nat.mul_succ]
    have := h a
    have := flat_len h l
    omega
theorem flat_take_len {α β : Type} {f : α → List β} {k m : Nat} (h : ∀ a, (f a).length ≤ k) (l : List α) (i : Nat) (hl : l.length ≤ m) : ((l.take i).flatMap f).length ≤ k * m := by
  refine Nat.le_trans (flat_len h _) (Nat.mul_le_mul_left _ ?_)
  rw [List.length_take]
  omega
theorem wayC_len (fs rs : Int) (man made inner cross : PySem.Str) : (wayC fs rs man made inner cross).length ≤ 1 := by
  unfold wayC
  split
  · exact Nat.zero_le _
  · split
    · exact Nat.zero_le _
    · split
      · exact Nat.le_refl _
      · exact Nat.zero_le _
theorem wayE_len (fs rs : Int) (x man : PySem.Str) (em : PySem.Str × PySem.Str) : (wayE fs rs x man em).length ≤ 2 := by
  unfold wayE
  split
  · exact Nat.zero_le _
  · rw [List.length_append]
    have := wayC_len fs rs man em.2 (innerF x man em.1) E0
    have := wayC_len fs rs man em.2 (innerF x man em.1) XS
    omega
theorem ends_length (man : PySem.Str) : (endsOf man).length ≤ 9 := by
  unfold endsOf
  split
  · exact Nat.le_refl _
  · exact Nat.le_of_ble_eq_true rfl
theorem wayM_len (fs rs : Int) (x man : PySem.Str) : (wayM fs rs x man).length ≤ 2 * 9 := by
  unfold wayM
  have := flat_len (wayE_len fs rs x man) (endsOf man)
  have := ends_length man
  omega
theorem found_len {fs rs : Int} {x mn md inner : PySem.Str} {i j k : Nat} {fvs : List Value} {tl : List (Addr × Obj)} (hR : FoundR fvs ((MEN.take i).flatMap (wayM fs rs x) ++ ((endsOf mn).take j).flatMap (wayE fs rs x mn) ++ ([E0, XS].take k).flatMap (wayC fs rs mn md inner)) tl) : fvs.length ≤ 16384 := by
  rw [hR.1, List.length_append, List.length_append]
  have h1 := flat_take_len (m := 6) (wayM_len fs rs x) MEN i (Nat.le_refl _)
  have h2 := flat_take_len (m := 9) (wayE_len fs rs x mn) (endsOf mn) j (ends_length mn)
  have h3 := flat_take_len (m := 2) (wayC_len fs rs mn md inner) [E0, XS] k (Nat.le_refl _)
  omega
end
section
theorem rsP1 : True := by first | (w_top off; walk1) | trivial
/-- a text of these signs -/
def S (l : List Nat) : PySem.Str := ⟨l.toArray⟩
theorem S_of (x : PySem.Str) : x = S x.cps.toList := by
  obtain ⟨⟨l⟩⟩ := x; rfl
theorem S_inj {a b : List Nat} (h : S a = S b) : a = b := by
  have : (S a).cps.toList = (S b).cps.toList := by rw [h]
  exact this
theorem S_len (l : List Nat) : (S l).length = l.length := rfl
theorem S_app (a b : List Nat) : S a ++ S b = S (a ++ b) := by
  show PySem.Str.mk (a.toArray ++ b.toArray) = _
  rw [List.append_toArray]; rfl
def clipN (v : Option Int) (d n : Nat) : Nat := match v with | none => d | some i => (max 0 (min (if i < 0 then i + (n : Int) else i) (n : Int))).toNat
theorem range_pick (l : List Nat) (lo : Nat) : ∀ m, lo + m ≤ l.length → ((List.range m).map fun (k : Nat) => lo + k).filterMap (fun i => l[i]?) = (l.take (lo + m)).drop lo
  | 0, _ => by simp
  | m + 1, h => by
    rw [List.range_succ, List.map_append, List.filterMap_append, range_pick l lo m (by omega)]
    have hlt : lo + m < l.length := by omega
    rw [← Nat.add_assoc, List.take_add_one, List.getElem?_eq_getElem hlt, List.drop_append_of_le_length (by rw [List.length_take]; omega)]
    simp [List.getElem?_eq_getElem hlt]
theorem sliceRange_nat (A B : Nat) : sliceRange (A : Int) (B : Int) 1 = (List.range (B - A)).map fun (k : Nat) => A + k := by
  unfold sliceRange
  simp only [show (1 : Int) > 0 from by decide, if_true]
  have c1 : (if (A : Int) < (B : Int) then ((B : Int) - (A : Int) + 1 - 1) / 1 else 0).toNat = B - A := by
    split <;> (try rw [Int.ediv_one]) <;> omega
  rw [c1]
  refine List.map_congr_left fun k _ => ?_
  omega
theorem clip_eq (i : Int) (d n : Nat) : max 0 (min (if i < 0 then i + (n : Int) else i) (n : Int)) = ((clipN (some i) d n : Nat) : Int) := by
  unfold clipN; simp only []; omega
theorem indices_nat (lo hi : Option Int) (n : Nat) : Builtin.Str.strSliceIndices lo hi 1 n = (List.range (clipN hi n n - clipN lo 0 n)).map fun (k : Nat) => clipN lo 0 n + k := by
  rw [← sliceRange_nat]
  cases lo with
  | none =>
    cases hi with
    | none => rfl
    | some j => rw [← clip_eq]; rfl
  | some i =>
    cases hi with
    | none => rw [← clip_eq]; rfl
    | some j => rw [← clip_eq, ← clip_eq]; rfl
theorem slice_gen (l : List Nat) (lo hi : Option Int) : Txt.slice (S l) lo hi = S ((l.take (clipN hi l.length l.length)).drop (clipN lo 0 l.length)) := by
  have key := indices_nat lo hi (S l).length
  rw [S_len] at key
  have hle : clipN hi l.length l.length ≤ l.length := by
    unfold clipN; split <;> omega
  have hlo : clipN lo 0 l.length ≤ l.length := by
    unfold clipN; split <;> omega
  unfold Txt.slice
  rw [S_len, key]
  generalize clipN lo 0 l.length = A at hlo
  generalize clipN hi l.length l.length = B at hle
  split
  · rename_i h
    rw [List.length_map, List.length_range] at h
    have h' : B - A = l.length := by simpa using h
    by_cases hl : l.length = 0
    · rw [List.length_eq_zero_iff.mp hl]; simp
    · have hA : A = 0 := by omega
      have hB : B = l.length := by omega
      rw [hA, hB, List.take_length]; rfl
  · by_cases hAB : A ≤ B
    · have z := range_pick l A (B - A) (by omega)
      rw [show A + (B - A) = B from by omega] at z
      rw [← z]; 
      show PySem.Str.mk (List.filterMap (fun x => (l.toArray)[x]?) _).toArray = PySem.Str.mk _
      simp only [List.getElem?_toArray]
    · rw [show B - A = 0 from by omega, List.drop_eq_nil_of_le (by rw [List.length_take]; omega)]
      rfl
end
section
theorem rsP2 : True := by first | (w_top off; walk1) | trivial
theorem tk {l : List Nat} {a b : Nat} (h : min a l.length = min b l.length) : l.take a = l.take b := List.take_eq_take_iff.mpr h
theorem dp {l : List Nat} {a b : Nat} (h : min a l.length = min b l.length) : l.drop a = l.drop b := by
  by_cases h1 : a < l.length
  · have : a = b := by omega
    rw [this]
  · rw [List.drop_eq_nil_of_le (by omega), List.drop_eq_nil_of_le (by omega)]
theorem clip_nn {d n : Nat} : clipN none d n = d := rfl
theorem clip_nat {k d n : Nat} : clipN (some (k : Int)) d n = min k n := by unfold clipN; simp only []; omega
theorem clip_neg {k d n : Nat} (h : 0 < k) : clipN (some (-(k : Int))) d n = n - k := by unfold clipN; simp only []; omega
theorem sl_to {l : List Nat} (k : Nat) : Txt.slice (S l) none (some (k : Int)) = S (l.take k) := by
  rw [slice_gen, clip_nat, clip_nn, List.drop_zero]; congr 1; exact tk (by omega)
theorem sl_from {l : List Nat} (k : Nat) : Txt.slice (S l) (some (k : Int)) none = S (l.drop k) := by
  rw [slice_gen, clip_nat, clip_nn, List.take_length]; congr 1; exact dp (by omega)
theorem sl_nto {l : List Nat} (k : Nat) (h : 0 < k) : Txt.slice (S l) none (some (-(k : Int))) = S (l.take (l.length - k)) := by
  rw [slice_gen, clip_neg h, clip_nn, List.drop_zero]
theorem sl_nfrom {l : List Nat} (k : Nat) (h : 0 < k) : Txt.slice (S l) (some (-(k : Int))) none = S (l.drop (l.length - k)) := by
  rw [slice_gen, clip_neg h, clip_nn, List.take_length]
theorem sl_1 {l : List Nat} : Txt.slice (S l) none (some 1) = S (l.take 1) := sl_to 1
theorem sl_1_ {l : List Nat} : Txt.slice (S l) (some 1) none = S (l.drop 1) := sl_from 1
theorem sl_m1 {l : List Nat} {c : Nat} : Txt.slice (S (l ++ [c])) none (some (-1)) = S l := by
  refine (sl_nto 1 (by decide)).trans ?_; congr 1; rw [List.length_append]; exact List.take_left
theorem sl_m1_ {l : List Nat} {c : Nat} : Txt.slice (S (l ++ [c])) (some (-1)) none = S [c] := by
  refine (sl_nfrom 1 (by decide)).trans ?_; congr 1; rw [List.length_append]; exact List.drop_left
theorem sl_m2 {l : List Nat} {c d : Nat} : Txt.slice (S (l ++ [c, d])) none (some (-2)) = S l := by
  refine (sl_nto 2 (by decide)).trans ?_; congr 1; rw [List.length_append]; exact List.take_left
theorem sl_m2_ {l : List Nat} {c d : Nat} : Txt.slice (S (l ++ [c, d])) (some (-2)) none = S [c, d] := by
  refine (sl_nfrom 2 (by decide)).trans ?_; congr 1; rw [List.length_append]; exact List.drop_left
theorem sl_m21 {l : List Nat} {c d : Nat} : Txt.slice (S (l ++ [c, d])) (some (-2)) (some (-1)) = S [c] := by
  have h := slice_gen (l ++ [c, d]) (some (-((2 : Nat) : Int))) (some (-((1 : Nat) : Int)))
  rw [clip_neg (by decide), clip_neg (by decide)] at h
  refine h.trans ?_
  congr 1
  rw [show (l ++ [c, d]).length - 1 = (l ++ [c]).length from by simp, show l ++ [c, d] = (l ++ [c]) ++ [d] from by simp, List.take_left, show ((l ++ [c]) ++ [d]).length - 2 = l.length from by simp, List.drop_left]
theorem sl_m1r {l : List Nat} {c d : Nat} : Txt.slice (S (l ++ [c, d])) (some (-1)) none = S [d] := by
  rw [show l ++ [c, d] = (l ++ [c]) ++ [d] from by simp]; exact sl_m1_
theorem S_E0 : S [] = E0 := by decide +kernel
theorem S_XS : S [120] = XS := by decide +kernel
theorem S_EQS : S [61] = EQS := by decide +kernel
theorem fls_list : FLS.cps.toList = [97, 98, 99, 100, 101, 102, 103, 104] := by decide +kernel
theorem rds_list : RDS.cps.toList = [49, 50, 51, 52, 53, 54, 55, 56] := by decide +kernel
theorem sub_one (D : PySem.Str) (c : Nat) : Sub D (S [c]) = decide (c ∈ D.cps.toList) := StrLaws.found_one D c
theorem find_none {D : PySem.Str} {c : Nat} (h : c ∉ D.cps.toList) : Txt.find D (S [c]) = -1 := by
  have z := sub_one D c
  rw [decide_eq_false h] at z
  unfold Txt.find
  cases q : Builtin.Str.occurrences D (S [c]) 0 D.length 1 with
  | nil => rfl
  | cons i r => unfold Sub at z; rw [q] at z; cases z
theorem find_fls : ∀ k : Fin 8, ∀ c ∈ FLS.cps.toList, Txt.find (Txt.slice FLS none (some ((k.val + 1 : Nat) : Int))) (S [c]) = (if Txt.find FLS (S [c]) < ((k.val + 1 : Nat) : Int) then Txt.find FLS (S [c]) else -1) ∧ 0 ≤ Txt.find FLS (S [c]) := by decide +kernel
theorem find_rds : ∀ k : Fin 8, ∀ c ∈ RDS.cps.toList, Txt.find (Txt.slice RDS none (some ((k.val + 1 : Nat) : Int))) (S [c]) = (if Txt.find RDS (S [c]) < ((k.val + 1 : Nat) : Int) then Txt.find RDS (S [c]) else -1) ∧ 0 ≤ Txt.find RDS (S [c]) := by decide +kernel
theorem slice_sub {D : PySem.Str} {k : Nat} {c : Nat} (h : c ∈ (Txt.slice D none (some (k : Int))).cps.toList) : c ∈ D.cps.toList := by
  rw [S_of D, sl_to] at h
  exact List.mem_of_mem_take (show c ∈ D.cps.toList.take k from h)
theorem find_cutF {fs : Int} (h1 : 1 ≤ fs) (h8 : fs ≤ 8) (c : Nat) : (Txt.find (Txt.slice FLS none (some fs)) (S [c]) < 0 ↔ Txt.find FLS (S [c]) < 0 ∨ fs ≤ Txt.find FLS (S [c])) ∧ (0 ≤ Txt.find (Txt.slice FLS none (some fs)) (S [c]) → Txt.find (Txt.slice FLS none (some fs)) (S [c]) = Txt.find FLS (S [c])) := by
  obtain ⟨k, hk⟩ : ∃ k : Fin 8, fs = ((k.val + 1 : Nat) : Int) := ⟨⟨(fs - 1).toNat, by omega⟩, by show fs = (((fs - 1).toNat + 1 : Nat) : Int); omega⟩
  subst hk
  by_cases hc : c ∈ FLS.cps.toList
  · obtain ⟨q, q0⟩ := find_fls k c hc
    rw [q]
    split <;> constructor <;> omega
  · have e1 := find_none hc
    have e2 := find_none (D := Txt.slice FLS none (some ((k.val + 1 : Nat) : Int))) (fun h => hc (slice_sub h))
    rw [e1, e2]
    constructor <;> omega
theorem find_cutR {fs : Int} (h1 : 1 ≤ fs) (h8 : fs ≤ 8) (c : Nat) : (Txt.find (Txt.slice RDS none (some fs)) (S [c]) < 0 ↔ Txt.find RDS (S [c]) < 0 ∨ fs ≤ Txt.find RDS (S [c])) ∧ (0 ≤ Txt.find (Txt.slice RDS none (some fs)) (S [c]) → Txt.find (Txt.slice RDS none (some fs)) (S [c]) = Txt.find RDS (S [c])) := by
  obtain ⟨k, hk⟩ : ∃ k : Fin 8, fs = ((k.val + 1 : Nat) : Int) := ⟨⟨(fs - 1).toNat, by omega⟩, by show fs = (((fs - 1).toNat + 1 : Nat) : Int); omega⟩
  subst hk
  by_cases hc : c ∈ RDS.cps.toList
  · obtain ⟨q, q0⟩ := find_rds k c hc
    rw [q]
    split <;> constructor <;> omega
  · have e1 := find_none hc
    have e2 := find_none (D := Txt.slice RDS none (some ((k.val + 1 : Nat) : Int))) (fun h => hc (slice_sub h))
    rw [e1, e2]
    constructor <;> omega
theorem item_0 (c : Nat) (t : List Nat) : Txt.item (S (c :: t)) 0 = S [c] := by
  unfold Txt.item Txt.charAt
  have : seqIndex? 0 (S (c :: t)).length = some 0 := by
    rw [S_len]; unfold seqIndex?; simp
  rw [this]; rfl
theorem item_1 (c d : Nat) : Txt.item (S [c, d]) 1 = S [d] := rfl
theorem S_ne {c : Nat} {t : List Nat} : S (c :: t) ≠ E0 := by
  rw [← S_E0]; intro h; exact List.cons_ne_nil _ _ (S_inj h)
theorem cutA_nil (D : PySem.Str) : cutA D (S []) = (-1, S []) := cutA_no1 (by rw [sl_1]; exact S_E0)
theorem cutA_in {D : PySem.Str} {c : Nat} {t : List Nat} (h : c ∈ D.cps.toList) : cutA D (S (c :: t)) = (Txt.find D (S [c]), S t) := by
  rw [cutA_yes (by rw [sl_1]; exact S_ne) (by rw [item_0, sub_one]; exact decide_eq_true h), item_0, sl_1_]; rfl
theorem cutA_out {D : PySem.Str} {c : Nat} {t : List Nat} (h : c ∉ D.cps.toList) : cutA D (S (c :: t)) = (-1, S (c :: t)) := cutA_no2 (by rw [item_0, sub_one]; exact decide_eq_false h)
theorem cutF_spec {l : List Nat} {p : Int × Int} (h : cutF (S l) = some p) : l = [] ∨ (∃ c, c ∈ FLS.cps.toList ∧ l = [c]) ∨ (∃ d, d ∈ RDS.cps.toList ∧ l = [d]) ∨ ∃ c d, c ∈ FLS.cps.toList ∧ d ∈ RDS.cps.toList ∧ l = [c, d] := by
  unfold cutF at h
  have key : (cutA RDS (cutA FLS (S l)).2).2 = E0 := by
    by_cases q : (cutA RDS (cutA FLS (S l)).2).2 = E0
    · exact q
    · rw [if_neg q] at h; cases h
  clear h
  have fin : ∀ t : List Nat, (cutA RDS (S t)).2 = E0 → t = [] ∨ ∃ d, d ∈ RDS.cps.toList ∧ t = [d] := by
    intro t ht
    cases t with
    | nil => exact .inl rfl
    | cons d u =>
      by_cases hd : d ∈ RDS.cps.toList
      · rw [cutA_in hd] at ht
        cases u with
        | nil => exact .inr ⟨d, hd, rfl⟩
        | cons e v => exact absurd ht S_ne
      · rw [cutA_out hd] at ht; exact absurd ht S_ne
  cases l with
  | nil => exact .inl rfl
  | cons c t =>
    by_cases hc : c ∈ FLS.cps.toList
    · rw [cutA_in hc] at key
      rcases fin t key with rfl | ⟨d, hd, rfl⟩
      · exact .inr (.inl ⟨c, hc, rfl⟩)
      · exact .inr (.inr (.inr ⟨c, d, hc, hd, rfl⟩))
    · rw [cutA_out hc] at key
      rcases fin _ key with e | ⟨d, hd, e⟩
      · cases e
      · exact .inr (.inr (.inl ⟨d, hd, e⟩))
theorem cutF_chars {l : List Nat} {p : Int × Int} (h : cutF (S l) = some p) : ∀ c ∈ l, c ∈ FLS.cps.toList ∨ c ∈ RDS.cps.toList := by
  rcases cutF_spec h with rfl | ⟨c, hc, rfl⟩ | ⟨d, hd, rfl⟩ | ⟨c, d, hc, hd, rfl⟩
  · intro c h; cases h
  · intro c h; rw [List.mem_singleton.mp h]; exact .inl hc
  · intro c h; rw [List.mem_singleton.mp h]; exact .inr hd
  · intro c h
    rcases List.mem_cons.mp h with h | h
    · rw [h]; exact .inl hc
    · rw [List.mem_singleton.mp h]; exact .inr hd
theorem fln_of : ∀ c ∈ FLS.cps.toList, ∃ i, i < 8 ∧ S [c] = FLN i := by
  have : ∀ c ∈ FLS.cps.toList, ∃ i : Fin 8, S [c] = FLN i.val := by decide +kernel
  exact fun c h => let ⟨i, e⟩ := this c h; ⟨i.val, i.isLt, e⟩
theorem rdn_of : ∀ c ∈ RDS.cps.toList, ∃ i, i < 8 ∧ S [c] = RDN i := by
  have : ∀ c ∈ RDS.cps.toList, ∃ i : Fin 8, S [c] = RDN i.val := by decide +kernel
  exact fun c h => let ⟨i, e⟩ := this c h; ⟨i.val, i.isLt, e⟩
theorem cut_dom {k : PySem.Str} {p : Int × Int} (h : cutF k = some p) : domA 8 k := by
  rw [S_of k] at h ⊢
  generalize k.cps.toList = l at h
  rcases cutF_spec h with rfl | ⟨c, hc, rfl⟩ | ⟨d, hd, rfl⟩ | ⟨c, d, hc, hd, rfl⟩
  · exact .inl S_E0
  · obtain ⟨i, hi, e⟩ := fln_of c hc
    exact .inr ⟨i, hi, .inl e⟩
  · obtain ⟨i, hi, e⟩ := rdn_of d hd
    exact .inr ⟨0, by decide, .inr ⟨i, hi, .inl e⟩⟩
  · obtain ⟨i, hi, e⟩ := fln_of c hc
    obtain ⟨j, hj, e'⟩ := rdn_of d hd
    refine .inr ⟨i, hi, .inr ⟨j, hj, .inr ?_⟩⟩
    rw [← e, ← e', S_app]; rfl
theorem orig_all {kvs : List (PySem.Str × Value)} {n : Nat} {tups : List (Addr × Obj)} (h : OrigK kvs n (domA 8) tups) : OrigAll kvs tups := by
  refine ⟨fun k hk => ?_, fun k f r hk => ?_⟩
  · cases q : valueAt kvs k with
    | none => rfl
    | some v =>
      obtain ⟨a, f, r, tf, tr, _, e, _⟩ := h.sound k v q
      rw [hk] at e; cases e
  · cases q : valueAt kvs k with
    | none => exact absurd q (h.full k (cut_dom hk))
    | some v =>
      obtain ⟨a, f', r', tf, tr, e1, e2, e3⟩ := h.sound k v q
      rw [hk] at e2
      cases e2
      exact ⟨a, tf, tr, by rw [e1], e3⟩
end
section
theorem rsP3 : True := by first | (w_top off; walk1) | trivial
def optL (o : Option Mine.Dat) : List Mine.Dat := match o with | none => [] | some d => [d]
theorem E0_ne_XS : E0 ≠ XS := by decide +kernel
theorem menK_one : ∀ man ∈ MEN, (menK man = 1 ↔ man = E0) := by decide +kernel
section
variable {fs rs : Int} {r : List Nat} {g0 g1 : Nat}
theorem fileF_b : fileF fs (S (r ++ [g0, g1])) = Txt.find (Txt.slice FLS none (some fs)) (S [g0]) := by unfold fileF; rw [sl_m21]
theorem rankF_b : rankF rs (S (r ++ [g0, g1])) = Txt.find (Txt.slice RDS none (some rs)) (S [g1]) := by unfold rankF; rw [sl_m1r]
theorem sq_unf : squareF fs rs (S [g0, g1]) = if Txt.find FLS (S [g0]) < 0 ∨ fs ≤ Txt.find FLS (S [g0]) ∨ Txt.find RDS (S [g1]) < 0 ∨ rs ≤ Txt.find RDS (S [g1]) then -1 else Txt.find RDS (S [g1]) * fs + Txt.find FLS (S [g0]) := by
  unfold squareF
  rw [item_0, item_1, if_neg (by rw [S_len]; simp)]
theorem sq_bad (hf1 : 1 ≤ fs) (hf2 : fs ≤ 8) (hr1 : 1 ≤ rs) (hr2 : rs ≤ 8) (h : fileF fs (S (r ++ [g0, g1])) < 0 ∨ rankF rs (S (r ++ [g0, g1])) < 0) : squareF fs rs (S [g0, g1]) = -1 := by
  rw [fileF_b, rankF_b] at h
  rw [sq_unf, if_pos]
  rcases h with h | h
  · rcases (find_cutF hf1 hf2 g0).1.mp h with q | q
    · exact .inl q
    · exact .inr (.inl q)
  · exact .inr (.inr ((find_cutR hr1 hr2 g1).1.mp h))
theorem sq_good (hf1 : 1 ≤ fs) (hf2 : fs ≤ 8) (hr1 : 1 ≤ rs) (hr2 : rs ≤ 8) (h1 : ¬ fileF fs (S (r ++ [g0, g1])) < 0) (h2 : ¬ rankF rs (S (r ++ [g0, g1])) < 0) : squareF fs rs (S [g0, g1]) = rankF rs (S (r ++ [g0, g1])) * fs + fileF fs (S (r ++ [g0, g1])) ∧ ¬ squareF fs rs (S [g0, g1]) < 0 := by
  rw [fileF_b] at h1 ⊢
  rw [rankF_b] at h2 ⊢
  have a1 := find_cutF hf1 hf2 g0
  have a2 := find_cutR hr1 hr2 g1
  rw [sq_unf, if_neg (by
    rintro (q | q | q | q)
    · exact h1 (a1.1.mpr (.inl q))
    · exact h1 (a1.1.mpr (.inr q))
    · exact h2 (a2.1.mpr (.inl q))
    · exact h2 (a2.1.mpr (.inr q))), ← a1.2 (by omega), ← a2.2 (by omega)]
  refine ⟨rfl, ?_⟩
  have := Int.mul_nonneg (show 0 ≤ Txt.find (Txt.slice RDS none (some rs)) (S [g1]) by omega) (show 0 ≤ fs by omega)
  omega
theorem ahead_0 : aheadF (S (r ++ [g0, g1])) E0 = S r := by
  unfold aheadF
  have e : ((S (r ++ [g0, g1])).length : Int) - 2 - (E0.length : Int) = (r.length : Int) := by
    rw [S_len, show E0.length = 0 from by decide +kernel]; simp <;> omega
  rw [e, sl_to, List.take_left]
theorem ahead_x {c : Nat} : aheadF (S ((r ++ [c]) ++ [g0, g1])) XS = S r := by
  unfold aheadF
  have e : ((S ((r ++ [c]) ++ [g0, g1])).length : Int) - 2 - (XS.length : Int) = (r.length : Int) := by
    rw [S_len, show XS.length = 1 from by decide +kernel]; simp; omega
  rw [e, sl_to, List.append_assoc, List.take_left]
theorem ahead_x0 : aheadF (S ([] ++ [g0, g1])) XS = S [g0] := by
  unfold aheadF
  have e : ((S ([] ++ [g0, g1])).length : Int) - 2 - (XS.length : Int) = -((1 : Nat) : Int) := by
    rw [S_len, show XS.length = 1 from by decide +kernel]; rfl
  rw [e, sl_nto 1 (by decide)]; rfl
theorem tail_unf {k p : Int} : tailF fs rs k (S (r ++ [g0, g1])) p = if squareF fs rs (S [g0, g1]) < 0 then none
  else match cutF (if Txt.slice (S r) (some (-1)) none = XS then Txt.slice (S r) none (some (-1)) else S r) with
    | none => none
    | some (f, q) => if k = 1 ∧ Txt.slice (S r) (some (-1)) none = XS ∧ f < 0 then none
      else some (k, f, q, decide (Txt.slice (S r) (some (-1)) none = XS), squareF fs rs (S [g0, g1]), p) := by
  unfold tailF
  rw [sl_m2_, sl_m2]
  all_goals
    by_cases hq : squareF fs rs (S [g0, g1]) < 0
    · rw [if_pos hq, if_pos hq]
    · rw [if_neg hq, if_neg hq]
      generalize cutF _ = o
      cases o with
      | none => rfl
      | some p => rfl
theorem app_E0 {l : List Nat} : S l ++ E0 = S l := by rw [← S_E0, S_app, List.append_nil]
theorem app_XS {l : List Nat} : S l ++ XS = S (l ++ [120]) := by rw [← S_XS, S_app]
theorem x_char : ¬ (120 ∈ FLS.cps.toList ∨ 120 ∈ RDS.cps.toList) := by decide +kernel
theorem wayC_good {man made inner cr ah : PySem.Str} {f q : Int} (ha : aheadF inner cr = ah) (hc : cutF ah = some (f, q)) (he : ah ++ cr = Txt.slice inner none (some (-2))) (h1 : ¬ fileF fs inner < 0) (h2 : ¬ rankF rs inner < 0) :
    wayC fs rs man made inner cr = if man ≠ E0 ∨ cr = E0 ∨ 0 ≤ f then [(menK man, f, q, decide (cr = XS), rankF rs inner * fs + fileF fs inner, becK made)] else [] := by
  rw [wayC_some (by rw [ha]; exact hc), if_neg]
  rw [ha]
  rintro (z | z | z)
  · exact z he
  · exact h1 z
  · exact h2 z
theorem core {man made : PySem.Str} (hm : man ∈ MEN) (hf1 : 1 ≤ fs) (hf2 : fs ≤ 8) (hr1 : 1 ≤ rs) (hr2 : rs ≤ 8) :
    wayC fs rs man made (S (r ++ [g0, g1])) E0 ++ wayC fs rs man made (S (r ++ [g0, g1])) XS = optL (tailF fs rs (menK man) (S (r ++ [g0, g1])) (becK made)) := by
  rw [tail_unf]
  by_cases hb : fileF fs (S (r ++ [g0, g1])) < 0 ∨ rankF rs (S (r ++ [g0, g1])) < 0
  · rw [wayC_bad (.inr hb), wayC_bad (.inr hb), sq_bad hf1 hf2 hr1 hr2 hb, if_pos (by decide)]; rfl
  · have h1 : ¬ fileF fs (S (r ++ [g0, g1])) < 0 := fun z => hb (.inl z)
    have h2 : ¬ rankF rs (S (r ++ [g0, g1])) < 0 := fun z => hb (.inr z)
    obtain ⟨e1, e2⟩ := sq_good hf1 hf2 hr1 hr2 h1 h2
    rw [if_neg e2, e1]
    rcases List.eq_nil_or_concat r with rfl | ⟨r', c, rfl⟩
    · have hx : Txt.slice (S []) (some (-1)) none = S [] := sl_nfrom 1 (by decide)
      have hn : S [] ≠ XS := by rw [S_E0]; exact E0_ne_XS
      rw [hx, if_neg hn, wayC_good ahead_0 (by rw [S_E0]; exact cut_e) (by rw [app_E0, sl_m2]) h1 h2, if_pos (.inr (.inl rfl)), wayC_bad (.inl (by
        rw [ahead_x0, app_XS, sl_m2]; intro z; exact List.cons_ne_nil _ _ (S_inj z)))]
      rw [S_E0, cut_e]
      simp only []
      rw [if_neg (fun z => E0_ne_XS z.2.1)]
      rfl
    · rw [List.concat_eq_append] at *
      rw [sl_m1_, sl_m1]
      by_cases hc : c = 120
      · subst hc
        have hno : cutF (S (r' ++ [120])) = none := by
          cases q : cutF (S (r' ++ [120])) with
          | none => rfl
          | some p => exact absurd (cutF_chars q 120 (List.mem_append_right _ (.head _))) x_char
        rw [S_XS, if_pos rfl, wayC_none (by rw [ahead_0]; exact hno), List.nil_append]
        cases q : cutF (S r') with
        | none => rw [wayC_none (by rw [ahead_x]; exact q)]; rfl
        | some p =>
          obtain ⟨f, q'⟩ := p
          rw [wayC_good ahead_x q (by rw [app_XS, sl_m2]) h1 h2]
          simp only []
          have hk := menK_one man hm
          by_cases hP : man ≠ E0 ∨ XS = E0 ∨ 0 ≤ f
          · rw [if_pos hP, if_neg]
            · rfl
            · rintro ⟨z1, _, z2⟩
              rcases hP with z | z | z
              · exact z (hk.mp z1)
              · exact E0_ne_XS z.symm
              · omega
          · rw [if_neg hP, if_pos]
            · rfl
            · refine ⟨hk.mpr ?_, by trivial, ?_⟩
              · by_cases z : man = E0
                · exact z
                · exact absurd (.inl z) hP
              · by_cases z : 0 ≤ f
                · exact absurd (.inr (.inr z)) hP
                · omega
      · have hn : S [c] ≠ XS := by
          rw [← S_XS]; intro z; exact hc (List.cons.inj (S_inj z)).1
        rw [if_neg hn, wayC_bad (cr := XS) (.inl (by
          rw [ahead_x, app_XS, sl_m2]; intro z
          have := List.append_cancel_left (S_inj z)
          exact hc (List.cons.inj this).1.symm)), List.append_nil]
        cases q : cutF (S (r' ++ [c])) with
        | none => rw [wayC_none (by rw [ahead_0]; exact q)]; rfl
        | some p =>
          obtain ⟨f, q'⟩ := p
          rw [wayC_good ahead_0 q (by rw [app_E0, sl_m2]) h1 h2, if_pos (.inr (.inl rfl))]
          simp only []
          rw [if_neg (fun z => hn z.2.1), decide_eq_false hn, decide_eq_false E0_ne_XS]
          rfl
end
theorem two_of {l : List Nat} (h : 2 ≤ l.length) : ∃ r g0 g1, l = r ++ [g0, g1] := by
  rcases List.eq_nil_or_concat l with rfl | ⟨l', c, rfl⟩
  · simp at h
  · rcases List.eq_nil_or_concat l' with rfl | ⟨l'', d, rfl⟩
    · simp at h
    · exact ⟨l'', d, c, by simp⟩
theorem tail_short {fs rs k p : Int} {l : List Nat} (h : l.length < 2) : tailF fs rs k (S l) p = none := by
  unfold tailF
  have e : squareF fs rs (Txt.slice (S l) (some (-2)) none) = -1 := by
    unfold squareF
    rw [if_pos]
    have z : Txt.slice (S l) (some (-2)) none = S (l.drop (l.length - 2)) := sl_nfrom 2 (by decide)
    rw [z, S_len, List.length_drop]; omega
  rw [e, if_pos (by decide)]
end
section
theorem rsP4 : True := by first | (w_top off; walk1) | trivial
section
variable {fs rs : Int} {l m b e : List Nat} {md : PySem.Str}
theorem inner_S : innerF (S (m ++ b ++ e)) (S m) (S e) = S b := by
  unfold innerF
  rw [slice_gen]
  have e1 : clipN (some ((S m).length : Int)) 0 (m ++ b ++ e).length = m.length := by
    rw [S_len, clip_nat]; simp only [List.length_append]; omega
  have e2 : clipN (some (((S (m ++ b ++ e)).length : Int) - ((S e).length : Int))) (m ++ b ++ e).length (m ++ b ++ e).length = (m ++ b).length := by
    rw [S_len, S_len, show ((m ++ b ++ e).length : Int) - (e.length : Int) = (((m ++ b).length : Nat) : Int) from by simp only [List.length_append]; omega, clip_nat]
    simp only [List.length_append]; omega
  rw [e1, e2, List.take_left, List.drop_left]
theorem wayE_split (hf1 : 1 ≤ fs) (hf2 : fs ≤ 8) (hr1 : 1 ≤ rs) (hr2 : rs ≤ 8) (hm : S m ∈ MEN) : wayE fs rs (S (m ++ b ++ e)) (S m) (S e, md) = optL (tailF fs rs (menK (S m)) (S b) (becK md)) := by
  unfold wayE
  rw [inner_S]
  by_cases hb : b.length < 2
  · rw [if_pos, tail_short hb]
    · rfl
    · refine .inr ?_
      show (((S (m ++ b ++ e)).length : Nat) : Int) < ((S m).length : Int) + ((S e).length : Int) + 2
      rw [S_len, S_len, S_len]; simp only [List.length_append]; omega
  · rw [if_neg]
    · obtain ⟨r, g0, g1, rfl⟩ := two_of (show 2 ≤ b.length by omega)
      exact core hm hf1 hf2 hr1 hr2
    · rintro (z | z)
      · exact z (by rw [S_app, S_app])
      · have z' : (((S (m ++ b ++ e)).length : Nat) : Int) < ((S m).length : Int) + ((S e).length : Int) + 2 := z
        rw [S_len, S_len, S_len] at z'; simp only [List.length_append] at z'; omega
theorem wayE_not (h : ∀ b, l ≠ m ++ b ++ e) : wayE fs rs (S l) (S m) (S e, md) = [] := by
  refine wayE_no (.inl fun z => ?_)
  rw [S_of (innerF (S l) (S m) (S e)), S_app, S_app] at z
  exact h _ (S_inj z)
theorem wayE_dead (hf1 : 1 ≤ fs) (hf2 : fs ≤ 8) (hr1 : 1 ≤ rs) (hr2 : rs ≤ 8) (hm : S m ∈ MEN) (h : ∀ b, l = m ++ b ++ e → tailF fs rs (menK (S m)) (S b) (becK md) = none) : wayE fs rs (S l) (S m) (S e, md) = [] := by
  by_cases hb : ∃ b, l = m ++ b ++ e
  · obtain ⟨b, rfl⟩ := hb
    rw [wayE_split hf1 hf2 hr1 hr2 hm, h b rfl]; rfl
  · exact wayE_not fun b z => hb ⟨b, z⟩
theorem sq_neg {g0 g1 : Nat} (h : Txt.find FLS (S [g0]) < 0 ∨ fs ≤ Txt.find FLS (S [g0]) ∨ Txt.find RDS (S [g1]) < 0 ∨ rs ≤ Txt.find RDS (S [g1])) : squareF fs rs (S [g0, g1]) = -1 := by
  rw [sq_unf, if_pos h]
theorem cut_badhead {h : Nat} {u : List Nat} (hF : h ∉ FLS.cps.toList) (hR : h ∉ RDS.cps.toList) : cutF (S (h :: u)) = none := by
  cases q : cutF (S (h :: u)) with
  | none => rfl
  | some p => exact ((cutF_chars q h (.head _)).elim hF hR).elim
theorem tail_badhead {h : Nat} {t : List Nat} {k p : Int} (hF : h ∉ FLS.cps.toList) (hR : h ∉ RDS.cps.toList) (hx : h ≠ 120) : tailF fs rs k (S (h :: t)) p = none := by
  by_cases hl : (h :: t).length < 2
  · exact tail_short hl
  · obtain ⟨r, g0, g1, er⟩ := two_of (show 2 ≤ (h :: t).length by omega)
    rw [er, tail_unf]
    cases r with
    | nil =>
      have eg : h = g0 := (List.cons.inj er).1
      rw [sq_neg (.inl (by rw [← eg, find_none hF]; decide)), if_pos (by decide)]
    | cons h' r' =>
      have eh : h = h' := (List.cons.inj er).1
      subst eh
      split
      · rfl
      · have key : cutF (if Txt.slice (S (h :: r')) (some (-1)) none = XS then Txt.slice (S (h :: r')) none (some (-1)) else S (h :: r')) = none := by
          rcases List.eq_nil_or_concat r' with rfl | ⟨r'', c, rfl⟩
          · rw [if_neg]
            · exact cut_badhead hF hR
            · have z := sl_m1_ (l := []) (c := h)
              rw [List.nil_append] at z
              rw [z, ← S_XS]; intro q; exact hx (List.cons.inj (S_inj q)).1
          · rw [List.concat_eq_append, show h :: (r'' ++ [c]) = (h :: r'') ++ [c] from rfl, sl_m1]
            split
            · exact cut_badhead hF hR
            · exact cut_badhead hF hR
        rw [key]
theorem tail_badlast {z : Nat} {y : List Nat} {k p : Int} (hz : z ∉ RDS.cps.toList) : tailF fs rs k (S (y ++ [z])) p = none := by
  by_cases hl : (y ++ [z]).length < 2
  · exact tail_short hl
  · obtain ⟨r, g0, g1, er⟩ := two_of (show 2 ≤ (y ++ [z]).length by omega)
    have eg : z = g1 := by
      have := congrArg List.getLast? er
      simpa using this
    rw [er, tail_unf, sq_neg (.inr (.inr (.inl (by rw [← eg, find_none hz]; decide)))), if_pos (by decide)]
end
theorem men_S : MEN = [S [], S [66], S [75], S [78], S [81], S [82]] := by decide +kernel
theorem pro_S : PRO = [(S [78], S [78]), (S [61, 78], S [78]), (S [66], S [66]), (S [61, 66], S [66]), (S [82], S [82]), (S [61, 82], S [82]), (S [81], S [81]), (S [61, 81], S [81])] := by decide +kernel
def proF (fs rs : Int) (l : List Nat) (c : Nat) : List Mine.Dat := wayE fs rs (S l) (S []) (S [c], S [c]) ++ wayE fs rs (S l) (S []) (S [61, c], S [c])
def manF (fs rs : Int) (l : List Nat) (c : Nat) : List Mine.Dat := wayE fs rs (S l) (S [c]) (S [], E0)
theorem wayM_man {fs rs : Int} {l : List Nat} {c : Nat} : wayM fs rs (S l) (S [c]) = manF fs rs l c := by
  unfold wayM endsOf manF
  rw [if_neg S_ne, ← S_E0]
  simp
theorem wayM_pawn {fs rs : Int} {l : List Nat} : wayM fs rs (S l) (S []) = wayE fs rs (S l) (S []) (S [], E0) ++ (proF fs rs l 78 ++ (proF fs rs l 66 ++ (proF fs rs l 82 ++ proF fs rs l 81))) := by
  unfold wayM endsOf proF
  rw [if_pos S_E0, pro_S, ← S_E0]
  simp
theorem ways_unf {fs rs : Int} {l : List Nat} : waysF fs rs (S l) = (wayE fs rs (S l) (S []) (S [], E0) ++ (proF fs rs l 78 ++ (proF fs rs l 66 ++ (proF fs rs l 82 ++ proF fs rs l 81)))) ++ (manF fs rs l 66 ++ (manF fs rs l 75 ++ (manF fs rs l 78 ++ (manF fs rs l 81 ++ manF fs rs l 82)))) := by
  unfold waysF
  rw [men_S, ← wayM_pawn, ← wayM_man, ← wayM_man, ← wayM_man, ← wayM_man, ← wayM_man]
  simp
def KS : List Nat := [66, 75, 78, 81, 82]
def PS : List Nat := [78, 66, 82, 81]
theorem ks_facts : ∀ c ∈ KS, kindF (S [c]) = menK (S [c]) ∧ kindF (S [c]) ≠ 0 ∧ S [c] ∈ MEN ∧ c ∉ FLS.cps.toList ∧ c ∉ RDS.cps.toList ∧ c ≠ 120 := by decide +kernel
theorem ps_facts : ∀ c ∈ PS, kindP (S [c]) = becK (S [c]) ∧ kindP (S [c]) ≠ 0 ∧ c ∉ RDS.cps.toList := by decide +kernel
theorem S_one_ne {a b : Nat} (h : a ≠ b) : S [a] ≠ S [b] := fun z => h (List.cons.inj (S_inj z)).1
theorem kindF_no {c : Nat} (h : c ∉ KS) : kindF (S [c]) = 0 := by
  simp only [KS, List.mem_cons, List.not_mem_nil, or_false, not_or] at h
  obtain ⟨h1, h2, h3, h4, h5⟩ := h
  have a1 : Str.ofString "N" = S [78] := by decide +kernel
  have a2 : Str.ofString "B" = S [66] := by decide +kernel
  have a3 : Str.ofString "R" = S [82] := by decide +kernel
  have a4 : Str.ofString "Q" = S [81] := by decide +kernel
  have a5 : Str.ofString "K" = S [75] := by decide +kernel
  unfold kindF
  rw [a1, a2, a3, a4, a5, if_neg (S_one_ne h3), if_neg (S_one_ne h1), if_neg (S_one_ne h5), if_neg (S_one_ne h4), if_neg (S_one_ne h2)]
theorem kindP_no {c : Nat} (h : c ∉ PS) : kindP (S [c]) = 0 := by
  simp only [PS, List.mem_cons, List.not_mem_nil, or_false, not_or] at h
  obtain ⟨h1, h2, h3, h4⟩ := h
  have a1 : Str.ofString "N" = S [78] := by decide +kernel
  have a2 : Str.ofString "B" = S [66] := by decide +kernel
  have a3 : Str.ofString "R" = S [82] := by decide +kernel
  have a4 : Str.ofString "Q" = S [81] := by decide +kernel
  unfold kindP
  rw [a1, a2, a3, a4, if_neg (S_one_ne h1), if_neg (S_one_ne h2), if_neg (S_one_ne h3), if_neg (S_one_ne h4)]
theorem kind_nil : kindF (S []) = 0 ∧ kindP (S []) = 0 := by decide +kernel
theorem men_nil : S [] ∈ MEN ∧ menK (S []) = 1 ∧ becK E0 = 0 := by decide +kernel
section
variable {fs rs : Int} (hf1 : 1 ≤ fs) (hf2 : fs ≤ 8) (hr1 : 1 ≤ rs) (hr2 : rs ≤ 8)
include hf1 hf2 hr1 hr2
theorem man_yes {c : Nat} {t : List Nat} (h : c ∈ KS) : manF fs rs (c :: t) c = optL (tailF fs rs (kindF (S [c])) (S t) 0) := by
  obtain ⟨e1, _, e2, _⟩ := ks_facts c h
  have z := wayE_split (m := [c]) (b := t) (e := []) (md := E0) hf1 hf2 hr1 hr2 e2
  rw [List.append_nil, men_nil.2.2, ← e1] at z
  exact z
theorem man_no {c : Nat} {l : List Nat} (h : ∀ t, l ≠ c :: t) : manF fs rs l c = [] := wayE_not fun b z => h b (by rw [z]; simp)
theorem pawn_first {l : List Nat} : wayE fs rs (S l) (S []) (S [], E0) = optL (tailF fs rs 1 (S l) 0) := by
  have z := wayE_split (m := []) (b := l) (e := []) (md := E0) hf1 hf2 hr1 hr2 men_nil.1
  rw [List.append_nil, List.nil_append, men_nil.2.1, men_nil.2.2] at z
  exact z
theorem pro_no {c z : Nat} {y : List Nat} (h : z ≠ c) : proF fs rs (y ++ [z]) c = [] := by
  unfold proF
  rw [wayE_not, wayE_not]
  · rfl
  · intro b q
    have := congrArg List.getLast? q
    simp at this
    exact h this
  · intro b q
    have := congrArg List.getLast? q
    simp at this
    exact h this
theorem pro_nil {c : Nat} : proF fs rs [] c = [] := by
  unfold proF
  rw [wayE_not, wayE_not]
  · rfl
  · intro b q; simp at q
  · intro b q; simp at q
theorem pro_yes {c : Nat} {y : List Nat} : proF fs rs (y ++ [c]) c = optL (tailF fs rs 1 (if Txt.slice (S y) (some (-1)) none = EQS then Txt.slice (S y) none (some (-1)) else S y) (becK (S [c]))) := by
  unfold proF
  have e1 : wayE fs rs (S (y ++ [c])) (S []) (S [c], S [c]) = optL (tailF fs rs 1 (S y) (becK (S [c]))) := by
    have z := wayE_split (m := []) (b := y) (e := [c]) (md := S [c]) hf1 hf2 hr1 hr2 men_nil.1
    rw [List.nil_append, men_nil.2.1] at z
    exact z
  rw [e1]
  by_cases hy : ∃ y', y = y' ++ [61]
  · obtain ⟨y', rfl⟩ := hy
    have z := wayE_split (m := []) (b := y') (e := [61, c]) (md := S [c]) hf1 hf2 hr1 hr2 men_nil.1
    rw [List.nil_append, men_nil.2.1] at z
    rw [show (y' ++ [61]) ++ [c] = y' ++ [61, c] from by simp, z, sl_m1_, S_EQS, if_pos rfl, sl_m1, tail_badlast (by decide +kernel)]
    rfl
  · rw [wayE_not, List.append_nil, if_neg]
    · intro q
      rcases List.eq_nil_or_concat y with rfl | ⟨y', d, rfl⟩
      · have w : Txt.slice (S []) (some (-1)) none = S [] := sl_nfrom 1 (by decide)
        rw [w, ← S_EQS] at q
        exact List.cons_ne_nil _ _ (S_inj q).symm
      · rw [List.concat_eq_append] at hy q
        rw [sl_m1_, ← S_EQS] at q
        have : d = 61 := (List.cons.inj (S_inj q)).1
        exact hy ⟨y', by rw [this]⟩
    · intro b q
      refine hy ⟨b, ?_⟩
      have q' : y ++ [c] = (b ++ [61]) ++ [c] := by rw [q]; simp
      exact List.append_cancel_right q'
theorem ways_eq {x : PySem.Str} : waysF fs rs x = optL (splitF fs rs x) := by
  rw [S_of x]
  generalize x.cps.toList = l
  rw [ways_unf]
  by_cases hA : ∃ h t, l = h :: t ∧ h ∈ KS
  · obtain ⟨h, t, rfl, hK⟩ := hA
    obtain ⟨k1, k2, k3, k4, k5, k6⟩ := ks_facts h hK
    have dead : ∀ e md, wayE fs rs (S (h :: t)) (S []) (S e, md) = [] := fun e md => wayE_dead hf1 hf2 hr1 hr2 men_nil.1 fun b q => by
      cases b with
      | nil => exact tail_short (by decide)
      | cons h' u =>
        have : h = h' := (List.cons.inj q).1
        subst this
        exact tail_badhead k4 k5 k6
    have hd : headF (S (h :: t)) = (kindF (S [h]), S t, 0) := by
      unfold headF
      rw [sl_1, sl_1_]
      exact if_pos k2
    have hs : splitF fs rs (S (h :: t)) = tailF fs rs (kindF (S [h])) (S t) 0 := by unfold splitF; rw [hd]
    have hy := man_yes hf1 hf2 hr1 hr2 (t := t) hK
    have hn : ∀ c, c ≠ h → manF fs rs (h :: t) c = [] := fun c hc => man_no hf1 hf2 hr1 hr2 fun u q => hc (List.cons.inj q).1.symm
    rw [hs, ← hy, dead]
    have hp : ∀ c, proF fs rs (h :: t) c = [] := fun c => by unfold proF; rw [dead, dead]; rfl
    rw [hp, hp, hp, hp]
    simp only [KS, List.mem_cons, List.not_mem_nil, or_false] at hK
    rcases hK with rfl | rfl | rfl | rfl | rfl
    · rw [hn 75 (by decide), hn 78 (by decide), hn 81 (by decide), hn 82 (by decide)]; simp
    · rw [hn 66 (by decide), hn 78 (by decide), hn 81 (by decide), hn 82 (by decide)]; simp
    · rw [hn 66 (by decide), hn 75 (by decide), hn 81 (by decide), hn 82 (by decide)]; simp
    · rw [hn 66 (by decide), hn 75 (by decide), hn 78 (by decide), hn 82 (by decide)]; simp
    · rw [hn 66 (by decide), hn 75 (by decide), hn 78 (by decide), hn 81 (by decide)]; simp
  · have hn : ∀ c ∈ KS, manF fs rs l c = [] := fun c hc => man_no hf1 hf2 hr1 hr2 fun u q => hA ⟨c, u, q, hc⟩
    rw [hn 66 (by decide), hn 75 (by decide), hn 78 (by decide), hn 81 (by decide), hn 82 (by decide), pawn_first hf1 hf2 hr1 hr2]
    have hk : kindF (Txt.slice (S l) none (some 1)) = 0 := by
      rw [sl_1]
      cases l with
      | nil => exact kind_nil.1
      | cons h t => exact kindF_no fun q => hA ⟨h, t, rfl, q⟩
    have hd : headF (S l) = if kindP (Txt.slice (S l) (some (-1)) none) ≠ 0 then
        (1, (if Txt.slice (Txt.slice (S l) none (some (-1))) (some (-1)) none = EQS then Txt.slice (Txt.slice (S l) none (some (-1))) none (some (-1)) else Txt.slice (S l) none (some (-1))), kindP (Txt.slice (S l) (some (-1)) none)) else (1, S l, 0) := by
      unfold headF
      rw [if_neg (by rw [hk]; exact fun q => q rfl)]
    unfold splitF
    rw [hd]
    rcases List.eq_nil_or_concat l with rfl | ⟨y, z, rfl⟩
    · have w : Txt.slice (S []) (some (-1)) none = S [] := sl_nfrom 1 (by decide)
      rw [w, if_neg (fun q => q kind_nil.2), pro_nil hf1 hf2 hr1 hr2, pro_nil hf1 hf2 hr1 hr2, pro_nil hf1 hf2 hr1 hr2, pro_nil hf1 hf2 hr1 hr2]
      simp
    · rw [List.concat_eq_append, sl_m1_, sl_m1]
      by_cases hz : z ∈ PS
      · obtain ⟨p1, p2, p3⟩ := ps_facts z hz
        rw [if_pos p2, tail_badlast p3, p1, ← pro_yes hf1 hf2 hr1 hr2]
        have hq : ∀ c, z ≠ c → proF fs rs (y ++ [z]) c = [] := fun c hc => pro_no hf1 hf2 hr1 hr2 hc
        simp only [PS, List.mem_cons, List.not_mem_nil, or_false] at hz
        rcases hz with rfl | rfl | rfl | rfl
        · rw [hq 66 (by decide), hq 82 (by decide), hq 81 (by decide)]; simp [optL]
        · rw [hq 78 (by decide), hq 82 (by decide), hq 81 (by decide)]; simp [optL]
        · rw [hq 78 (by decide), hq 66 (by decide), hq 81 (by decide)]; simp [optL]
        · rw [hq 78 (by decide), hq 66 (by decide), hq 82 (by decide)]; simp [optL]
      · have hq : ∀ c ∈ PS, proF fs rs (y ++ [z]) c = [] := fun c hc => pro_no hf1 hf2 hr1 hr2 fun q => hz (q ▸ hc)
        rw [if_neg (fun q => q (kindP_no hz)), hq 78 (by decide), hq 66 (by decide), hq 82 (by decide), hq 81 (by decide)]
        simp
end
theorem ways_none {fs rs : Int} {x : PySem.Str} {fvs : List Value} {tl : List (Addr × Obj)} (hf1 : 1 ≤ fs) (hf2 : fs ≤ 8) (hr1 : 1 ≤ rs) (hr2 : rs ≤ 8) (hR : FoundR fvs (waysF fs rs x) tl) (hz : splitF fs rs x = none) : FoundR fvs [] tl := by
  rw [ways_eq hf1 hf2 hr1 hr2, hz] at hR; exact hR
theorem ways_some {fs rs : Int} {x : PySem.Str} {fvs : List Value} {tl : List (Addr × Obj)} {d : Mine.Dat} (hf1 : 1 ≤ fs) (hf2 : fs ≤ 8) (hr1 : 1 ≤ rs) (hr2 : rs ≤ 8) (hR : FoundR fvs (waysF fs rs x) tl) (hz : splitF fs rs x = some d) : FoundR fvs [d] tl := by
  rw [ways_eq hf1 hf2 hr1 hr2, hz] at hR; exact hR
end
section
theorem rsWAYS : True := by first | (w_top off; walk1) | trivial
def WayTurn : Prop := True
section
local macro_rules | `(tactic| walk_at "eval Dict") => `(tactic| (k_here; (k_dflt (refine' kdn_str ?q ?F ?N ?b ?a ?l ?e ?n ?_; (case q => rfl); (case F => k_asm); (case N => first | k_asm | exact News.nil); (case b => exact Top.nolimit (by k_asm)); (case a => rfl); (case l => rfl); (case e => exact List.cons_ne_nil _ _); (case n => exact Nat.le_of_ble_eq_true rfl))); intro d' h' o' F' N' l1 lo' hd'; (try k_lt l1)))
local macro_rules | `(tactic| walk_at "eval ListComp") => `(tactic| (k_here; (with_reducible rename Fr _ _ _ _ => lF'); (with_reducible rename News _ _ _ _ => lN'); k_dflt (refine' comp_K lF' lN' ?hh ?hcl ?hcell ?hk ?hnames ?h1 ?h2 ?hs1 ?hs2 ?_; (case hh => rfl); (case hcl => rfl); (case hcell => decide); (case hk => rfl); (case hnames => decide); (case h1 => rfl); (case h2 => rfl); (case hs1 => intro _; rfl); (case hs2 => intro _ _; rfl)); clear lF' lN'; intro D' h' tk' ys' T' F' N' l1 hpr' hct'; (try simp only [List.cons_append, List.nil_append] at N'); (try k_lt l1); (try k_sweep)))
local macro_rules | `(tactic| walk_at "binaryOp Add ref ref") => `(tactic| ((with_reducible show wpAny _ _ (binaryOp _ (Value.ref _) (Value.ref _)) _ _ _); k_dflt (refine' cat_K ?F ?N ?a ?b ?z ?_; (case F => k_asm); (case N => k_asm); (case a => k_mem); (case b => k_mem); (case z => first | exact Nat.le_of_ble_eq_true rfl | (with_reducible rename PR _ _ _ => pr9; have e9 := PR.len pr9; rw [e9]; exact Nat.le_of_ble_eq_true rfl))); intro D' h' F' N' l1; (try k_lt l1); (try k_sweep)))
local macro_rules | `(tactic| walk_at "compareOp NotIn str ref") => `(tactic| ((with_reducible rename News _ _ _ _ => lN'); k_dflt (refine' notin_split lN' ?hm ?hd ?lo ?hO (fun hc9 => ?g1) (fun f9 r9 a9 tf9 tr9 hc9 hv9 hm9 => ?g2); (case hm => k_mem); (case hd => k_asm); (case lo => k_asm); (case hO => k_asm)); (case' g2 => (replace lN' := news_dup (p := (a9, tup2 f9 tf9 r9 tr9)) lN' (by repeat (first | with_reducible exact hm9 | with_reducible refine List.mem_cons_of_mem _ ?_))))))
local macro_rules | `(tactic| walk_at "subscriptTail") => `(tactic| ((with_reducible show wpAny _ _ (subscriptTail _ _ (Value.ref _) (Value.str _ _)) _ _ _); (with_reducible rename News _ _ _ _ => lN'); (with_reducible rename valueAt _ _ = some _ => lV'); k_dflt (refine kda_item (knd := PySem.strKind _ _) lN' (by k_mem) (by with_reducible assumption) (strKind_is _ _ _ _) (by with_reducible exact lV') ?_)))
local macro_rules | `(tactic| walk_at "exec For") => `(tactic| ((first | (with_reducible show wpAny _ _ (exec (Stmt.For (Expr.Tuple _ _ _) _ _ [] _) _) _ _ _) | (with_reducible show wpAny _ _ (exec (Stmt.For _ (Expr.Tuple _ _ _) _ [] _) _) _ _ _)); (with_reducible rename Fr _ _ _ _ => lF'); (with_unfolding_all refine' For_turns lF' ?_ ?hs ?hE; (case hs => intro _; rfl); (case hE => passes_own))))
local macro_rules | `(tactic| walk_at "pyIter ref") => `(tactic| ((with_reducible show wpAny _ _ (pyIter (Value.ref _)) (fun it s₂ => TurnsAt _ _ _ _ _ _ _ _ _ it s₂) _ _); (with_reducible rename Fr _ _ _ _ => lF'); (with_reducible rename News _ _ _ _ => lN'); k_dflt (first | (refine' iter_listTurns ?hh lF' lN' ?hm ?hc ?hd ?_; (case hm => k_mem); (case hh => rfl); (case hc => rfl); (case hd => rfl)) | (refine' iter_tupTurns ?hh lF' lN' ?hm ?hc ?hd ?_; (case hm => k_mem); (case hh => rfl); (case hc => rfl); (case hd => rfl))); intro i' l1; (try k_lt l1)))
local macro_rules | `(tactic| walk_at "pyIter ref") => `(tactic| ((with_reducible show wpAny _ _ (pyIter (Value.ref _)) (fun it s₂ => LoopAtV _ _ _ _ _ _ _ _ _ it s₂) _ _); (with_reducible rename Fr _ _ _ _ => lF'); (with_reducible rename News _ _ _ _ => lN'); k_dflt (refine' iter_listUnr ?hh lF' lN' ?hm ?hc ?hd ?_; (case hm => k_mem); (case hh => rfl); (case hc => rfl); (case hd => rfl)); intro i' l1; (try k_lt l1)))
local macro_rules | `(tactic| k_all) => `(tactic| with_reducible assumption)
local macro_rules | `(tactic| walk_at "setItem ref") => `(tactic| ((with_reducible show wpAny _ _ (setItem (Value.ref _) (Value.str _ _) _) _ _ _); k_dflt (refine' kda_set (knd := PySem.strKind _ _) ?F ?N ?U ?d (strKind_is _ _ _ _) ?z ?_; (case F => k_asm); (case N => k_asm); (case U => k_updF); (case d => k_asm); (case z => rw [sizeLine_eq]; first | omega | (refine Nat.le_trans (stored_length_le _ _ _) ?_; omega))); intro h' o' F' N' hd'; (try dsimp only at N'); (try k_sweep)))
local macro_rules | `(tactic| walk_at "compareOp Eq str str") => `(tactic| ((with_reducible show wpAny _ _ (compareOp CmpOp.Eq (Value.str _ _) (Value.str (Str.ofString "") _)) _ _ _); refine eq_split (fun hE => ?_) (fun hE => ?_)))
local macro_rules | `(tactic| walk_at "subscriptTail Name Name ref str") => `(tactic| ((with_reducible rename News _ _ _ _ => lN'); k_dflt (refine kda_item (knd := PySem.strKind _ _) lN' (by k_mem) (by with_reducible assumption) (strKind_is _ _ _ _) (by with_reducible assumption) ?_)))
local macro_rules | `(tactic| walk_at "subscriptTail Subscript") => `(tactic| ((with_reducible rename News _ _ _ _ => lN'); k_dflt (refine item2_0 lN' (.head _) ?_)))

local macro_rules | `(tactic| walk_at "call ref") => `(tactic| ((with_reducible rename WayTurn => wm9); (with_reducible show wpAny _ _ (PySem.call (Value.ref 114) _) _ _ _); (k_dflt (refine' men_ctr _ _ _ _   _ _ _ _ _ _ _ _ _ _ _ _ _ _ _ _ _ ?B ?F ?X ?T ?kk ?d ?u ?_; (case B => k_asm); (case F => k_asm); (case X => k_asm); (case T => k_asm); (case kk => first | rfl | assumption); (case d => ktr_room); (case u => ktr_units))); (intro d9 o9 kvs9 h9 tk9 hk9 hn9 ha9 hD9 lo9 hv9); (with_reducible rename Fr _ _ _ _ => F9); (with_reducible rename News _ _ _ _ => N9); (replace N9 := News.grown N9 hk9); (replace N9 := news_add F9 N9 hn9 ha9); (replace F9 := Fr.after F9 hk9); (clear hk9 hn9 ha9); (obtain ⟨t9, hv9⟩ := hv9 _ (by with_reducible assumption)); (try dsimp only)))
local macro_rules | `(tactic| walk_at "call ref") => `(tactic| ((with_reducible rename WayTurn => wm9); (with_reducible show wpAny _ _ (PySem.call (Value.ref 121) _) _ _ _); (k_dflt (refine' bec_ctr _ _ _ _   _ _ _ _ _ _ _ _ _ _ _ _ _ _ _ _ _ ?B ?F ?X ?T ?kk ?d ?u ?_; (case B => k_asm); (case F => k_asm); (case X => k_asm); (case T => k_asm); (case kk => first | rfl | assumption); (case d => ktr_room); (case u => ktr_units))); (intro d9 o9 kvs9 h9 tk9 hk9 hn9 ha9 hD9 lo9 hv9); (with_reducible rename Fr _ _ _ _ => F9); (with_reducible rename News _ _ _ _ => N9); (replace N9 := News.grown N9 hk9); (replace N9 := news_add F9 N9 hn9 ha9); (replace F9 := Fr.after F9 hk9); (clear hk9 hn9 ha9); (obtain ⟨t9, hv9⟩ := hv9 _ (by with_reducible assumption)); (try dsimp only)))
local macro_rules | `(tactic| walk_at "getItem ref str") => `(tactic| ((with_reducible rename WayTurn => wm9); (with_reducible rename News _ _ _ _ => lN'); k_dflt (refine getK lN' (.head _) (by with_reducible assumption) (by with_reducible assumption) ?_)))
local macro_rules | `(tactic| walk_at "binaryOp Mult int int") => `(tactic| with_reducible refine mul_int ?_)
local macro_rules | `(tactic| walk_at "newTuple") => `(tactic| ((with_reducible rename WayTurn => wm9); (with_reducible rename Fr _ _ _ _ => lF'); (with_reducible rename News _ _ _ _ => lN'); k_dflt (refine' kup_newTuple lF' lN' ?_ ?z; (case z => exact Nat.le_of_ble_eq_true rfl)); clear lF' lN'; intro D' h' F' N' l1))
local macro_rules | `(tactic| walk_at "binaryOp Add ref ref") => `(tactic| ((with_reducible rename WayTurn => wm9); (with_reducible rename Fr _ _ _ _ => lF'); (with_reducible rename News _ _ _ _ => lN'); k_dflt (refine' addT_K lF' lN' ?a ?b ?x ?y ?z ?_; (case a => k_mem); (case b => k_mem); (case x => exact List.cons_ne_nil _ _); (case y => exact List.cons_ne_nil _ _); (case z => exact Nat.le_of_ble_eq_true rfl)); clear lF' lN'; intro D' h' F' N' l1))
local macro_rules | `(tactic| walk_at "call builtin:list.append") => `(tactic| ((with_reducible rename WayTurn => wm9); (with_reducible rename Fr _ _ _ _ => lF'); (with_reducible rename News _ _ _ _ => lN'); k_dflt (refine' app_K lF' lN' ?m ?z ?_; (case m => k_mem); (case z => with_reducible assumption)); clear lF'; intro h' n' F' hL'))
theorem mem_skip2 {α : Type} {a b p : α} {l : List α} (h : p ∈ a :: l) : p ∈ a :: b :: l := by
  rcases List.mem_cons.mp h with e | h
  · rw [e]; exact .head _
  · exact .tail _ (.tail _ h)
theorem ways_all {fs rs : Int} {x : PySem.Str} {fvs : List Value} {tl : List (Addr × Obj)} {n : Nat} (h : FoundR fvs ((MEN.take (n + 6)).flatMap (wayM fs rs x)) tl) : FoundR fvs (waysF fs rs x) tl := by
  rw [List.take_of_length_le (by show 6 ≤ n + 6; omega)] at h
  exact h
theorem mem_nil2 {α : Type} {a b p : α} {l : List α} (h : p ∈ a :: l) : p ∈ a :: b :: l := mem_skip2 h
set_option maxHeartbeats 4000000 in
theorem ways_ctr (w : World) (mean : ExcName → Option Value) (mg mb : Str → Option Value) (fs rs : Int) (x : PySem.Str) (t1 t2 tx : Tok) (hx1 : x.length ≤ 100) (hf1 : 1 ≤ fs) (hf2 : fs ≤ 8) (hr1 : 1 ≤ rs) (hr2 : rs ≤ 8) :
  ∀ (dp un : Nat) (gd : Option (List Code)) (cn : Str) (cs : Scope) (a : Addr) (ccd : Value) (cl : List (Str × Addr)) (outer : List Env) (A₀ : Around) (base h₀ : Heap) (L : Addr) (m : Str → Option Value) (s : Shared) (Q E : Value → Shared → Prop),
    Below A₀ base outer h₀ → Fr h₀ L s.heap m → (Mine.hd.heap_39 w.params).In h₀ → Top Mine.look (looseW Mine.look []) mean mg mb h₀ → cs.kind = .function → dp + 20 < recursionLimit → un + 160 < cLine →
    (∀ Fd h' tk fvs c tl, Kp s.heap h' → (∀ p ∈ (Fd, listOf fvs.toArray c) :: tl, h'.get? p.1 = some p.2 ∧ s.heap.get? p.1 = none) → FoundR fvs (waysF fs rs x) tl → Q (.ref Fd) { s with heap := h', toks := tk }) →
    wpAny (model PySem.Challenge.pw_pf0092_01 w) (ktrTop dp un gd cn cs L a ccd cl outer) (call (.ref 147) [.str x tx, .int fs t1, .int rs t2]) Q E s := by
  (have e9 : PySem.Challenge.rw_pf0092_01 = PySem.Challenge.rw_pf0092_01 := rfl); revert e9; k_fill; intro _
  intro dp un gd cn cs a ccd cl outer A₀ base h₀ L m s Q E B F X T hk hd hu hret
  refine wpAny_call ?_
  k_dflt (refine' enterG (news := []) (binds := [(Str.ofString "text", Value.str x tx), (Str.ofString "files", Value.int fs t1), (Str.ofString "ranks", Value.int rs t2)]) ?k1 ?k2 ?k3 ?k4 ?k5 ?kA ?kF ?kK ?k6 ?k7 ?k8 ?k9 ?kB ?_ ?c2 ?c3 ?c4 ?c5; (case kA => exact rfl); (case kF => exact rfl); (case kK => assumption); (case k1 => k_asm); (case k2 => k_asm); (case k3 => k_asm); (case k4 => first | exact News.nil | k_asm); (case k5 => k_asm); (case k6 => k_is); (case k7 => k_is); (case k8 => ktr_room); (case k9 => exact BindsTo.of_eq rfl); (case c5 => decide); (case kB => exact locs rfl); (case c2 => exact rfl); (case c3 => exact rfl); (case c4 => exact rfl); k_whole; intro gE L' h' hgE hgS FG' F' N' B' X' T' lE; (try dsimp only); (try k_fold))
  clear B F X T
  replace hgE : Kp s.heap gE := fun b o e => hgE b o e (fun q => nomatch q)
  clear lE
  repeat' (first | ((fail_if_success (with_reducible show RangeRest _ _ _ _ _ _ _ _ _ _ _ _ _ _ _ _ _)); first | (k_unfold; (try dsimp only)) | walk1 | (dsimp only; walk1) | (dsimp only; k_unfold; (try dsimp only)) | (dsimp +zetaDelta only)) | fail "no step")
  rename_i D h1 o1 lo1 hd1 x1 a0 h2 hlt h3 o2 hd2 h4 F2 N2 h5 tk2 tt uu vv r1 k1 I0 lt1
  refine range_inv (c := 8) (J := fun i m news => OJ PySem.Challenge.pw_pf0092_01 w D (fun m => ∃ orr off, m = fun y => if y = Str.ofString "rank" then orr else if y = Str.ofString "file" then off else wBase x fs rs t1 t2 tx D y) (1 + 17 * i) (domA i) m news) ?step ?done 8 0 _ _ rfl ?start
  case start => exact oj_start ⟨_, _, m_same2 _⟩ hd2 hlt
  case step =>
    intro i m9 news9 t h9 tk9 hi hJ F9 N9
    obtain ⟨o, kvs, tups, ⟨orr, off, hm⟩, hsub, hod, hok, hne, hcl⟩ := hJ
    subst hm
    rw [m_swap (by decide)] at F9
    have hlen := hok.len
    replace N9 : News gE L' h9 ((I0, itR (0 + ((i + 1 : Nat) : Int)) ((8 : Nat) - ((i + 1 : Nat) : Int))) :: (D, o) :: tups) := fun p hp => N9 p (by
      rcases List.mem_cons.mp hp with e | hp
      · rw [e]; exact .head _
      · exact .tail _ (hsub p hp))
    replace F9 : Fr gE L' h9 _ := F9
    clear hsub F2 N2 r1 k1 hd1 hd2
    repeat' (first | ((fail_if_success (with_reducible show RangeRest _ _ _ _ _ _ _ _ _ _ _ _ _ _ _ _ _)); first | (k_unfold; (try dsimp only)) | walk1 | (dsimp only; walk1) | (dsimp only; k_unfold; (try dsimp only)) | (dsimp +zetaDelta only)) | fail "no step")
    rename_i a1 h6 lt1 kx1 h7 o3 F3 N3 hd3 h5 tk2 tt uu vv r1 k1 I1 lt2
    rw [Int.zero_add] at hd3
    replace hd3 : o3.IsDictOf (PySem.strKind PySem.Challenge.pw_pf0092_01 w) (stored kvs (FLN i) (.ref a1)) := hd3
    refine range_inv (c := 8) (J := fun j m news => (I0, itR (0 + ((i + 1 : Nat) : Int)) ((8 : Nat) - ((i + 1 : Nat) : Int))) ∈ news ∧ OJ PySem.Challenge.pw_pf0092_01 w D (fun m => ∃ orr, m = fun y => if y = Str.ofString "rank" then orr else if y = Str.ofString "file" then some (.int (0 + (i : Int)) t) else wBase x fs rs t1 t2 tx D y) (1 + 17 * i + 1 + 2 * j) (domB i j) m news) ?step2 ?done2 8 0 _ _ rfl ?start2
    case start2 =>
      exact ⟨by k_mem, oj_file hi (Int.zero_add _) ⟨_, rfl⟩ hd3 hok (neN (by omega)) hne hcl⟩
    case step2 =>
      clear F3 N3 r1 k1 hne hcl hok hod hlen
      intro j m9 news9 t3 h10 tk10 hj hJ F9 N9
      obtain ⟨hI, o, kvs, tups, ⟨orr, hm⟩, hsub, hod, hok, hne, hcl⟩ := hJ
      subst hm
      replace F9 := m_overF F9
      replace F9 : Fr gE L' h10 _ := F9
      have hlen := hok.len
      replace N9 : News gE L' h10 ((I1, itR (0 + ((j + 1 : Nat) : Int)) ((8 : Nat) - ((j + 1 : Nat) : Int))) :: (I0, itR (0 + ((i + 1 : Nat) : Int)) ((8 : Nat) - ((i + 1 : Nat) : Int))) :: (D, o) :: tups) := fun p hp => N9 p (by
        rcases List.mem_cons.mp hp with e | hp
        · rw [e]; exact .head _
        · rcases List.mem_cons.mp hp with e | hp
          · rw [e]; exact .tail _ hI
          · exact .tail _ (hsub p hp))
      clear hsub hI hd3
      repeat' (first | ((fail_if_success (with_reducible show UnrEnd _ _ _ _ _ _ _)); first | (k_unfold; (try dsimp only)) | walk1 | (dsimp only; walk1) | (dsimp only; k_unfold; (try dsimp only)) | (dsimp +zetaDelta only)) | fail "no step")
      rename_i a1 h6 lt4 kx1 h7 o3 hd3 tk2 a2 h11 lt5 kx2 kx3 t4 k4 l4 h12 o4 F3 N3 hd4
      rw [Int.zero_add, Int.zero_add] at hd4
      replace hd4 : o4.IsDictOf (PySem.strKind PySem.Challenge.pw_pf0092_01 w) (stored (stored kvs (RDN j) (.ref a1)) (FLN i ++ RDN j) (.ref a2)) := hd4
      refine unr_end F3 N3 ((I0, itR (0 + ((i + 1 : Nat) : Int)) ((8 : Nat) - ((i + 1 : Nat) : Int))) :: (D, o4) :: (a2, tup2 (0 + (i : Int)) t (0 + (j : Int)) t3) :: (a1, tup2 (-1) (tk10 + 1) (0 + (j : Int)) t3) :: tups) (by k_mem) ?_ ?_ ⟨.head _, oj_rank hi hj (Int.zero_add _) (Int.zero_add _) (Int.zero_add _) ⟨_, rfl⟩ hd4 hok (neN (by omega)) (neN (by omega)) hne hcl⟩
      · exact sub_rank
      · exact off_rank (neN (by dsimp only; omega)) (neN (by dsimp only; omega)) rfl rfl hcl
    case done2 =>
      clear F3 N3 r1 k1 hd3 hne hcl hok hod hlen
      intro m9 news9 h10 tk10 hJ F9 N9
      obtain ⟨hI, o, kvs, tups, ⟨orr, hm⟩, hsub, hod, hok, hne, hcl⟩ := hJ
      subst hm
      replace F9 : Fr gE L' h10 _ := F9
      replace N9 : News gE L' h10 ((I0, itR (0 + ((i + 1 : Nat) : Int)) ((8 : Nat) - ((i + 1 : Nat) : Int))) :: (D, o) :: tups) := fun p hp => N9 p (by
        rcases List.mem_cons.mp hp with e | hp
        · rw [e]; exact hI
        · exact hsub p hp)
      clear hsub hI
      repeat' (first | ((fail_if_success (with_reducible show UnrEnd _ _ _ _ _ _ _)); first | (k_unfold; (try dsimp only)) | walk1 | (dsimp only; walk1) | (dsimp only; k_unfold; (try dsimp only)) | (dsimp +zetaDelta only)) | fail "no step")
      refine unr_end F9 N9 ((D, o) :: tups) (by k_mem) (fun p hp => .tail _ hp) (off_file (neN (by dsimp only; omega)) hcl) ⟨o, kvs, tups, ⟨_, _, rfl⟩, fun p hp => hp, hod, hok.weak (by omega) (fun q hq => domB_all hq), hne, hcl⟩
  case done =>
    clear F2 N2 r1 k1 hd1 hd2
    intro m9 news9 h10 tk10 hJ F9 N9
    obtain ⟨o, kvs, tups, ⟨orr, off, hm⟩, hsub, hod, hok, hne, hcl⟩ := hJ
    subst hm
    replace F9 : Fr gE L' h10 _ := F9
    replace N9 : News gE L' h10 ((D, o) :: tups) := fun p hp => N9 p (hsub p hp)
    have hO : OrigAll kvs tups := orig_all hok
    clear hsub hok
    repeat' (first | ((fail_if_success (with_reducible show ListRest _ _ _ _ _ _ _ _ _ _ _ _ _ _ _)); first | (k_unfold; (try dsimp only)) | walk1 | (dsimp only; walk1) | (dsimp only; k_unfold; (try dsimp only)) | (dsimp +zetaDelta only)) | fail "no step")
    rename_i Fd h11 lt11 h12 tk12 g12 L12 h13 F13 N13 B13 X13 T13 Md h14 mo1 F14 N14 lo14 hd14 lt14 h15 mo F15 N15 hd15 hf15 Tc15 kX15 Lm h16 tk16 tf0 hv0 tf1 hv1 tf2 hv2 tf3 hv3 tf4 hv4 tf5 hv5 lt16 e16 h17 h18 c18 F1 N1 I1 lt1
    clear F13 N13 B13 X13 T13 F14 N14 hd14 F15 N15 hd15 hf15 Tc15 kX15 hv0 hv1 hv2 hv3 hv4 hv5
    refine list_inv (J := fun i m news => WJ D Fd o kvs [] (fun _ => True) wNames (wB x fs rs t1 t2 tx D Fd) ((MEN.take i).flatMap (wayM fs rs x)) m news) ?stepM ?doneM _ 0 _ _ rfl (Nat.zero_le _) (by k_mem) ?startM
    case startM =>
      refine ⟨[], 0, tups, ?_, fun p hp => .tail _ (.tail _ hp), hO, FoundR.nil, hcl, trivial⟩
      intro y hy
      simp only [wNames, List.map, List.mem_cons, not_or] at hy
      obtain ⟨y1, y2, -⟩ := hy
      simp only [y1, y2, if_false, wB]
    case stepM =>
      clear hO hcl hne N1 F1
      intro i v m9 news9 it h10 tk10 hv hJ hlp hit F9 N9
      obtain ⟨mn, tm, hvE, hmn⟩ := men_at hv
      obtain ⟨fvs, c, tl, hA, hsub, hO, hR, hcl, _⟩ := hJ
      subst hvE
      rw [hA.eq] at F9
      dsimp only [overL, wNames, List.map] at F9
      replace F9 : Fr gE L' h10 _ := F9
      replace N9 : News gE L' h10 ((I1, it) :: (Lm, menL tf0 tf2 tf5 tf1 tf4 tf3 c18) :: (Fd, listOf fvs.toArray c) :: (D, o) :: tl) := fun p hp => N9 p (by
        rcases List.mem_cons.mp hp with e | hp
        · rw [e]; exact .head _
        · rcases List.mem_cons.mp hp with e | hp
          · rw [e]; exact .tail _ hlp
          · exact .tail _ (hsub p hp))
      have hml := men_len hmn
      clear hsub hA hlp hv
      repeat' (first | ((fail_if_success (with_reducible show wpAny _ _ (exec (Stmt.Assign _ _ _) _) _ _ _)); first | (k_unfold; (try dsimp only)) | walk1 | (dsimp only; walk1) | (dsimp only; k_unfold; (try dsimp only)) | (dsimp +zetaDelta only)) | fail "no step")
      refine wpAny_mono (Q := EndsJ gE L' (fun y => if y = Str.ofString "man" then some (.str mn tm) else overL m9 (wB x fs rs t1 t2 tx D Fd) wNames y) (endsOf mn) [(I1, it), (Lm, menL tf0 tf2 tf5 tf1 tf4 tf3 c18), (Fd, listOf fvs.toArray c), (D, o)] tl { s with heap := h10, toks := tk10 }) ?ja (fun f s' hJ => ?jb) (fun _ _ e => e)
      case ja =>
        repeat' (first | ((fail_if_success (with_reducible show EndsJ _ _ _ _ _ _ _ _ _)); first | (k_unfold; (try dsimp only)) | walk1 | (dsimp only; walk1) | (dsimp only; k_unfold; (try dsimp only)) | (dsimp +zetaDelta only)) | fail "no step")
        · rename_i hE9 _ _ _ _ _ hpr9 hct9 _ _ _ lt9 _ F8 N8
          exact endsJ_1 hE9 F8 N8 hpr9 hct9 hcl (ltN (by omega)) (ltN (by omega)) (ltN (by omega)) (ltN (by omega))
        · rename_i hE9 _ _ _ _ _ lt9 _ F8 N8
          exact endsJ_2 hE9 F8 N8 hcl (ltN (by omega)) (ltN (by omega)) (ltN (by omega)) (ltN (by omega))
      case jb =>
        clear N9 F9
        obtain ⟨hf9, h11, n11, a11, evs, c11, tl2, hs9, F9, N9, hlt9, hsub2, hpr, hcl2⟩ := hJ
        subst hf9 hs9
        replace hO := hO.sub hsub2
        replace hR := hR.sub hsub2
        clear hcl hsub2
        simp only [List.cons_append, List.nil_append] at N9
        have hx1 := hlt9 _ (.head _)
        have hx2 := hlt9 _ (.tail _ (.head _))
        have hx3 := hlt9 _ (.tail _ (.tail _ (.head _)))
        have hx4 := hlt9 _ (.tail _ (.tail _ (.tail _ (.head _))))
        clear hlt9
        dsimp only [overL, wNames, List.map] at F9
        dsimp only
        repeat' (first | ((fail_if_success (with_reducible show ItemsRest _ _ _ _ _ _ _ _ _ _ _ _ _ _ _)); first | (k_unfold; (try dsimp only)) | walk1 | (dsimp only; walk1) | (dsimp only; k_unfold; (try dsimp only)) | (dsimp +zetaDelta only)) | fail "no step")
        rename_i I2 lt2
        refine items_inv (J := fun j m news => WJ D Fd o kvs [(a11, listOf evs.toArray c11), (I1, it), (Lm, menL tf0 tf2 tf5 tf1 tf4 tf3 c18)] (fun T => PR evs (endsOf mn) T) wNames2 (mk2 a11 mn tm (wB x fs rs t1 t2 tx D Fd)) ((MEN.take i).flatMap (wayM fs rs x) ++ ((endsOf mn).take j).flatMap (wayE fs rs x mn)) m news) ?stepE ?doneE _ 0 _ _ rfl (Nat.zero_le _) ?startE
        case startE =>
          exact ⟨_, _, tl2, agree_mk2, fun p hp => hp, hO, by rw [List.take_zero, List.flatMap_nil, List.append_nil]; exact hR, hcl2, hpr⟩
        case stepE =>
          clear hO hR hpr hcl2
          intro j v m12 news12 its h12 tk12 hv hJ hits F9 N9
          obtain ⟨oI, hitsE, hoI⟩ := objs1 hits
          obtain ⟨fvs, c, tl, hA, hsub, hO, hR, hcl, hpr⟩ := hJ
          obtain ⟨en, md, at9, te9, tm9, hem, hvE, hat⟩ := hpr.at hv
          subst hvE hitsE
          rw [hA.eq] at F9
          dsimp only [overL, wNames2, List.map] at F9
          replace F9 : Fr gE L' h12 _ := F9
          replace N9 : News gE L' h12 ((I2, oI) :: (at9, tupS en te9 md tm9) :: (a11, listOf evs.toArray c11) :: (I1, it) :: (Lm, menL tf0 tf2 tf5 tf1 tf4 tf3 c18) :: (Fd, listOf fvs.toArray c) :: (D, o) :: tl) := fun p hp => N9 p (by
            rcases List.mem_cons.mp hp with e | hp
            · rw [e]; exact .head _
            · refine List.mem_append_right _ (hsub p ?_)
              rcases List.mem_cons.mp hp with e | hp
              · rw [e]; simp only [List.cons_append, List.nil_append]; exact .tail _ (.tail _ (.tail _ (.tail _ (.tail _ hat))))
              · exact hp)
          obtain ⟨hel, hmdl⟩ := ends_len hem
          clear hsub hA hv
          repeat' (first | ((fail_if_success (with_reducible show ItemsRest _ _ _ _ _ _ _ _ _ _ _ _ _ _ _)); first | (k_unfold; (try dsimp only)) | walk1 | (dsimp only; walk1) | (dsimp only; k_unfold; (try dsimp only)) | (dsimp +zetaDelta only)) | fail "no step")
          · with_reducible rename Fr _ _ _ _ => F3
            with_reducible rename News _ _ _ _ => N3
            obtain ⟨q1, q2, q3, q4, q5, q6⟩ := lt2
            refine endW F3 N3 (.head _) (iter_ne hoI (by decide)) (fun p hp => mem_e9 hp) ⟨q1, q2, q3, q4, q5, trivial⟩ (Agree.ite (by simp [wNames2]) (Agree.ite (by simp [wNames2]) (Agree.ite (by simp [wNames2]) Agree.over))) hO (hR.turn0 hem (wayE_n1 (by with_reducible assumption))) hcl hpr
          · with_reducible rename Fr _ _ _ _ => F3
            with_reducible rename News _ _ _ _ => N3
            obtain ⟨q1, q2, q3, q4, q5, q6⟩ := lt2
            refine endW F3 N3 (.head _) (iter_ne hoI (by decide)) (fun p hp => mem_e9 hp) ⟨q1, q2, q3, q4, q5, trivial⟩ (Agree.ite (by simp [wNames2]) (Agree.ite (by simp [wNames2]) (Agree.ite (by simp [wNames2]) Agree.over))) hO (hR.turn0 hem (wayE_n2 (by with_reducible assumption))) hcl hpr
          · with_reducible rename Fr _ _ _ _ => F3
            with_reducible rename News _ _ _ _ => N3
            obtain ⟨mm3, hm3, F4⟩ := name_map F3
            rename_i Dp h20 lt20 h21 h22 h23 Dc h24 lt24 I3 lt3
            refine items_inv (J := fun j' m news => WJ D Fd o kvs [(Dc, tupS E0 tk XS (tk + 1)), (I2, oI), (a11, listOf evs.toArray c11), (I1, it), (Lm, menL tf0 tf2 tf5 tf1 tf4 tf3 c18)] (fun T => PR evs (endsOf mn) T) wNames3 mm3 ((MEN.take i).flatMap (wayM fs rs x) ++ ((endsOf mn).take j).flatMap (wayE fs rs x mn) ++ ([E0, XS].take j').flatMap (wayC fs rs mn md (innerF x mn en))) m news) ?stepC ?doneC _ 0 _ _ rfl (Nat.zero_le _) ?startC
            case startC =>
              exact ⟨_, _, tl, fun y _ => by rw [hm3], fun p hp => mem_s9 hp, hO, by rw [List.take_zero, List.flatMap_nil, List.append_nil]; exact hR, hcl, hpr⟩
            case doneC =>
              have ha3 : Agree wNames2 (mk2 a11 mn tm (wB x fs rs t1 t2 tx D Fd)) mm3 := by
                rw [hm3]
                exact Agree.ite (by simp [wNames2]) (Agree.ite (by simp [wNames2]) (Agree.ite (by simp [wNames2]) (Agree.ite (by simp [wNames2]) (Agree.ite (by simp [wNames2]) Agree.over))))
              clear hO hR hpr hcl F3 N3 F4 hm3
              intro m13 news13 h13 tk13 hJ F9 N9
              obtain ⟨fvs, c, tl, hA, hsub, hO, hR, hcl, hpr⟩ := hJ
              dsimp only
              k_steps
              obtain ⟨q1, q2, q3, q4, q5, q6⟩ := lt2
              refine endW (all := (I2, oI) :: (a11, listOf evs.toArray c11) :: (I1, it) :: (Lm, menL tf0 tf2 tf5 tf1 tf4 tf3 c18) :: (Fd, listOf fvs.toArray c) :: (D, o) :: tl) F9 (fun p hp => N9 p (hsub p (.tail _ hp))) (.head _) (iter_ne hoI (by decide)) (fun p hp => .tail _ hp) ⟨q1, q2, q3, q4, q5, trivial⟩ (hA.trans (by simp [wNames2, wNames3]) ha3) hO (hR.turn hem (wayE_y (by with_reducible assumption) (by with_reducible assumption))) hcl hpr
            case stepC =>
              have wm : WayTurn := trivial
              clear hO hR hpr hcl F3 N3 F4 hat lt20 lt24
              intro j' v m13 news13 its h13 tk13 hv hJ hits F9 N9
              obtain ⟨oI3, hitsE, hoI3⟩ := objs1 hits
              obtain ⟨fvs, c, tl, hA, hsub, hO, hR, hcl, hpr⟩ := hJ
              obtain ⟨hj', tc, hvE⟩ := cr_at hv
              subst hvE hitsE
              rw [hA.eq] at F9
              dsimp only [overL, wNames3, List.map] at F9
              rw [hm3] at F9
              replace F9 : Fr gE L' h13 _ := F9
              replace N9 : News gE L' h13 ((I3, oI3) :: (Dc, tupS E0 tk XS (tk + 1)) :: (I2, oI) :: (a11, listOf evs.toArray c11) :: (I1, it) :: (Lm, menL tf0 tf2 tf5 tf1 tf4 tf3 c18) :: (Fd, listOf fvs.toArray c) :: (D, o) :: tl) := fun p hp => N9 p (by
                rcases List.mem_cons.mp hp with e | hp
                · rw [e]; exact .head _
                · exact List.mem_append_right _ (hsub p hp))
              have hcl3 := crN_len j'
              clear hsub hA hv
              have hil : (Txt.slice x (some ↑mn.length) (some (↑x.length - ↑en.length))).length ≤ 100 := by omega
              generalize hin : Txt.slice x (some ↑mn.length) (some (↑x.length - ↑en.length)) = inner at F9 hil hm3
              generalize hfi : Txt.find (Txt.slice (Str.ofString "abcdefgh") none (some fs)) (Txt.slice inner (some (-2)) (some (-1))) = fi at F9 hm3
              generalize hra : Txt.find (Txt.slice (Str.ofString "12345678") none (some rs)) (Txt.slice inner (some (-1)) none) = ra at F9 hm3
              repeat' (first | ((fail_if_success (with_reducible show wpAny _ _ (exec (Stmt.If _ _ _ _) _) _ _ _)); first | (k_unfold; (try dsimp only)) | walk1 | (dsimp only; walk1) | (dsimp only; k_unfold; (try dsimp only)) | (dsimp +zetaDelta only)) | fail "no step")
              with_reducible rename Fr _ _ _ _ => F3
              have hal : (Txt.slice inner none (some (↑inner.length - 2 - ↑(crN j').length))).length ≤ 100 := by omega
              generalize hah : Txt.slice inner none (some (↑inner.length - 2 - ↑(crN j').length)) = ah at F3 hal
              walk1
              repeat' (first | ((fail_if_success (with_reducible show wpAny _ _ (exec (Stmt.If _ _ _ _) _) _ _ _)); first | (k_unfold; (try dsimp only)) | walk1 | (dsimp only; walk1) | (dsimp only; k_unfold; (try dsimp only)) | (dsimp +zetaDelta only)) | fail "no step")
              · with_reducible rename Fr _ _ _ _ => F5
                with_reducible rename News _ _ _ _ => N5
                obtain ⟨q1, q2, q3, q4, q5, q6, q7, q8, q9, q10⟩ := lt3
                exact endW F5 N5 (.head _) (iter_ne hoI3 (by decide)) (fun p hp => mem_c9 hp) ⟨q1, q3, q5, q6, q7, q8, q9, trivial⟩ (Agree.ite (by simp [wNames3]) (Agree.ite (by simp [wNames3]) (Agree.overE hm3))) hO (hR.turn0 (cr_get hj') (wayC_n1 hin hah (by with_reducible assumption))) hcl hpr
              · with_reducible rename Fr _ _ _ _ => F5
                with_reducible rename News _ _ _ _ => N5
                obtain ⟨q1, q2, q3, q4, q5, q6, q7, q8, q9, q10⟩ := lt3
                exact endW F5 N5 (.tail _ (.head _)) (iter_ne hoI3 (by decide)) (fun p hp => mem_c9' hp) ⟨q1, q3, q5, q6, q7, q8, q9, trivial⟩ (Agree.ite (by simp [wNames3]) (Agree.ite (by simp [wNames3]) (Agree.overE hm3))) hO (hR.turn0 (cr_get hj') (wayC_n2 hin hfi (by with_reducible assumption))) hcl hpr
              · with_reducible rename Fr _ _ _ _ => F5
                with_reducible rename News _ _ _ _ => N5
                obtain ⟨q1, q2, q3, q4, q5, q6, q7, q8, q9, q10⟩ := lt3
                exact endW F5 N5 (.tail _ (.head _)) (iter_ne hoI3 (by decide)) (fun p hp => mem_c9' hp) ⟨q1, q3, q5, q6, q7, q8, q9, trivial⟩ (Agree.ite (by simp [wNames3]) (Agree.ite (by simp [wNames3]) (Agree.overE hm3))) hO (hR.turn0 (cr_get hj') (wayC_n3 hin hra (by with_reducible assumption))) hcl hpr
              · with_reducible rename Fr _ _ _ _ => F5
                with_reducible rename News _ _ _ _ => N5
                with_reducible rename cutF _ = some _ => hcf
                rename_i h5 t5 k5 hl5 hc1 f9 r9 a9 tf9 tr9 hv9 hm9 hfi0 hra0
                walk1
                refine wpAny_mono (Q := BJ (mn ≠ E0 ∨ crN j' = E0 ∨ 0 ≤ f9) { s with heap := h5 }) ?ja (fun b s' hJ => ?jb) (fun _ _ e => e)
                case ja =>
                  repeat' (first | ((fail_if_success (with_reducible show BJ _ _ _ _)); first | (k_unfold; (try dsimp only)) | walk1 | (dsimp only; walk1) | (dsimp only; k_unfold; (try dsimp only)) | (dsimp +zetaDelta only)) | fail "no step")
                  · exact bj_yes (.inl (neq_of (by with_reducible assumption)))
                  · exact bj_yes (.inr (.inl (by with_reducible assumption)))
                  · exact bj_yes (.inr (.inr (by omega)))
                  · exact bj_no (by rintro (q | q | q); exact q (eq_of_neq (by with_reducible assumption)); exact absurd q (by with_reducible assumption); omega)
                case jb =>
                  obtain ⟨hb, tk6, hs⟩ := hJ
                  subst hs
                  have hway := wayC_eq (md := md) hin hah hcf hc1 hfi hra hfi0 hra0
                  repeat' (first | ((fail_if_success (with_reducible show wpAny _ _ (exec (Stmt.Assign _ _ _) _) _ _ _)); first | (k_unfold; (try dsimp only)) | walk1 | (dsimp only; walk1) | (dsimp only; k_unfold; (try dsimp only)) | (dsimp +zetaDelta only)) | fail "no step")
                  · rename_i hbt
                    have hP := hb.mp hbt
                    rw [if_pos hP] at hway
                    have hmM := List.mem_of_getElem? hmn
                    have hmB := bec_of hem
                    (try k_unmd)
                    have hfl := found_len hR
                    repeat' (first | ((fail_if_success (with_reducible show UnrEndW _ _ _ _ _ _)); first | (k_unfold; (try dsimp only)) | walk1 | (dsimp only; walk1) | (dsimp only; k_unfold; (try dsimp only)) | (dsimp +zetaDelta only)) | fail "no step")
                    rename_i tM _ _ _ _ _ _ _ _ _ _ _ _ _ _ _ tB _ _ _ _ T9 h25 N25 l25 h26 n26 F26 hL26
                    obtain ⟨q1, q2, q3, q4, q5, q6, q7, q8, q9, q10⟩ := lt3
                    have qL : Fd < Lm := lt16.2.1
                    clear l25 lt16 lt2 lt1 lt14 lt11 qk ek
                    refine endW (kp := (Dc, tupS E0 _ XS _)) (X := [(I2, oI), (a11, listOf evs.toArray c11), (I1, it), (Lm, menL tf0 tf2 tf5 tf1 tf4 tf3 c18)]) (fvs := fvs ++ [Value.ref T9]) (c := n26) (tl := (T9, datObj (menK mn, f9, r9, decide (crN j' = XS), ra * fs + fi, becK md) tM tf9 tr9 (tk6 + 1) tB) :: tl) (all := (I3, oI3) :: (Dc, tupS E0 _ XS _) :: (I2, oI) :: (a11, listOf evs.toArray c11) :: (I1, it) :: (Lm, menL tf0 tf2 tf5 tf1 tf4 tf3 c18) :: (Fd, listOf (fvs ++ [Value.ref T9]).toArray n26) :: (D, o) :: (T9, datObj (menK mn, f9, r9, decide (crN j' = XS), ra * fs + fi, becK md) tM tf9 tr9 (tk6 + 1) tB) :: tl)
                      F26 (hL26 _ ?hl) (.head _) (iter_ne hoI3 (by decide)) (fun p hp => .tail _ hp) ⟨q1, q3, q5, q6, q7, q8, q9, trivial⟩ (Agree.ite (by simp [wNames3]) (Agree.ite (by simp [wNames3]) (Agree.ite (by simp [wNames3]) (Agree.overE hm3)))) (hO.sub fun p hp => .tail _ hp) (FoundR.turn ((hR.sub fun p hp => .tail _ hp).snoc (.head _)) (cr_get hj') hway) ?hc (hpr.sub fun p hp => .tail _ hp)
                    case hc =>
                      intro p hp
                      rcases List.mem_cons.mp hp with e | hp
                      · rw [e]; rfl
                      · exact hcl p hp
                    case hl =>
                      intro p hp
                      simp only [List.mem_cons] at hp
                      rcases hp with e | e | e | e | e | e | e | e | e | hp
                      · subst e; exact .inr ⟨by k_mem, .inl (Nat.ne_of_gt q8)⟩
                      · subst e; exact .inr ⟨by k_mem, .inr (cls_list rfl)⟩
                      · subst e; exact .inr ⟨by k_mem, .inr (cls_list hoI)⟩
                      · subst e; exact .inr ⟨by k_mem, .inl (Nat.ne_of_gt hx3)⟩
                      · subst e; exact .inr ⟨by k_mem, .inr (cls_list hit)⟩
                      · subst e; exact .inr ⟨by k_mem, .inl (Nat.ne_of_gt qL)⟩
                      · exact .inl e
                      · subst e; exact .inr ⟨by k_mem, .inr (cls_list (isDict_cls hod))⟩
                      · subst e; exact .inr ⟨.head _, .inr (cls_list rfl)⟩
                      · exact .inr ⟨by repeat (first | with_reducible exact hp | with_reducible refine List.mem_cons_of_mem _ ?_), .inr (cls_list (hcl p hp))⟩
                  · rename_i hbf
                    have hP : ¬ (mn ≠ E0 ∨ crN j' = E0 ∨ 0 ≤ f9) := fun q => by rw [hb.mpr q] at hbf; cases hbf
                    rw [if_neg hP] at hway
                    obtain ⟨q1, q2, q3, q4, q5, q6, q7, q8, q9, q10⟩ := lt3
                    exact endW F5 N5 (.tail _ (.head _)) (iter_ne hoI3 (by decide)) (fun p hp => mem_c9' hp) ⟨q1, q3, q5, q6, q7, q8, q9, trivial⟩ (Agree.ite (by simp [wNames3]) (Agree.ite (by simp [wNames3]) (Agree.overE hm3))) hO (hR.turn0 (cr_get hj') hway) hcl hpr
              · with_reducible rename Fr _ _ _ _ => F5
                with_reducible rename News _ _ _ _ => N5
                obtain ⟨q1, q2, q3, q4, q5, q6, q7, q8, q9, q10⟩ := lt3
                exact endW F5 N5 (.head _) (iter_ne hoI3 (by decide)) (fun p hp => mem_c9 hp) ⟨q1, q3, q5, q6, q7, q8, q9, trivial⟩ (Agree.ite (by simp [wNames3]) (Agree.ite (by simp [wNames3]) (Agree.overE hm3))) hO (hR.turn0 (cr_get hj') (wayC_n0 hin hah (by with_reducible assumption))) hcl hpr
        case doneE =>
          clear hO hR hcl2
          intro m13 news13 h13 tk13 hJ F9 N9
          obtain ⟨fvs, c, tl, hA, hsub, hO, hR, hcl, _⟩ := hJ
          dsimp only
          k_steps
          obtain ⟨q1, q2, q3, q4, q5⟩ := lt1
          refine endL (all := (a11, listOf evs.toArray c11) :: (I1, it) :: (Lm, menL tf0 tf2 tf5 tf1 tf4 tf3 c18) :: (Fd, listOf fvs.toArray c) :: (D, o) :: tl) F9 (fun p hp => N9 p (hsub p hp)) (.tail _ (.head _)) (iter_ne hit (by decide)) (.tail _ (.tail _ (.head _))) q1 (fun p hp => .tail _ (.tail _ (.tail _ hp))) ⟨q3, q4, trivial⟩ (agree_back hA) hO (hR.turnE hpr.len hmn) hcl trivial
    case doneM =>
      intro m9 news9 h10 tk10 hJ F9 N9
      obtain ⟨fvs, c, tl, hA, hsub, hO', hR, hcl, _⟩ := hJ
      rw [hA.eq] at F9
      dsimp only [overL, wNames, List.map] at F9
      replace F9 : Fr gE L' h10 _ := F9
      replace N9 : News gE L' h10 ((Fd, listOf fvs.toArray c) :: (D, o) :: tl) := fun p hp => N9 p (hsub p hp)
      clear hsub hA F1 N1 hO
      k_steps
      refine leave_pureN (by k_asm) (by k_asm) hgE (fun hk9 hN9 => ?_)
      dsimp only
      exact hret Fd h10 tk10 fvs c tl hk9 (fun p hp => hN9 p (mem_skip2 hp)) (ways_all hR)
end
end
section
theorem rsN1 : True := by first | (w_top off; walk1) | trivial
/-- the tree of the law: cells and a count -/
abbrev treeK (C : Addr) (p : Int) (t : Tok) : List (PySem.Str × Value) := [(Str.ofString "cells", .ref C), (Str.ofString "plucked", .int p t)]
theorem tree_keep {h h' g h₀ : Heap} {L L' Tr C : Addr} {o o' l : Obj} (N : News h₀ L h [(Tr, o), (C, l)]) (N' : News g L' h' [(Tr, o'), (C, l)]) (hg : ∀ b x, h.get? b = some x → b ∉ [(Tr, o), (C, l)].map (·.1) → g.get? b = some x) (kk : Kp g h') :
    ∀ b x, b ≠ Tr → h.get? b = some x → h'.get? b = some x := by
  intro b x hb e
  by_cases hC : b = C
  · subst hC
    have h1 := (N _ (.tail _ (.head _))).1
    have h2 := (N' _ (.tail _ (.head _))).1
    rw [e] at h1
    rw [Option.some.inj h1]
    exact h2
  · exact kk b x (hg b x e (fun q => by
      rcases List.mem_cons.mp q with q | q
      · exact hb q
      · exact hC (List.mem_singleton.mp q)))
section
local macro_rules | `(tactic| walk_at "setItem ref") => `(tactic| ((with_reducible show wpAny _ _ (setItem (Value.ref _) (Value.str _ _) _) _ _ _); k_dflt (refine' kda_set (knd := PySem.strKind _ _) ?F ?N ?U ?d (strKind_is _ _ _ _) ?z ?_; (case F => k_asm); (case N => k_asm); (case U => k_updF); (case d => k_asm); (case z => exact Nat.le_of_ble_eq_true rfl)); intro h' o' F' N' hd'; (try dsimp only at N'); (try k_sweep)))
set_option maxHeartbeats 1000000 in
theorem pluck_ctr (w : World) (mean : ExcName → Option Value) (mg mb : Str → Option Value) (many p : Int) (tm tp : Tok) (Tr C : Addr) (o : Obj) (vs : List Value) (ns : List Int) (c : Nat) (hm1 : 1 ≤ many) (hm2 : many ≤ 1000) (hp1 : 0 ≤ p) (hp2 : p ≤ 1000) (hI : IntsAre vs ns) (hn : ns.length ≤ 60)
  (hT : o.IsDictOf (PySem.strKind PySem.Challenge.pw_pf0092_01 w) (treeK C p tp)) (hlo : (Tr == sysModules) = false) (hlt : @LT.lt Nat _ Tr C) :
  ∀ (dp un : Nat) (gd : Option (List Code)) (cn : Str) (cs : Scope) (a : Addr) (ccd : Value) (cl : List (Str × Addr)) (outer : List Env) (A₀ : Around) (base h₀ : Heap) (L : Addr) (m : Str → Option Value) (s : Shared) (Q E : Value → Shared → Prop),
    Below A₀ base outer h₀ → Fr h₀ L s.heap m → (Mine.hd.heap_39 w.params).In h₀ → Top Mine.look (looseW Mine.look []) mean mg mb h₀ → cs.kind = .function → dp + 4 < recursionLimit → un + 100 < cLine → News h₀ L s.heap [(Tr, o), (C, listOf vs.toArray c)] →
    (∀ r t o' t' h' tk', 0 ≤ r → r < many → o'.IsDictOf (PySem.strKind PySem.Challenge.pw_pf0092_01 w) (treeK C (p + 1) t') → (∀ b x, b ≠ Tr → s.heap.get? b = some x → h'.get? b = some x) → h'.get? Tr = some o' → Q (.int r t) { s with heap := h', toks := tk' }) →
    wpAny (model PySem.Challenge.pw_pf0092_01 w) (ktrTop dp un gd cn cs L a ccd cl outer) (call (.ref 128) [.ref Tr, .int many tm]) Q E s := by
  (have e9 : PySem.Challenge.rw_pf0092_01 = PySem.Challenge.rw_pf0092_01 := rfl); revert e9; k_fill; intro _
  intro dp un gd cn cs a ccd cl outer A₀ base h₀ L m s Q E B F X T hk hd hu N hret
  refine wpAny_call ?_
  k_dflt (refine' enterG (news := [(Tr, o), (C, listOf vs.toArray c)]) (binds := [(Str.ofString "tree", Value.ref Tr), (Str.ofString "many", Value.int many tm)]) ?k1 ?k2 ?k3 ?k4 ?k5 ?kA ?kF ?kK ?k6 ?k7 ?k8 ?k9 ?kB ?_ ?c2 ?c3 ?c4 ?c5; (case kA => exact rfl); (case kF => exact rfl); (case kK => assumption); (case k1 => k_asm); (case k2 => k_asm); (case k3 => k_asm); (case k4 => first | exact News.nil | k_asm); (case k5 => k_asm); (case k6 => k_is); (case k7 => k_is); (case k8 => ktr_room); (case k9 => exact BindsTo.of_eq rfl); (case c5 => decide); (case kB => exact locs rfl); (case c2 => exact rfl); (case c3 => exact rfl); (case c4 => exact rfl); k_whole; intro gE L' h' hgE hgS FG' F' N' B' X' T' lE; (try dsimp only); (try k_fold))
  clear B F X T
  repeat' (first | ((fail_if_success (with_reducible show LeaveK _ _ _ _ _ _ _)); first | (k_unfold; (try dsimp only)) | walk1 | (dsimp only; walk1) | (dsimp only; k_unfold; (try dsimp only)) | (dsimp +zetaDelta only)) | fail "no step")
  all_goals ((try dsimp only); (try k_unfold); (try dsimp only))
  all_goals (with_reducible rename News _ _ _ _ => N9)
  all_goals (with_reducible rename Fr _ _ _ _ => F9)
  all_goals (with_reducible rename Obj.IsDictOf _ _ _ => hd9)
  all_goals refine leaveK_ F9 N9 (fun _ _ kk => ?_)
  all_goals dsimp only
  all_goals refine hret _ _ _ _ _ _ ?_ ?_ hd9 (tree_keep N N9 hgE kk) (N9 _ (.head _)).1
  all_goals first | exact Int.fmod_nonneg_of_pos _ (by omega) | exact Int.fmod_lt_of_pos _ (by omega) | exact Int.emod_nonneg _ (by omega) | exact Int.emod_lt_of_pos _ (by omega)
end
end
section
theorem rsN2 : True := by first | (w_top off; walk1) | trivial
theorem fr_tree {h₀ h h' : Heap} {L Tr : Addr} {m : PySem.Str → Option Value} (F : Fr h₀ L h m) (k : ∀ b x, b ≠ Tr → h.get? b = some x → h'.get? b = some x) (hL : Tr ≠ L) (hn : h₀.get? Tr = none) : Fr h₀ L h' m := by
  obtain ⟨oL, a1, a2, hoL, a3⟩ := F.ns
  refine ⟨⟨oL, a1, a2, k L oL hL.symm hoL, a3⟩, fun b x e => k b x ?_ (F.keep b x e), F.above⟩
  rintro rfl
  rw [hn] at e
  cases e
theorem news_two {h₀ h : Heap} {L : Addr} {l : List (Addr × Obj)} {p q : Addr × Obj} (N : News h₀ L h l) (hp : p ∈ l) (hq : q ∈ l) : News h₀ L h [p, q] := fun r hr => by
  rcases List.mem_cons.mp hr with e | hr
  · rw [e]; exact N _ hp
  · rw [List.mem_singleton.mp hr]; exact N _ hq
theorem news_but {h₀ h h' : Heap} {L Tr : Addr} {o o' : Obj} {l : List (Addr × Obj)} {g : Obj → List (Addr × Obj)} (N : News h₀ L h l) (U : UpdF Tr o l g) (k : ∀ b x, b ≠ Tr → h.get? b = some x → h'.get? b = some x) (ho : h'.get? Tr = some o') : News h₀ L h' (g o') := by
  obtain ⟨pre, post, rfl, hg, a, b⟩ := U.split
  rw [hg]
  intro p hp
  rcases List.mem_append.mp hp with hp | hp
  · have z := N p (List.mem_append_left _ hp)
    exact ⟨k _ _ (a p hp) z.1, z.2⟩
  · rcases List.mem_cons.mp hp with e | hp
    · rw [e]
      exact ⟨ho, (N (Tr, o) (List.mem_append_right _ (.head _))).2⟩
    · have z := N p (List.mem_append_right _ (.tail _ hp))
      exact ⟨k _ _ (b p hp) z.1, z.2⟩
theorem updF_mem {d : Addr} {o : Obj} {l : List (Addr × Obj)} {g : Obj → List (Addr × Obj)} (U : UpdF d o l g) : (d, o) ∈ l := by
  obtain ⟨pre, post, rfl, _⟩ := U.split
  exact List.mem_append_right _ (.head _)
/-- a count that is not large -/
structure PB (b : Nat) (p : Int) : Prop where
  lo : 0 ≤ p
  hi : p ≤ (b : Int)
theorem PB.next {b : Nat} {p : Int} (h : PB b p) : PB (b + 1) (p + 1) := ⟨by have := h.lo; omega, by have := h.hi; omega⟩
theorem pluck_use (w : World) (mean : ExcName → Option Value) (mg mb : Str → Option Value) (many p : Int) (tm tp : Tok) (Tr C : Addr) (o : Obj) (vs : List Value) (ns : List Int) (c : Nat) (news : List (Addr × Obj)) (g : Obj → List (Addr × Obj)) (bd : Nat) (hm1 : 1 ≤ many) (hm2 : many ≤ 1000) (hP : PB bd p) (hbd : bd ≤ 1000) (hI : IntsAre vs ns) (hn : ns.length ≤ 60)
  (hT : o.IsDictOf (PySem.strKind PySem.Challenge.pw_pf0092_01 w) (treeK C p tp)) (hlo : (Tr == sysModules) = false) (hlt : @LT.lt Nat _ Tr C) :
  ∀ (dp un : Nat) (gd : Option (List Code)) (cn : Str) (cs : Scope) (a : Addr) (ccd : Value) (cl : List (Str × Addr)) (outer : List Env) (A₀ : Around) (base h₀ : Heap) (L : Addr) (m : Str → Option Value) (s : Shared) (Q E : Value → Shared → Prop),
    Below A₀ base outer h₀ → Fr h₀ L s.heap m → (Mine.hd.heap_39 w.params).In h₀ → Top Mine.look (looseW Mine.look []) mean mg mb h₀ → cs.kind = .function → dp + 4 < recursionLimit → un + 100 < cLine → News h₀ L s.heap news → UpdF Tr o news g → (C, listOf vs.toArray c) ∈ news →
    (∀ r t o' t' h' tk', PB (bd + 1) (p + 1) → 0 ≤ r → r < many → o'.IsDictOf (PySem.strKind PySem.Challenge.pw_pf0092_01 w) (treeK C (p + 1) t') → Fr h₀ L h' m → News h₀ L h' (g o') → Q (.int r t) { s with heap := h', toks := tk' }) →
    wpAny (model PySem.Challenge.pw_pf0092_01 w) (ktrTop dp un gd cn cs L a ccd cl outer) (call (.ref 128) [.ref Tr, .int many tm]) Q E s := by
  intro dp un gd cn cs a ccd cl outer A₀ base h₀ L m s Q E B F X T hk hd hu N U hC hret
  have hTm := N _ (updF_mem U)
  refine pluck_ctr _ _ _ _ many p tm tp Tr C o vs ns c hm1 hm2 hP.lo (by have := hP.hi; omega) hI hn hT hlo hlt _ _ _ _ _ _ _ _ _ _ _ _ _ _ _ _ _ B F X T hk hd hu (news_two N (updF_mem U) hC) fun r t o' t' h' tk' h0 h1 hT' hk' ho' => ?_
  exact hret r t o' t' h' tk' hP.next h0 h1 hT' (fr_tree F hk' hTm.2.1 hTm.2.2) (news_but N U hk' ho')
abbrev wordM (Tr : Addr) (y : PySem.Str) (ty : Tok) (og : Int) (to : Tok) : PySem.Str → Option Value := fun z => if z = Str.ofString "text" then some (Value.str y ty) else if z = Str.ofString "origin" then some (Value.int og to) else if z = Str.ofString "tree" then some (Value.ref Tr) else none
theorem word_map {Tr : Addr} {y : PySem.Str} {ty to : Tok} {og : Int} : (fun z => if z = Str.ofString "origin" then some (Value.int og to) else if z = Str.ofString "text" then some (Value.str y ty) else List.lookup z [(Str.ofString "tree", Value.ref Tr)].reverse) = wordM Tr y ty og to := by
  funext z
  show (if z = _ then _ else if z = _ then _ else List.lookup z [(Str.ofString "tree", Value.ref Tr)]) = if z = _ then _ else if z = _ then _ else if z = _ then _ else _
  by_cases h1 : z = Str.ofString "text"
  · rw [h1, if_neg (by decide), if_pos rfl, if_pos rfl]
  · rw [if_neg h1, if_neg h1]
    by_cases h2 : z = Str.ofString "origin"
    · rw [if_pos h2, if_pos h2]
    · rw [if_neg h2, if_neg h2]
      by_cases h3 : z = Str.ofString "tree"
      · rw [if_pos h3, List.lookup_cons, beq_iff_eq.mpr h3]
      · rw [if_neg h3, List.lookup_cons, beq_eq_false_iff_ne.mpr h3]; rfl
theorem word_text {Tr : Addr} {y y' : PySem.Str} {ty ty' to : Tok} {og : Int} : (fun z => if z = Str.ofString "text" then some (Value.str y' ty') else wordM Tr y ty og to z) = wordM Tr y' ty' og to := by
  funext z
  by_cases h1 : z = Str.ofString "text"
  · rw [if_pos h1]; show _ = if z = _ then _ else _; rw [if_pos h1]
  · rw [if_neg h1]; show (if z = _ then _ else _) = if z = _ then _ else _; rw [if_neg h1, if_neg h1]
/-- between two tests of _law_word -/
def WordJ (prog : Program) (w : World) (gE : Heap) (L' Tr C : Addr) (l : Obj) (og : Int) (to : Tok) (k b : Nat) (q : Int) (s : Shared) (f : Flow) (s' : Shared) : Prop :=
  f = .next ∧ ∃ h n y ty o' p' t', s' = { s with heap := h, toks := n } ∧ Fr gE L' h (wordM Tr y ty og to) ∧ News gE L' h [(Tr, o'), (C, l)] ∧ o'.IsDictOf (PySem.strKind prog w) (treeK C p' t') ∧ y.length ≤ k ∧ PB b p' ∧ p' ≤ q
theorem wordJ_no {prog : Program} {w : World} {gE h : Heap} {L' Tr C : Addr} {l o' : Obj} {og q p' : Int} {to ty t' : Tok} {k b b' n : Nat} {s : Shared} {y : PySem.Str} {all : List (Addr × Obj)} (F : Fr gE L' h (wordM Tr y ty og to)) (N : News gE L' h all) (h1 : (Tr, o') ∈ all) (h2 : (C, l) ∈ all) (hT : o'.IsDictOf (PySem.strKind prog w) (treeK C p' t')) (hy : y.length ≤ k) (hP : PB b p') (hb : b ≤ b') (hq : p' ≤ q) :
    WordJ prog w gE L' Tr C l og to k b' q s .next { s with heap := h, toks := n } :=
  ⟨rfl, h, n, y, ty, o', p', t', rfl, F, news_two N h1 h2, hT, hy, ⟨hP.lo, by have := hP.hi; omega⟩, hq⟩
theorem wordJ_yes {prog : Program} {w : World} {gE h : Heap} {L' Tr C : Addr} {l o' : Obj} {og q p' : Int} {to ty ty' t' : Tok} {k b b' n : Nat} {s : Shared} {y y' : PySem.Str} {all : List (Addr × Obj)} (F : Fr gE L' h (fun z => if z = Str.ofString "text" then some (Value.str y' ty') else wordM Tr y ty og to z)) (N : News gE L' h all) (h1 : (Tr, o') ∈ all) (h2 : (C, l) ∈ all) (hT : o'.IsDictOf (PySem.strKind prog w) (treeK C p' t')) (hy : y'.length ≤ k) (hP : PB b p') (hb : b ≤ b') (hq : p' ≤ q) :
    WordJ prog w gE L' Tr C l og to k b' q s .next { s with heap := h, toks := n } := by
  rw [word_text] at F
  exact wordJ_no F N h1 h2 hT hy hP hb hq
noncomputable def AllShort : List Value → Prop
  | [] => True
  | v :: r => (∃ y t, v = Value.str y t ∧ y.length ≤ 2) ∧ AllShort r
theorem AllShort.at {vs : List Value} (h : AllShort vs) : ∀ {i : Nat} {v : Value}, vs[i]? = some v → ∃ y t, v = .str y t ∧ y.length ≤ 2 := by
  induction vs with
  | nil => intro i v e; cases e
  | cons w r ih =>
    intro i v e
    cases i with
    | zero => rw [← Option.some.inj e]; exact h.1
    | succ i => exact ih h.2 e
local macro_rules | `(tactic| walk_at "call ref") => `(tactic| ((with_reducible show wpAny _ _ (PySem.call (Value.ref 128) _) _ _ _); (with_reducible rename Fr _ _ _ _ => F9); (with_reducible rename News _ _ _ _ => N9); (with_reducible rename Obj.IsDictOf _ _ _ => hT9); (k_dflt (refine' pluck_use _ _ _ _ _ _ _ _ _ _ _ _ _ _ _ _ _ ?p0 ?p1 ?p2 ?p3 ?p4 ?p5 hT9 ?p7 ?p8 _ _ _ _ _ _ _ _ _ _ _ _ _ _ _ _ _ ?B F9 ?X ?T ?kk ?d ?u N9 ?U ?C ?_; (case B => k_asm); (case X => k_asm); (case T => k_asm); (case kk => first | rfl | assumption); (case U => k_updF); (case C => k_mem); (case p0 => first | decide | omega); (case p1 => first | decide | omega); (case p2 => with_reducible assumption); (case p3 => decide); (case p4 => with_reducible assumption); (case p5 => with_reducible assumption); (case p7 => with_reducible assumption); (case p8 => with_reducible assumption); (case d => ktr_room); (case u => ktr_units))); clear F9 N9 hT9; intro r9 t9 o9 t9' h9 tk9 hP9 hr0 hr1 hT9 F9 N9; (try dsimp only at N9); (try dsimp only)))
section
variable {prog : Program} {w : World} {A : Around} {E : Value → Shared → Prop} {s : Shared} {h₀ : Heap} {L l : Addr} {news : List (Addr × Obj)} {vs : List Value} {c : Nat} {Q : Value → Shared → Prop} {value slice : PySem.Expr} {i : Int} {u : Tok} {x : PySem.Str} {t : Tok}
theorem item_listA (N : News h₀ L s.heap news) (hm : (l, listOf vs.toArray c) ∈ news) (hall : AllShort vs) (h0 : 0 ≤ i) (h1 : i < (vs.length : Int)) (hf : vs.length ≤ 1000) (h : ∀ y t', y.length ≤ 2 → Q (.str y t') s)
    (hs : subscripted slice false (.ref l) (.int i u) = operate [.ref l, .int i u] (getItem (.ref l) (.int i u)) := by with_unfolding_all rfl) : wpAny (model prog w) A (subscriptTail value slice (.ref l) (.int i u)) Q E s := by
  have hl := N.isList hm
  have hlt : i.toNat < vs.length := by omega
  have hg : vs[i.toNat]? = some vs[i.toNat] := List.getElem?_eq_getElem hlt
  obtain ⟨y, t, e, hy⟩ := hall.at hg
  refine tail_any hl.typeIs slot_list_getitem.lookup (wpAny_getItem_list (x := .str y t) hl h0 (by omega) (by rw [List.getElem?_toArray, hg, e]) (h y t hy)) hs
theorem item_strA (h0 : 0 ≤ i) (h1 : i < (x.length : Int)) (hf : x.length ≤ 1000) (h : ∀ y t' k, y.length ≤ 1 → Q (.str y t') { s with toks := k })
    (hs : subscripted slice false (.str x t) (.int i u) = operate [.str x t, .int i u] (getItem (.str x t) (.int i u)) := by with_unfolding_all rfl)
    (ht : ∀ r, letTemporaryGo value (.str x t) r = pure () := by intro _; with_unfolding_all rfl) : wpAny (model prog w) A (subscriptTail value slice (.str x t) (.int i u)) Q E s :=
  PyProof.Rows.item_str (fitsSsize_of (N := 9223372036854775808) (by omega) (by omega) (Int.le_refl _)) (by omega) (by omega) (fun hy => h _ _ _ hy.2) hs ht
end
section
local macro_rules | `(tactic| walk_at "subscriptTail List") => `(tactic| ((with_reducible show wpAny _ _ (subscriptTail _ _ (Value.ref _) (Value.int _ _)) _ _ _); (with_reducible rename News _ _ _ _ => lN'); k_dflt (refine' item_listA lN' ?m ?a ?b ?c ?d ?_; (case m => k_mem); (case a => ((repeat refine And.intro ⟨_, _, rfl, by decide +kernel⟩ ?_); exact True.intro)); (case b => with_reducible assumption); (case c => ((with_reducible rename @LT.lt Int _ _ _ => hi9); exact hi9)); (case d => exact Nat.le_of_ble_eq_true rfl)); intro y' t' hy'))
local macro_rules | `(tactic| walk_at "subscriptTail Constant") => `(tactic| ((with_reducible show wpAny _ _ (subscriptTail _ _ (Value.str _ _) (Value.int _ _)) _ _ _); k_dflt (refine' item_strA ?b ?c ?d ?_; (case b => omega); (case c => first | (have e9 : (Str.ofString "abcdefgh").length = 8 := by decide +kernel; omega) | (have e9 : (Str.ofString "12345678").length = 8 := by decide +kernel; omega) | (have e9 : (Str.ofString "abcdefghi").length = 9 := by decide +kernel; omega) | (have e9 : (Str.ofString "123456789").length = 9 := by decide +kernel; omega)); (case d => decide +kernel)); intro y' t' k' hy'))
set_option maxHeartbeats 1000000 in
theorem word_ctr (w : World) (mean : ExcName → Option Value) (mg mb : Str → Option Value) (p : Int) (tp : Tok) (Tr C : Addr) (o : Obj) (vs : List Value) (ns : List Int) (c : Nat) (hp1 : 0 ≤ p) (hp2 : p ≤ 500) (hI : IntsAre vs ns) (hn : ns.length ≤ 60)
  (hT : o.IsDictOf (PySem.strKind PySem.Challenge.pw_pf0092_01 w) (treeK C p tp)) (hlo : (Tr == sysModules) = false) (hlt : @LT.lt Nat _ Tr C) :
  ∀ (dp un : Nat) (gd : Option (List Code)) (cn : Str) (cs : Scope) (a : Addr) (ccd : Value) (cl : List (Str × Addr)) (outer : List Env) (A₀ : Around) (base h₀ : Heap) (L : Addr) (m : Str → Option Value) (s : Shared) (Q E : Value → Shared → Prop),
    Below A₀ base outer h₀ → Fr h₀ L s.heap m → (Mine.hd.heap_39 w.params).In h₀ → Top Mine.look (looseW Mine.look []) mean mg mb h₀ → cs.kind = .function → dp + 8 < recursionLimit → un + 110 < cLine → News h₀ L s.heap [(Tr, o), (C, listOf vs.toArray c)] →
    (∀ x t o' p' t' h' tk', x.length ≤ 10 → 0 ≤ p' → p' ≤ p + 10 → o'.IsDictOf (PySem.strKind PySem.Challenge.pw_pf0092_01 w) (treeK C p' t') → (∀ b x, b ≠ Tr → s.heap.get? b = some x → h'.get? b = some x) → h'.get? Tr = some o' → Q (.str x t) { s with heap := h', toks := tk' }) →
    wpAny (model PySem.Challenge.pw_pf0092_01 w) (ktrTop dp un gd cn cs L a ccd cl outer) (call (.ref 135) [.ref Tr]) Q E s := by
  (have e9 : PySem.Challenge.rw_pf0092_01 = PySem.Challenge.rw_pf0092_01 := rfl); revert e9; k_fill; intro _
  intro dp un gd cn cs a ccd cl outer A₀ base h₀ L m s Q E B F X T hk hd hu N hret
  refine wpAny_call ?_
  k_dflt (refine' enterG (news := [(Tr, o), (C, listOf vs.toArray c)]) (binds := [(Str.ofString "tree", Value.ref Tr)]) ?k1 ?k2 ?k3 ?k4 ?k5 ?kA ?kF ?kK ?k6 ?k7 ?k8 ?k9 ?kB ?_ ?c2 ?c3 ?c4 ?c5; (case kA => exact rfl); (case kF => exact rfl); (case kK => assumption); (case k1 => k_asm); (case k2 => k_asm); (case k3 => k_asm); (case k4 => first | exact News.nil | k_asm); (case k5 => k_asm); (case k6 => k_is); (case k7 => k_is); (case k8 => ktr_room); (case k9 => exact BindsTo.of_eq rfl); (case c5 => decide); (case kB => exact locs rfl); (case c2 => exact rfl); (case c3 => exact rfl); (case c4 => exact rfl); k_whole; intro gE L' h' hgE hgS FG' F' N' B' X' T' lE; (try dsimp only); (try k_fold))
  clear B F X T
  have hP0 : PB 500 p := ⟨hp1, hp2⟩
  repeat' (first | ((fail_if_success (with_reducible show wpAny _ _ (exec (Stmt.If _ _ _ _) _) _ _ _)); first | (k_unfold; (try dsimp only)) | walk1 | (dsimp only; walk1) | (dsimp only; k_unfold; (try dsimp only)) | (dsimp +zetaDelta only)) | fail "no step")
  with_reducible rename Fr _ _ _ _ => F9
  with_reducible rename Obj.IsDictOf _ _ _ => hT9
  with_reducible rename News _ _ _ _ => N9
  rw [word_map] at F9
  replace N9 := news_two N9 (p := (Tr, _)) (q := (C, listOf vs.toArray c)) (by k_mem) (by k_mem)
  rename_i l9 h9 l19 r8 t8 o8 t8' h8 tk8 hP8 hr8 hr8' y0 ty0 hy0 h7 tk7 og to o7 t7' h6 tk6 hP6 hr6 hr6' h5
  clear l19 hr8 hr8' hP8
  refine wpAny_mono (Q := WordJ PySem.Challenge.pw_pf0092_01 w gE L' Tr C (listOf vs.toArray c) og to 3 503 (p + 3) s) ?ja1 (fun f s' hJ => ?jb1) (fun _ _ e => e)
  case ja1 =>
    repeat' (first | ((fail_if_success (with_reducible show WordJ _ _ _ _ _ _ _ _ _ _ _ _ _ _ _)); first | (k_unfold; (try dsimp only)) | walk1 | (dsimp only; walk1) | (dsimp only; k_unfold; (try dsimp only)) | (dsimp +zetaDelta only)) | fail "no step")
    · with_reducible rename Fr _ _ _ _ => F9
      with_reducible rename Obj.IsDictOf _ _ _ => hT9
      with_reducible rename News _ _ _ _ => N9
      with_reducible rename PB _ _ => hP9
      exact wordJ_yes F9 N9 (by k_mem) (by k_mem) hT9 (by omega) hP9 (by decide) (by omega)
    · with_reducible rename Fr _ _ _ _ => F9
      with_reducible rename Obj.IsDictOf _ _ _ => hT9
      with_reducible rename News _ _ _ _ => N9
      with_reducible rename PB _ _ => hP9
      exact wordJ_no F9 N9 (by k_mem) (by k_mem) hT9 (by omega) hP9 (by decide) (by omega)
  case' jb1 =>
    obtain ⟨hf1, h1, n1, y1, ty1, o1, p1, tt1, hs1, F9, N9, hT9, hy1, hP1, hq1⟩ := hJ
    subst hf1 hs1
    dsimp only
  clear hP6 hy0
  repeat' (first | ((fail_if_success (with_reducible show wpAny _ _ (exec (Stmt.If _ _ _ _) _) _ _ _)); first | (k_unfold; (try dsimp only)) | walk1 | (dsimp only; walk1) | (dsimp only; k_unfold; (try dsimp only)) | (dsimp +zetaDelta only)) | fail "no step")
  refine wpAny_mono (Q := WordJ PySem.Challenge.pw_pf0092_01 w gE L' Tr C (listOf vs.toArray c) og to 4 504 (p + 4) s) ?ja2 (fun f s' hJ => ?jb2) (fun _ _ e => e)
  case ja2 =>
    repeat' (first | ((fail_if_success (with_reducible show WordJ _ _ _ _ _ _ _ _ _ _ _ _ _ _ _)); first | (k_unfold; (try dsimp only)) | walk1 | (dsimp only; walk1) | (dsimp only; k_unfold; (try dsimp only)) | (dsimp +zetaDelta only)) | fail "no step")
    · with_reducible rename Fr _ _ _ _ => F9
      with_reducible rename Obj.IsDictOf _ _ _ => hT9
      with_reducible rename News _ _ _ _ => N9
      with_reducible rename PB _ _ => hP9
      exact wordJ_yes F9 N9 (by k_mem) (by k_mem) hT9 (by omega) hP9 (by decide) (by omega)
    · with_reducible rename Fr _ _ _ _ => F9
      with_reducible rename Obj.IsDictOf _ _ _ => hT9
      with_reducible rename News _ _ _ _ => N9
      with_reducible rename PB _ _ => hP9
      exact wordJ_no F9 N9 (by k_mem) (by k_mem) hT9 (by omega) hP9 (by decide) (by omega)
  case' jb2 =>
    obtain ⟨hf2, h2, n2, y2, ty2, o2, p2, tt2, hs2, F9, N9, hT9, hy2, hP2, hq2⟩ := hJ
    subst hf2 hs2
    dsimp only
  clear hP1 hy1 hq1 hr6 hr6'
  repeat' (first | ((fail_if_success (with_reducible show LeaveK _ _ _ _ _ _ _)); first | (k_unfold; (try dsimp only)) | walk1 | (dsimp only; walk1) | (dsimp only; k_unfold; (try dsimp only)) | (dsimp +zetaDelta only)) | fail "no step")
  all_goals ((try dsimp only); (try k_unfold); (try dsimp only))
  all_goals (with_reducible rename News _ _ _ _ => N9)
  all_goals (with_reducible rename Fr _ _ _ _ => F9)
  all_goals (with_reducible rename Obj.IsDictOf _ _ _ => hd9)
  all_goals (with_reducible rename PB _ _ => hP9)
  all_goals refine leaveK_ F9 N9 (fun _ _ kk => ?_)
  all_goals dsimp only
  all_goals refine hret _ _ _ _ _ _ _ ?_ hP9.lo ?_ hd9 (tree_keep N (news_two N9 (by k_mem) (by k_mem)) hgE kk) (N9 (Tr, _) (by k_mem)).1
  all_goals omega
end
section
theorem rsN3 : True := by first | (w_top off; walk1) | trivial
def bNames : List PySem.Str := ["turn", "at", "sign", "way"].map Str.ofString
abbrev bMap (Tr : Addr) (y : PySem.Str) (ty : Tok) : PySem.Str → Option Value := fun z => if z = Str.ofString "text" then some (Value.str y ty) else if z = Str.ofString "tree" then some (Value.ref Tr) else none
def bLen : Nat → Nat
  | 0 => 10
  | 1 => 30
  | _ => 90
/-- the state between two turns of the loop of _law_bent -/
def BentJ (prog : Program) (w : World) (Tr C : Addr) (l : Obj) (p : Int) (i : Nat) (m : PySem.Str → Option Value) (news : List (Addr × Obj)) : Prop :=
  ∃ y ty o' p' t', Agree bNames (bMap Tr y ty) m ∧ y.length ≤ bLen i ∧ 0 ≤ p' ∧ p' ≤ p + 1 + 3 * (i : Int) ∧ o'.IsDictOf (PySem.strKind prog w) (treeK C p' t') ∧ (Tr, o') ∈ news ∧ (C, l) ∈ news
theorem bMap_start {Tr : Addr} {x : PySem.Str} {tx : Tok} : Agree bNames (bMap Tr x tx) (fun y => List.lookup y [(Str.ofString "tree", Value.ref Tr), (Str.ofString "text", Value.str x tx)].reverse) := fun y _ => by
  show List.lookup y [(Str.ofString "text", Value.str x tx), (Str.ofString "tree", Value.ref Tr)] = if y = _ then _ else if y = _ then _ else _
  by_cases h1 : y = Str.ofString "text"
  · rw [if_pos h1, List.lookup_cons, beq_iff_eq.mpr h1]
  · rw [if_neg h1, List.lookup_cons, beq_eq_false_iff_ne.mpr h1]
    by_cases h2 : y = Str.ofString "tree"
    · rw [if_pos h2, List.lookup_cons, beq_iff_eq.mpr h2]
    · rw [if_neg h2, List.lookup_cons, beq_eq_false_iff_ne.mpr h2]; rfl
theorem Agree.text {Tr : Addr} {y y' : PySem.Str} {ty ty' : Tok} {f : PySem.Str → Option Value} (h : Agree bNames (bMap Tr y ty) f) : Agree bNames (bMap Tr y' ty') (fun z => if z = Str.ofString "text" then some (Value.str y' ty') else f z) := fun z hz => by
  show (if z = _ then _ else f z) = if z = _ then _ else _
  by_cases h1 : z = Str.ofString "text"
  · rw [if_pos h1, if_pos h1]
  · rw [if_neg h1, if_neg h1, h z hz]
    show (if z = _ then _ else _) = _
    rw [if_neg h1]
theorem sub2 {α : Type} {a b : α} {l : List α} (h1 : a ∈ l) (h2 : b ∈ l) : ∀ p ∈ [a, b], p ∈ l := fun p hp => by
  rcases List.mem_cons.mp hp with e | hp
  · rw [e]; exact h1
  · rw [List.mem_singleton.mp hp]; exact h2
theorem off2 {a b : Addr × Obj} {I : Addr} {it : Obj} (h1 : @LT.lt Nat _ a.1 I) (h2 : @LT.lt Nat _ b.1 I) : ∀ p ∈ [a, b], p.1 ≠ I ∨ p.2.cls ≠ it.cls := fun p hp => by
  rcases List.mem_cons.mp hp with e | hp
  · rw [e]; exact .inl (Nat.ne_of_lt h1)
  · rw [List.mem_singleton.mp hp]; exact .inl (Nat.ne_of_lt h2)
theorem bLen_next {i n : Nat} (h : i < n) (hn : n ≤ 2) : bLen (i + 1) = 3 * bLen i ∧ 10 ≤ bLen i ∧ bLen i ≤ 30 := by
  have : i = 0 ∨ i = 1 := by omega
  rcases this with rfl | rfl
  · decide
  · decide
theorem bLen_le (i : Nat) : bLen i ≤ 90 := by
  unfold bLen; split <;> decide
theorem rng_small : ∀ n : Nat, n ≤ 2 → Builtin.Range.small 0 (n : Int) 1 = true := by decide
theorem rng_size : ∀ n : Nat, n ≤ 2 → Builtin.Range.rangeSize 0 (n : Int) 1 = (n : Int) := by decide
theorem max_nat {r : Int} (h0 : 0 ≤ r) (h : r < 5) : ∃ n : Nat, n ≤ 2 ∧ (if r - 2 > 0 then r - 2 else 0 : Int) = (n : Int) := by
  by_cases h1 : r - 2 > 0
  · rw [if_pos h1]; exact ⟨(r - 2).toNat, by omega, by omega⟩
  · rw [if_neg h1]; exact ⟨0, by omega, rfl⟩
section
local macro_rules | `(tactic| walk_at "pyIter ref") => `(tactic| ((with_reducible show wpAny _ _ (pyIter (Value.ref _)) (fun it s₂ => LoopAtV _ _ _ _ _ _ _ _ _ it s₂) _ _); (with_reducible rename Fr _ _ _ _ => lF'); (with_reducible rename News _ _ _ _ => lN'); (with_reducible rename IsRange _ _ _ _ _ _ _ _ => lR'); k_dflt (refine' iter_rangeUnr ?hh lR' (rng_small _ ?h2) (rng_size _ ?h2) lF' lN' ?_; (case hh => rfl); (case h2 => with_reducible assumption)); intro i' l1; (try k_lt l1)))
set_option maxHeartbeats 1000000 in
theorem bent_ctr (w : World) (mean : ExcName → Option Value) (mg mb : Str → Option Value) (p : Int) (tp tx : Tok) (Tr C : Addr) (o : Obj) (vs : List Value) (ns : List Int) (c : Nat) (x : PySem.Str) (hx : x.length ≤ 10) (hp1 : 0 ≤ p) (hp2 : p ≤ 500) (hI : IntsAre vs ns) (hn : ns.length ≤ 60)
  (hT : o.IsDictOf (PySem.strKind PySem.Challenge.pw_pf0092_01 w) (treeK C p tp)) (hlo : (Tr == sysModules) = false) (hlt : @LT.lt Nat _ Tr C) :
  ∀ (dp un : Nat) (gd : Option (List Code)) (cn : Str) (cs : Scope) (a : Addr) (ccd : Value) (cl : List (Str × Addr)) (outer : List Env) (A₀ : Around) (base h₀ : Heap) (L : Addr) (m : Str → Option Value) (s : Shared) (Q E : Value → Shared → Prop),
    Below A₀ base outer h₀ → Fr h₀ L s.heap m → (Mine.hd.heap_39 w.params).In h₀ → Top Mine.look (looseW Mine.look []) mean mg mb h₀ → cs.kind = .function → dp + 8 < recursionLimit → un + 110 < cLine → News h₀ L s.heap [(Tr, o), (C, listOf vs.toArray c)] →
    (∀ x t o' p' t' h' tk', x.length ≤ 100 → 0 ≤ p' → p' ≤ p + 10 → o'.IsDictOf (PySem.strKind PySem.Challenge.pw_pf0092_01 w) (treeK C p' t') → (∀ b x, b ≠ Tr → s.heap.get? b = some x → h'.get? b = some x) → h'.get? Tr = some o' → Q (.str x t) { s with heap := h', toks := tk' }) →
    wpAny (model PySem.Challenge.pw_pf0092_01 w) (ktrTop dp un gd cn cs L a ccd cl outer) (call (.ref 142) [.ref Tr, .str x tx]) Q E s := by
  (have e9 : PySem.Challenge.rw_pf0092_01 = PySem.Challenge.rw_pf0092_01 := rfl); revert e9; k_fill; intro _
  intro dp un gd cn cs a ccd cl outer A₀ base h₀ L m s Q E B F X T hk hd hu N hret
  refine wpAny_call ?_
  k_dflt (refine' enterG (news := [(Tr, o), (C, listOf vs.toArray c)]) (binds := [(Str.ofString "tree", Value.ref Tr), (Str.ofString "text", Value.str x tx)]) ?k1 ?k2 ?k3 ?k4 ?k5 ?kA ?kF ?kK ?k6 ?k7 ?k8 ?k9 ?kB ?_ ?c2 ?c3 ?c4 ?c5; (case kA => exact rfl); (case kF => exact rfl); (case kK => assumption); (case k1 => k_asm); (case k2 => k_asm); (case k3 => k_asm); (case k4 => first | exact News.nil | k_asm); (case k5 => k_asm); (case k6 => k_is); (case k7 => k_is); (case k8 => ktr_room); (case k9 => exact BindsTo.of_eq rfl); (case c5 => decide); (case kB => exact locs rfl); (case c2 => exact rfl); (case c3 => exact rfl); (case c4 => exact rfl); k_whole; intro gE L' h' hgE hgS FG' F' N' B' X' T' lE; (try dsimp only); (try k_fold))
  clear B F X T
  have hP0 : PB 500 p := ⟨hp1, hp2⟩
  repeat' (first | ((fail_if_success (with_reducible show wpAny _ _ (call (Value.type "range") _) _ _ _)); first | (k_unfold; (try dsimp only)) | walk1 | (dsimp only; walk1) | (dsimp only; k_unfold; (try dsimp only)) | (dsimp +zetaDelta only)) | fail "no step")
  with_reducible rename Obj.IsDictOf _ _ _ => hT9
  rename_i r9 t9 o9 t9' h9 tk9 hP9 hr0 hr1 F9x h10 tk10 F10 N10
  obtain ⟨n, hn2, hnE⟩ := max_nat hr0 hr1
  rw [hnE]
  clear hnE
  repeat' (first | ((fail_if_success (with_reducible show RangeRest _ _ _ _ _ _ _ _ _ _ _ _ _ _ _ _ _)); first | (k_unfold; (try dsimp only)) | walk1 | (dsimp only; walk1) | (dsimp only; k_unfold; (try dsimp only)) | (dsimp +zetaDelta only)) | fail "no step")
  rename_i I0 lt0
  refine range_inv (c := n) (J := BentJ PySem.Challenge.pw_pf0092_01 w Tr C (listOf vs.toArray c) p) ?step ?done n 0 _ _ (Nat.zero_add n) ?start
  case start =>
    exact ⟨x, tx, _, _, _, bMap_start, hx, by omega, by omega, hT9, .head _, .tail _ (.head _)⟩
  case step =>
    clear hT9
    intro i m9 news9 t9 h9 tk9 hi hJ F9 N9
    obtain ⟨y, ty, o', p', t', hA, hy, hp0, hp3, hT9, hm1, hm2⟩ := hJ
    obtain ⟨hb1, hb2, hb3⟩ := bLen_next hi hn2
    rw [hA.eq] at F9
    dsimp only [overL, bNames, List.map] at F9
    replace F9 : Fr gE L' h9 _ := F9
    replace N9 : News gE L' h9 ((I0, itR (0 + ((i + 1 : Nat) : Int)) ((n : Nat) - ((i + 1 : Nat) : Int))) :: (Tr, o') :: (C, listOf vs.toArray c) :: []) := fun p hp => N9 p (by
      rcases List.mem_cons.mp hp with e | hp
      · rw [e]; exact .head _
      rcases List.mem_cons.mp hp with e | hp
      · rw [e]; exact .tail _ hm1
      · rw [List.mem_singleton.mp hp]; exact .tail _ hm2)
    generalize bLen i = bl at hy hb1 hb2 hb3
    have hP0 : PB 600 p' := ⟨hp0, by omega⟩
    clear hm1 hm2 hA
    repeat' (first | ((fail_if_success (with_reducible show UnrEnd _ _ _ _ _ _ _)); first | (k_unfold; (try dsimp only)) | walk1 | (dsimp only; walk1) | (dsimp only; k_unfold; (try dsimp only)) | (dsimp +zetaDelta only)) | fail "no step")
    all_goals (with_reducible rename News _ _ _ _ => N5)
    all_goals (with_reducible rename Fr _ _ _ _ => F5)
    all_goals (with_reducible rename Obj.IsDictOf _ _ _ => hd5)
    all_goals refine unr_end F5 N5 [(Tr, _), (C, listOf vs.toArray c)] (by k_mem) (sub2 (by k_mem) (by k_mem)) (off2 lt0.1 lt0.2) ⟨_, _, _, _, _, Agree.text (Agree.ite (by simp [bNames]) (Agree.ite (by simp [bNames]) (Agree.ite (by simp [bNames]) (Agree.ite (by simp [bNames]) Agree.over)))), ?_, ?_, ?_, hd5, .head _, .tail _ (.head _)⟩
    all_goals omega
  case done =>
    intro m9 news9 h9 tk9 hJ F9 N9
    obtain ⟨y, ty, o', p', t', hA, hy, hp0, hp3, hT9, hm1, hm2⟩ := hJ
    have hb := bLen_le n
    rw [hA.eq] at F9
    dsimp only [overL, bNames, List.map] at F9
    replace F9 : Fr gE L' h9 _ := F9
    replace N9 : News gE L' h9 [(Tr, o'), (C, listOf vs.toArray c)] := fun p hp => N9 p (sub2 hm1 hm2 p hp)
    repeat' (first | ((fail_if_success (with_reducible show LeaveK _ _ _ _ _ _ _)); first | (k_unfold; (try dsimp only)) | walk1 | (dsimp only; walk1) | (dsimp only; k_unfold; (try dsimp only)) | (dsimp +zetaDelta only)) | fail "no step")
    ((try dsimp only); (try k_unfold); (try dsimp only))
    refine leaveK_ F9 N9 (fun _ _ kk => ?_)
    dsimp only
    exact hret _ _ _ _ _ _ _ (by omega) hp0 (by omega) hT9 (tree_keep N N9 hgE kk) (N9 _ (.head _)).1
end
end
section
theorem rsN4 : True := by first | (w_top off; walk1) | trivial
theorem word_use (w : World) (mean : ExcName → Option Value) (mg mb : Str → Option Value) (p : Int) (tp : Tok) (Tr C : Addr) (o : Obj) (vs : List Value) (ns : List Int) (c : Nat) (news : List (Addr × Obj)) (g : Obj → List (Addr × Obj)) (hp1 : 0 ≤ p) (hp2 : p ≤ 500) (hI : IntsAre vs ns) (hn : ns.length ≤ 60)
  (hT : o.IsDictOf (PySem.strKind PySem.Challenge.pw_pf0092_01 w) (treeK C p tp)) (hlo : (Tr == sysModules) = false) (hlt : @LT.lt Nat _ Tr C) :
  ∀ (dp un : Nat) (gd : Option (List Code)) (cn : Str) (cs : Scope) (a : Addr) (ccd : Value) (cl : List (Str × Addr)) (outer : List Env) (A₀ : Around) (base h₀ : Heap) (L : Addr) (m : Str → Option Value) (s : Shared) (Q E : Value → Shared → Prop),
    Below A₀ base outer h₀ → Fr h₀ L s.heap m → (Mine.hd.heap_39 w.params).In h₀ → Top Mine.look (looseW Mine.look []) mean mg mb h₀ → cs.kind = .function → dp + 8 < recursionLimit → un + 110 < cLine → News h₀ L s.heap news → UpdF Tr o news g → (C, listOf vs.toArray c) ∈ news →
    (∀ x t o' p' t' h' tk', x.length ≤ 10 → 0 ≤ p' → p' ≤ p + 10 → o'.IsDictOf (PySem.strKind PySem.Challenge.pw_pf0092_01 w) (treeK C p' t') → Fr h₀ L h' m → News h₀ L h' (g o') → Q (.str x t) { s with heap := h', toks := tk' }) →
    wpAny (model PySem.Challenge.pw_pf0092_01 w) (ktrTop dp un gd cn cs L a ccd cl outer) (call (.ref 135) [.ref Tr]) Q E s := by
  intro dp un gd cn cs a ccd cl outer A₀ base h₀ L m s Q E B F X T hk hd hu N U hC hret
  have hTm := N _ (updF_mem U)
  refine word_ctr _ _ _ _ p tp Tr C o vs ns c hp1 hp2 hI hn hT hlo hlt _ _ _ _ _ _ _ _ _ _ _ _ _ _ _ _ _ B F X T hk hd hu (news_two N (updF_mem U) hC) fun x t o' p' t' h' tk' h0 h1 h2 hT' hk' ho' => ?_
  exact hret x t o' p' t' h' tk' h0 h1 h2 hT' (fr_tree F hk' hTm.2.1 hTm.2.2) (news_but N U hk' ho')
theorem bent_use (w : World) (mean : ExcName → Option Value) (mg mb : Str → Option Value) (p : Int) (tp tx : Tok) (Tr C : Addr) (o : Obj) (vs : List Value) (ns : List Int) (c : Nat) (x : PySem.Str) (news : List (Addr × Obj)) (g : Obj → List (Addr × Obj)) (hx : x.length ≤ 10) (hp1 : 0 ≤ p) (hp2 : p ≤ 500) (hI : IntsAre vs ns) (hn : ns.length ≤ 60)
  (hT : o.IsDictOf (PySem.strKind PySem.Challenge.pw_pf0092_01 w) (treeK C p tp)) (hlo : (Tr == sysModules) = false) (hlt : @LT.lt Nat _ Tr C) :
  ∀ (dp un : Nat) (gd : Option (List Code)) (cn : Str) (cs : Scope) (a : Addr) (ccd : Value) (cl : List (Str × Addr)) (outer : List Env) (A₀ : Around) (base h₀ : Heap) (L : Addr) (m : Str → Option Value) (s : Shared) (Q E : Value → Shared → Prop),
    Below A₀ base outer h₀ → Fr h₀ L s.heap m → (Mine.hd.heap_39 w.params).In h₀ → Top Mine.look (looseW Mine.look []) mean mg mb h₀ → cs.kind = .function → dp + 8 < recursionLimit → un + 110 < cLine → News h₀ L s.heap news → UpdF Tr o news g → (C, listOf vs.toArray c) ∈ news →
    (∀ x t o' p' t' h' tk', x.length ≤ 100 → 0 ≤ p' → p' ≤ p + 10 → o'.IsDictOf (PySem.strKind PySem.Challenge.pw_pf0092_01 w) (treeK C p' t') → Fr h₀ L h' m → News h₀ L h' (g o') → Q (.str x t) { s with heap := h', toks := tk' }) →
    wpAny (model PySem.Challenge.pw_pf0092_01 w) (ktrTop dp un gd cn cs L a ccd cl outer) (call (.ref 142) [.ref Tr, .str x tx]) Q E s := by
  intro dp un gd cn cs a ccd cl outer A₀ base h₀ L m s Q E B F X T hk hd hu N U hC hret
  have hTm := N _ (updF_mem U)
  refine bent_ctr _ _ _ _ p tp tx Tr C o vs ns c x hx hp1 hp2 hI hn hT hlo hlt _ _ _ _ _ _ _ _ _ _ _ _ _ _ _ _ _ B F X T hk hd hu (news_two N (updF_mem U) hC) fun x t o' p' t' h' tk' h0 h1 h2 hT' hk' ho' => ?_
  exact hret x t o' p' t' h' tk' h0 h1 h2 hT' (fr_tree F hk' hTm.2.1 hTm.2.2) (news_but N U hk' ho')
def datP (d : Mine.Dat) : PyData := .tuple [.int d.1, .int d.2.1, .int d.2.2.1, .bool d.2.2.2.1, .int d.2.2.2.2.1, .int d.2.2.2.2.2]
theorem reads_dats {h₀ h : Heap} {L : Addr} {news tl : List (Addr × Obj)} (N : News h₀ L h news) (hs : ∀ p ∈ tl, p ∈ news) : ∀ {vs : List Value} {ds : List Mine.Dat}, FoundR vs ds tl → ∃ as, ReadsAll h vs (ds.map datP) as
  | [], [], _ => ⟨_, ReadsAll.nil⟩
  | v :: vs, d :: ds, r => by
    obtain ⟨a, v1, v2, v3, v4, v5, e, hm⟩ := r.2 0 v d rfl rfl
    have r' : FoundR vs ds tl := ⟨Nat.succ.inj r.1, fun i v d h1 h2 => r.2 (i + 1) v d h1 h2⟩
    obtain ⟨bs, p⟩ := reads_dats N hs r'
    subst e
    have q : Reads h (.ref a) (datP d) _ := reads_tuple_at (N _ (hs _ hm)).1 rfl rfl (ReadsAll.cons (Reads.int _ _) (ReadsAll.cons (Reads.int _ _) (ReadsAll.cons (Reads.int _ _) (ReadsAll.cons (Reads.bool _) (ReadsAll.cons (Reads.int _ _) (ReadsAll.cons (Reads.int _ _) ReadsAll.nil))))))
    exact ⟨_, ReadsAll.cons q p⟩
  | [], _ :: _, r => nomatch r.1
  | _ :: _, [], r => nomatch r.1
theorem dats_lay : ∀ ds : List Mine.Dat, PyData.canLayAll0 (ds.map datP) = true ∧ PyData.depthAll (ds.map datP) ≤ 2
  | [] => ⟨rfl, Nat.zero_le _⟩
  | d :: ds => by
    obtain ⟨h1, h2⟩ := dats_lay ds
    constructor
    · show (PyData.canLay0 (datP d) && PyData.canLayAll0 (ds.map datP)) = true
      rw [h1]; rfl
    · show max (PyData.depth (datP d)) (PyData.depthAll (ds.map datP)) ≤ 2
      exact Nat.max_le.mpr ⟨by show _ ≤ 2; exact Nat.le_of_ble_eq_true rfl, h2⟩
theorem dats_shaped (ds : List Mine.Dat) : SeqAt.shaped (.list (ds.map datP)) = true := by
  obtain ⟨h1, h2⟩ := dats_lay ds
  unfold SeqAt.shaped
  refine Bool.and_eq_true_iff.mpr ⟨h1, decide_eq_true ?_⟩
  show PyData.depthAll (ds.map datP) + 1 ≤ 64
  omega
theorem dats_eqv : ∀ ds : List Mine.Dat, PyData.eqvAll (ds.map datP) (ds.map datP) = true
  | [] => rfl
  | d :: ds => by
    show (PyData.eqv (datP d) (datP d) && PyData.eqvAll (ds.map datP) (ds.map datP)) = true
    rw [dats_eqv ds]
    obtain ⟨a, b, c, e, f, g⟩ := d
    simp [datP, PyData.eqv, PyData.eqvAll]
section
variable {prog : Program} {w : World} {A : Around} {E : Value → Shared → Prop} {s : Shared} {h₀ : Heap} {L a b : Addr} {news tl tl' : List (Addr × Obj)} {xs ys : List Value} {c c' : Nat} {ds : List Mine.Dat} {Q : Value → Shared → Prop}
theorem ne_dats (N : News h₀ L s.heap news) (ha : (a, listOf xs.toArray c) ∈ news) (hb : (b, listOf ys.toArray c') ∈ news) (rx : FoundR xs ds tl) (ry : FoundR ys ds tl') (hs : ∀ p ∈ tl, p ∈ news) (hs' : ∀ p ∈ tl', p ∈ news) (hu : A.units + 64 < cLine) (h : Q (.bool false) s) :
    wpAny (model prog w) A (compareOp .NotEq (.ref a) (.ref b)) Q E s := by
  obtain ⟨as, ra⟩ := reads_dats N hs rx
  obtain ⟨bs, rb⟩ := reads_dats N hs' ry
  refine ne_dataH (reads_list_at (N _ ha).1 rfl rfl (by simpa [W.listOf] using ra)) (reads_list_at (N _ hb).1 rfl rfl (by simpa [W.listOf] using rb)) (dats_shaped ds) (dats_shaped ds) hu ?_
  have e : PyData.eqv (.list (ds.map datP)) (.list (ds.map datP)) = true := dats_eqv ds
  rw [e]; exact h
end
theorem news_all {h₀ h h' : Heap} {L : Addr} {m : PySem.Str → Option Value} {news tl : List (Addr × Obj)} {P : Addr × Obj} (F : Fr h₀ L h m) (N : News h₀ L h' news) (hN : ∀ p ∈ P :: tl, h'.get? p.1 = some p.2 ∧ h.get? p.1 = none) : News h₀ L h' (P :: (news ++ tl)) := by
  intro p hp
  by_cases hq : p ∈ P :: tl
  · have z := hN p hq
    exact news_add F N z.2 z.1 p (.head _)
  · rcases List.mem_cons.mp hp with e | hp
    · exact absurd (by rw [e]; exact .head _) hq
    · rcases List.mem_append.mp hp with hp | hp
      · exact N p hp
      · exact absurd (.tail _ hp) hq
end
section
theorem rsN5 : True := by first | (w_top off; walk1) | trivial
section
variable {prog : Program} {w : World} {p : Program} {loose : List PySem.Str} {mg mb : PySem.Str → Option Value} {mean : ExcName → Option Value} {KF : Frag} {A₀ : Around} {E : Value → Shared → Prop} {Q : Flow → Shared → Prop} {s' : Shared} {base G : Heap} {L a e t C : Addr} {m : PySem.Str → Option Value} {name x : PySem.Str} {scope : Scope} {cd : Value} {vs : List Value} {news : List (Addr × Obj)} {b₀ : Stmt} {suite : List Stmt} {np pos : Pos} {rest : List ExceptHandler}
theorem catch_K (R : RaisedS base G (envOf name scope L a cd :: []) e (.ref C) t vs [] s'.heap) (F : Fr base L G m) (N : News base L G news) (K : Below A₀ base [] base) (hsm : G.UpToSlots s'.heap) (XB : KF.In base) (TB : Top p loose mean mg mb base)
    (ex : nsIn KF mainGlobals x = some (some (.ref C))) (q : ktsIn KF C "BaseException" = true)
    (k : ∀ h', Fr base L h' m → News base L h' news → wpAny (model prog w) ((A₀.deeper (envOf name scope L a cd)).mark (some (.ref e))) (execs (b₀ :: suite) (envOf name scope L a cd)) Q E { s' with heap := h' })
    (hk : scope.kind = .function := by rfl) (hx : (envOf name scope L a cd).kindOf x = some .globalImplicit := by rfl) (hd : (x == ("__debug__" : PySem.Str)) = false := by decide)
    (hE : PassesOwnAt (model prog w) ((A₀.deeper (envOf name scope L a cd)).mark (some (.ref e))) (A₀.deeper (envOf name scope L a cd)) (envOf name scope L a cd) E := by passes_own) :
    wpAny (model prog w) (A₀.deeper (envOf name scope L a cd)) (noteFrame (.ref e) (envOf name scope L a cd))
      (fun _ s₂ => wpAny (model prog w) (A₀.deeper (envOf name scope L a cd)) (setFlight (.ref e) none) (fun _ s₃ =>
        wpAny (model prog w) (A₀.deeper (envOf name scope L a cd)) (handleBy (.ref e) (envOf name scope L a cd) (.ExceptHandler (some (.Name x np)) none (b₀ :: suite) pos :: rest)) Q E s₃) E s₂) E s' := by
  obtain ⟨⟨B, hB, hBG, _, hfl, hnew⟩, htup⟩ := R
  have hG : ∀ b o, (hideAll G (news.map (·.1))).get? b = some o → G.get? b = some o := fun b o z => of_hideAll _ z
  have R₁ : RaisedS base (hideAll G (news.map (·.1))) (envOf name scope L a cd :: []) e (.ref C) t vs news s'.heap :=
    ⟨⟨B, hB, fun b o z hb => hBG b o (hG b o z) hb, fun r hr => ⟨hBG _ _ (N r hr).1 (fun hm => by
      rcases kts_mem hm with z | z
      · exact (N r hr).2.1 z
      · exact absurd z List.not_mem_nil), hideAll_none _ (List.mem_map_of_mem hr), (N r hr).2.2⟩, hfl, hnew⟩, htup⟩
  have hn : ∀ b o, base.get? b = some o → b ∉ news.map (·.1) := fun b o z hm => by
    obtain ⟨r, hr, e⟩ := List.mem_map.mp hm
    have := (N r hr).2.2
    rw [e, z] at this
    cases this
  have F₁ : Fr base L (hideAll G (news.map (·.1))) m := by
    obtain ⟨oL, a1, a2, hoL, a3⟩ := F.ns
    refine ⟨⟨oL, a1, a2, hideAll_get _ hoL (fun hm => ?_), a3⟩, fun b o z => hideAll_get _ (F.keep b o z) (hn b o z), F.above⟩
    obtain ⟨r, hr, e⟩ := List.mem_map.mp hm
    exact (N r hr).2.1 e
  refine caught_SO0 R₁ F₁ K (fun b o z hd => hsm b o (hG b o z) hd) XB TB ktsDicts_nil KtsTurn.refl ex q (fun h' g' n₂ T' F' N₂ G' N' K' X' P' D' => ?_) hk hx hd hE
  refine k h' ⟨F'.ns, fun b o z => F'.keep b o (T'.other b o z List.not_mem_nil), T'.size ▸ F'.above⟩ fun r hr => ⟨(N' r hr).1, (N' r hr).2.1, (N r hr).2.2⟩
end
theorem tailSub {α : Type} {tl news : List α} (h : ∀ p ∈ tl, p ∈ news) : ∀ p ∈ tl, p ∈ news := h
section
variable {prog : Program} {w : World} {A : Around} {E : Value → Shared → Prop} {s : Shared} {h₀ : Heap} {L a b t : Addr} {news tl : List (Addr × Obj)} {ys : List Value} {c c' : Nat} {Q : Value → Shared → Prop} {k f r g p : Int} {cr : Bool} {v1 v2 v3 v4 v5 : Tok}
theorem item6_3 {value slice : PySem.Expr} {x0 x1 x2 x3 x4 x5 : Value} {u : Tok} (N : News h₀ L s.heap news) (hm : (a, { cls := .type "tuple", data := .seq #[x0, x1, x2, x3, x4, x5] }) ∈ news) (h : Q x3 s)
    (hs : subscripted slice false (.ref a) (.int 3 u) = operate [.ref a, .int 3 u] (getItem (.ref a) (.int 3 u)) := by with_unfolding_all rfl) :
    wpAny (model prog w) A (subscriptTail value slice (.ref a) (.int 3 u)) Q E s :=
  item_tupleT (l := [x0, x1, x2, x3, x4, x5]) (j := 3) (News.isTup N hm) (by decide) (by decide) rfl rfl h hs
theorem ne_none (N : News h₀ L s.heap news) (ha : (a, listOf #[] c) ∈ news) (hb : (b, listOf ys.toArray c') ∈ news) (ry : FoundR ys [] tl) (hs : ∀ p ∈ tl, p ∈ news) (hu : A.units + 64 < cLine) (h : Q (.bool false) s) :
    wpAny (model prog w) A (compareOp .NotEq (.ref a) (.ref b)) Q E s :=
  ne_dats (xs := []) N ha hb (FoundR.nil (tl := tl)) ry hs hs hu h
theorem ne_one (N : News h₀ L s.heap news) (ha : (a, listOf #[.ref t] c) ∈ news) (hb : (b, listOf ys.toArray c') ∈ news) (ht : (t, { cls := .type "tuple", data := .seq #[.int k v1, .int f v2, .int r v3, .bool cr, .int g v4, .int p v5] }) ∈ news) (ry : FoundR ys [(k, f, r, cr, g, p)] tl) (hs : ∀ p ∈ tl, p ∈ news) (hu : A.units + 64 < cLine) (h : Q (.bool false) s) :
    wpAny (model prog w) A (compareOp .NotEq (.ref a) (.ref b)) Q E s :=
  ne_dats (xs := [.ref t]) (tl := news) N ha hb (FoundR.snoc (d := (k, f, r, cr, g, p)) (v1 := v1) (v2 := v2) (v3 := v3) (v4 := v4) (v5 := v5) FoundR.nil ht) ry (fun _ h => h) hs hu h
end
end
section
theorem rsLAW : True := by first | (w_top off; walk1) | trivial
def lNames : List PySem.Str := ["turn", "text", "ways", "heard"].map Str.ofString
/-- the state between two turns of the law -/
def LawJ (prog : Program) (w : World) (Tr C : Addr) (l : Obj) (mm : PySem.Str → Option Value) (i : Nat) (m : PySem.Str → Option Value) (news : List (Addr × Obj)) : Prop :=
  ∃ o' p' t', Agree lNames mm m ∧ 0 ≤ p' ∧ p' ≤ 2 + 20 * (i : Int) ∧ o'.IsDictOf (PySem.strKind prog w) (treeK C p' t') ∧ (Tr, o') ∈ news ∧ (C, l) ∈ news
section
local macro_rules | `(tactic| walk_at "call ref") => `(tactic| ((with_reducible show wpAny _ _ (PySem.call (Value.ref 135) _) _ _ _); (with_reducible rename Fr _ _ _ _ => F9); (with_reducible rename News _ _ _ _ => N9); (with_reducible rename Obj.IsDictOf _ _ _ => hT9); (k_dflt (refine' word_use _ _ _ _ _ _ _ _ _ _ _ _ _ _ ?p2 ?p3 ?p4 ?p5 hT9 ?p7 ?p8 _ _ _ _ _ _ _ _ _ _ _ _ _ _ _ _ _ ?B F9 ?X ?T ?kk ?d ?u N9 ?U ?C ?_; (case B => k_asm); (case X => k_asm); (case T => k_asm); (case kk => first | rfl | assumption); (case U => k_updF); (case C => k_mem); (case p2 => omega); (case p3 => omega); (case p4 => with_reducible assumption); (case p5 => with_reducible assumption); (case p7 => with_reducible assumption); (case p8 => with_reducible assumption); (case d => ktr_room); (case u => ktr_units))); clear F9 N9 hT9; intro x9 t9 o9 p9 t9' h9 tk9 hx0 hr0 hr1 hT9 F9 N9; (try dsimp only at N9); (try dsimp only)))
local macro_rules | `(tactic| walk_at "call ref") => `(tactic| ((with_reducible show wpAny _ _ (PySem.call (Value.ref 142) _) _ _ _); (with_reducible rename Fr _ _ _ _ => F9); (with_reducible rename News _ _ _ _ => N9); (with_reducible rename Obj.IsDictOf _ _ _ => hT9); (k_dflt (refine' bent_use _ _ _ _ _ _ _ _ _ _ _ _ _ _ _ _ ?p0 ?p2 ?p3 ?p4 ?p5 hT9 ?p7 ?p8 _ _ _ _ _ _ _ _ _ _ _ _ _ _ _ _ _ ?B F9 ?X ?T ?kk ?d ?u N9 ?U ?C ?_; (case B => k_asm); (case X => k_asm); (case T => k_asm); (case kk => first | rfl | assumption); (case U => k_updF); (case C => k_mem); (case p0 => with_reducible assumption); (case p2 => omega); (case p3 => omega); (case p4 => with_reducible assumption); (case p5 => with_reducible assumption); (case p7 => with_reducible assumption); (case p8 => with_reducible assumption); (case d => ktr_room); (case u => ktr_units))); clear F9 N9 hT9; intro x9 t9 o9 p9 t9' h9 tk9 hx0 hr0 hr1 hT9 F9 N9; (try dsimp only at N9); (try dsimp only)))

local macro_rules | `(tactic| walk_at "call ref") => `(tactic| ((with_reducible show wpAny _ _ (PySem.call (Value.ref 147) _) _ _ _); (k_dflt (refine' ways_ctr _ _ _ _ _ _ _ _ _ _ ?p0 ?p1 ?p2 ?p3 ?p4 _ _ _ _ _ _ _ _ _ _ _ _ _ _ _ _ _ ?B ?F ?X ?T ?kk ?d ?u ?_; (case B => k_asm); (case F => k_asm); (case X => k_asm); (case T => k_asm); (case kk => first | rfl | assumption); (case p0 => with_reducible assumption); (case p1 => with_reducible assumption); (case p2 => with_reducible assumption); (case p3 => with_reducible assumption); (case p4 => with_reducible assumption); (case d => ktr_room); (case u => ktr_units))); (intro Fd9 h9 tk9 fvs9 c9 tl9 hk9 hN9 hR9); (with_reducible rename Fr _ _ _ _ => F9); (with_reducible rename News _ _ _ _ => N9); (replace N9 := News.grown N9 hk9); (replace N9 := news_all F9 N9 hN9); (replace F9 := Fr.after F9 hk9); (clear hk9 hN9); (try dsimp only [List.cons_append, List.nil_append] at N9); (try dsimp only)))

local macro_rules | `(tactic| walk_at "compareOp NotEq ref ref") => `(tactic| ((with_reducible rename News _ _ _ _ => lN'); k_dflt (first
  | (refine' ne_none lN' ?a ?b ?r ?s ?u ?_; (case r => with_reducible assumption); (case a => k_mem); (case b => k_mem); (case s => (intro p hp9; repeat (first | with_reducible exact hp9 | with_reducible refine List.mem_cons_of_mem _ ?_))); (case u => first | k_units | ktr_units))
  | (refine' ne_one lN' ?a ?b ?t ?r ?s ?u ?_; (case r => with_reducible assumption); (case a => k_mem); (case b => k_mem); (case t => k_mem); (case s => (intro p hp9; repeat (first | with_reducible exact hp9 | with_reducible refine List.mem_cons_of_mem _ ?_))); (case u => first | k_units | ktr_units)))))
local macro_rules | `(tactic| walk_at "newList") => `(tactic| ((with_reducible rename Fr _ _ _ _ => lF'); (with_reducible rename News _ _ _ _ => lN'); k_dflt (refine' newList_K (hsz := ?z) lF' lN' ?_; (case z => exact Nat.le_of_ble_eq_true rfl)); clear lF' lN'; intro l' h' F' N' l1; (try k_lt l1)))
local macro_rules | `(tactic| walk_at "eval ListComp") => `(tactic| (k_here; lct_look; k_dflt (refine LCt.ListComp_T (F₀ := by k_asm) (by with_unfolding_all rfl) (by decide) (by rfl) (by decide) (by rfl) ?_)))
local macro_rules | `(tactic| walk_at "CompSrcT") => `(tactic| ((with_reducible rename Fr _ _ _ _ => lF'); (with_reducible rename News _ _ _ _ => lN'); k_dflt (refine LCt.CompSrcT.ledger (by rfl) lF' lN' (by k_mem) (by exact Nat.le_of_ble_eq_true rfl) ?_; intro g'; lct_lit)))
local macro_rules | `(tactic| walk_at "eval Name") => `(tactic| ((with_reducible show wpAny _ _ (eval (Expr.Name _ _) (compEnvC _ _ _ _)) _ _ _); (with_reducible rename Fr _ _ _ _ => lF'); (with_reducible rename News _ _ _ _ => lN'); k_dflt (first
  | refine LCgL.ld_own lN' (by k_mem) (by with_reducible assumption) (by with_reducible assumption) ?_
  | refine LCgL.ld_built lF' (by k_asm) (by k_asm) (by k_is) (by boot_by_name) (by decide) ?_)))
local macro_rules | `(tactic| walk_at "subscriptTail Name Constant ref int") => `(tactic| ((with_reducible show wpAny _ _ (subscriptTail _ _ (Value.ref _) (Value.int _ _)) _ _ _); (with_reducible rename News _ _ _ _ => lN'); k_dflt (refine item6_3 lN' (by k_mem) ?_)))
local macro_rules | `(tactic| walk_at "CompEnd") => `(tactic| ((with_reducible rename Fr _ _ _ _ => lF'); (with_reducible rename News _ _ _ _ => lN'); k_dflt (refine' LCg.CompEnd.intro lF' lN' _ (fun _ h => h) ?o ?s ?_; (case o => assumption); (case s => first | exact True.intro | exact Or.inr ⟨_, by k_mem, rfl, _, rfl⟩ | lcg_src))))

set_option maxHeartbeats 4000000 in
theorem law_holds : PySem.Challenge.rw_pf0092_01.Holds := Mine.hd (by
  k_go0
  all_goals try k_fold
  repeat' (first | ((fail_if_success (with_reducible show wpAny _ _ (call (Value.ref 128) _) _ _ _)); first | (k_unfold; (try dsimp only)) | walk1 | (dsimp only; walk1) | (dsimp only; k_unfold; (try dsimp only)) | (dsimp +zetaDelta only)) | fail "no step")
  with_reducible rename Obj.IsDictOf _ _ _ => hT9
  replace hT9 : Obj.IsDictOf (PySem.strKind PySem.Challenge.pw_pf0092_01 _) _ (treeK _ 0 _) := hT9
  have hP0 : PB 0 0 := ⟨Int.le_refl _, Int.le_refl _⟩
  have hn60 : (List.take 60 _).length ≤ 60 := Nat.le_trans (Nat.le_of_eq (by with_reducible assumption)) (Nat.min_le_left _ _)
  repeat' (first | ((fail_if_success (with_reducible show wpAny _ _ (exec (Stmt.For _ _ _ _ _) _) _ _ _)); first | (k_unfold; (try dsimp only)) | walk1 | (dsimp only; walk1) | (dsimp only; k_unfold; (try dsimp only)) | (dsimp +zetaDelta only)) | fail "no step")
  with_reducible rename Fr _ _ _ _ => F9
  with_reducible rename Obj.IsDictOf _ _ _ => hT9
  rename_i K0 _ _ Tr _ _ hlo _ _ C vs _ hI _ _ hlt _ _ _ r1 u1 _ _ _ _ _ hr1a hr1b r2 u2 o9 t9' _ _ _ hr2a hr2b _ _ l1 _ _ _ N9
  have hf1 : 1 ≤ 1 + r1 := by omega
  have hf2 : 1 + r1 ≤ 8 := by omega
  have hg1 : 1 ≤ 1 + r2 := by omega
  have hg2 : 1 + r2 ≤ 8 := by omega
  generalize 1 + r1 = fs at F9 N9 hf1 hf2
  generalize 1 + r2 = rs at F9 N9 hg1 hg2
  replace N9 : News _ _ _ [(Tr, o9), (C, listOf vs.toArray 0)] := fun p hp => N9 p (sub2 (.tail _ (.tail _ (.head _))) (.tail _ (.head _)) p hp)
  obtain ⟨mm, hmm, F8⟩ := name_map F9
  repeat' (first | ((fail_if_success (with_reducible show RangeRest _ _ _ _ _ _ _ _ _ _ _ _ _ _ _ _ _)); first | (k_unfold; (try dsimp only)) | walk1 | (dsimp only; walk1) | (dsimp only; k_unfold; (try dsimp only)) | (dsimp +zetaDelta only)) | fail "no step")
  rename_i w0 w1 w2 I0 lt0
  with_reducible rename World => wd
  refine range_inv (c := 6) (J := LawJ PySem.Challenge.pw_pf0092_01 wd Tr C (listOf vs.toArray 0) mm) ?step ?done 6 0 _ _ rfl ?start
  case start => exact ⟨_, _, _, fun _ _ => rfl, by omega, by omega, hT9, .head _, .tail _ (.head _)⟩
  case step =>
    clear hT9 F9
    (with_reducible rename Fr _ _ _ _ => F8)
    clear F8
    intro i m9 news9 t9 h9 tk9 hi hJ F9 N9
    obtain ⟨o', p', t', hA, hp0, hp3, hT9, hm1, hm2⟩ := hJ
    rw [hA.eq] at F9
    dsimp only [overL, lNames, List.map] at F9
    rw [hmm] at F9
    replace N9 : News _ _ _ ((I0, itR (0 + ((i + 1 : Nat) : Int)) ((6 : Nat) - ((i + 1 : Nat) : Int))) :: (Tr, o') :: (C, listOf vs.toArray 0) :: []) := fun p hp => N9 p (by
      rcases List.mem_cons.mp hp with e | hp
      · rw [e]; exact .head _
      rcases List.mem_cons.mp hp with e | hp
      · rw [e]; exact .tail _ hm1
      · rw [List.mem_singleton.mp hp]; exact .tail _ hm2)
    clear hm1 hm2 hA
    repeat' (first | ((fail_if_success (with_reducible show wpAny _ _ (call (Value.ref 107) _) _ _ _)); first | (k_unfold; (try dsimp only)) | walk1 | (dsimp only; walk1) | (dsimp only; k_unfold; (try dsimp only)) | (dsimp +zetaDelta only)) | fail "no step")
    with_reducible rename Fr _ _ _ _ => F9
    with_reducible rename News _ _ _ _ => N9
    k_dflt (refine' split_ctr _ _ _ _ _ _ _ _ _ _ ?p0 ?p1 ?p2 ?p3 ?p4 _ _ _ _ _ _ _ _ _ _ _ _ _ _ _ _ _ ?B F9 ?X ?T ?kk ?d ?u ?k1 ?k2)
    case p0 => with_reducible assumption
    case p1 => with_reducible assumption
    case p2 => with_reducible assumption
    case p3 => with_reducible assumption
    case p4 => with_reducible assumption
    case B => k_asm
    case X => k_asm
    case T => k_asm
    case kk => first | rfl | assumption
    case d => ktr_room
    case u => ktr_units
    case k1 =>
      intro a9 k9 f9 r9 c9 g9 p9 v1 v2 v3 v4 v5 h' tk' hz hk9 hn9 ha9
      with_reducible rename FoundR _ _ _ => hR9
      replace hR9 := ways_some hf1 hf2 hg1 hg2 hR9 hz
      replace N9 := News.grown N9 hk9
      replace N9 := news_add F9 N9 hn9 ha9
      replace F9 := Fr.after F9 hk9
      clear hk9 hn9 ha9
      dsimp only
      repeat' (first | ((fail_if_success (with_reducible show UnrEnd _ _ _ _ _ _ _)); first | (k_unfold; (try dsimp only)) | walk1 | (dsimp only; walk1) | (dsimp only; k_unfold; (try dsimp only)) | (dsimp +zetaDelta only)) | fail "no step")
      with_reducible rename News _ _ _ _ => N5
      with_reducible rename Fr _ _ _ _ => F5
      with_reducible rename Obj.IsDictOf _ _ _ => hd5
      refine unr_end F5 N5 [(Tr, _), (C, listOf vs.toArray 0)] (by k_mem) (sub2 (by k_mem) (by k_mem)) (off2 lt0.1 lt0.2) ⟨_, _, _, Agree.ite (by simp [lNames]) (Agree.ite (by simp [lNames]) (Agree.ite (by simp [lNames]) (Agree.ite (by simp [lNames]) (Agree.overE hmm)))), ?_, ?_, hd5, .head _, .tail _ (.head _)⟩
      · omega
      · omega
    case k2 =>
      intro e t h' tk' hz R U
      dsimp only
      with_reducible rename FoundR _ _ _ => hR9
      replace hR9 := ways_none hf1 hf2 hg1 hg2 hR9 hz
      k_dflt (refine' catch_K R F9 N9 K0 U ?XB ?TB ?ex ?q ?_; (case XB => assumption); (case TB => assumption); (case ex => k_is); (case q => kts_isx))
      intro h7 F7 N7
      clear F9 N9 R U
      repeat' (first | ((fail_if_success (with_reducible show UnrEnd _ _ _ _ _ _ _)); first | (k_unfold; (try dsimp only)) | walk1 | (dsimp only; walk1) | (dsimp only; k_unfold; (try dsimp only)) | (dsimp +zetaDelta only)) | fail "no step")
      with_reducible rename News _ _ _ _ => N5
      with_reducible rename Fr _ _ _ _ => F5
      with_reducible rename Obj.IsDictOf _ _ _ => hd5
      refine unr_end F5 N5 [(Tr, _), (C, listOf vs.toArray 0)] (by k_mem) (sub2 (by k_mem) (by k_mem)) (off2 lt0.1 lt0.2) ⟨_, _, _, Agree.ite (by simp [lNames]) (Agree.ite (by simp [lNames]) (Agree.ite (by simp [lNames]) (Agree.ite (by simp [lNames]) (Agree.overE hmm)))), ?_, ?_, hd5, .head _, .tail _ (.head _)⟩
      · omega
      · omega
  case done =>
    clear hT9 F9
    (with_reducible rename Fr _ _ _ _ => F8)
    clear F8
    intro m9 news9 h9 tk9 hJ F9 N9
    obtain ⟨o', p', t', hA, hp0, hp3, hT9, hm1, hm2⟩ := hJ
    k_steps
    wrow_close)
end
end
end
end Mine
end
theorem PySem.Challenge.cw_pf0092_01_holds : PySem.Challenge.rw_pf0092_01.Holds :=
  Mine.law_holds
