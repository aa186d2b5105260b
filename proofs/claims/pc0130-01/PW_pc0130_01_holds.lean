import PyProof.Rows.All
import Wide.All
import OpenK.AllK
import Wide.FinOn
import Lean
import PySem.Challenge.RW_pc0130_01
open PySem PySem.W PyProof.Rows
set_option Elab.async false
set_option maxRecDepth 100000
set_option maxHeartbeats 8000000
set_option linter.unusedVariables false
set_option linter.all false
set_option compiler.extract_closed false
namespace Mine
section
/-- what of the program the head looks at -/
noncomputable def vw : Program := view PySem.Challenge.rw_pc0130_01.row.toRowW.prog [0, 2, 3, 4, 5, 6, 8, 9, 11, 13, 15, 16, 17, 18, 19, 20, 21]
theorem map_pair {α β γ : Type} {o : Option α} {f : α → β} {g : α → γ} {b : β} {c : γ} (h1 : o.map f = some b) (h2 : o.map g = some c) : o.map (fun s => (f s, g s)) = some (b, c) := by
  cases o with
  | none => cases h1
  | some x => simp only [Option.map_some, Option.some.injEq] at h1 h2 ⊢; rw [h1, h2]
abbrev freeNames : List Str := [Str.ofString "LedgerError", Str.ofString "Token"]
theorem saidT : OpenLaw.wellSaid PySem.Challenge.rw_pc0130_01 = true := by
  rw [PySem.W.Fast.te9446332074065402090]
  kernel_rfl
theorem seenT (w : World) : (openEnds treeTable PySem.Challenge.rw_pc0130_01.row.toRowW.prog w 4258).map (fun s => openSeen vw freeNames (importedModules PySem.Challenge.rw_pc0130_01.row.toRowW.prog.main.body) (fun s => xlAt vw [] s && recOk (RowW.records PySem.Challenge.rw_pc0130_01.row.toRowW) s) true s) = some (openGood vw freeNames) := by
  unfold openEnds fencedOpening topFrom
  rw [PySem.W.Fast.te10274390034422433532, PySem.W.Fast.te14082659384304107361, PySem.W.Fast.te14289696077712309145, PySem.W.Fast.te1435165496053646825, PySem.W.Fast.te4187177175401517315, PySem.W.Fast.te5923862056798008813, PySem.W.Fast.te8920871248978507458, PySem.W.Fast.te14364793385576792824]
  kernel_rfl
local macro_rules | `(tactic| o_law) => `(tactic| (refine holds_law saidT fun said => ?_))
set_option hygiene false in
local macro_rules | `(tactic| o_head $H) => `(tactic| (
  refine holds_open (q := vw) (loose := freeNames) (N := 4258) (Xt := fun s => xlAt vw [] s && recOk (RowW.records PySem.Challenge.rw_pc0130_01.row.toRowW) s) (XP := XL vw [])
    (Yf := Hook.obs $H) (Ya := Hook.val $H) (YP := Hook.says $H) ?hl (Hook.of $H) (Hook.keeps $H) (fun s e => xl_of s (Bool.and_eq_true_iff.mp e).1) XL.keeps (by rfl) (by rfl) (by rfl)
    (fun s e => recFacts_of (Bool.and_eq_true_iff.mp e).2) ?h4 ?h5 ?h6 ?h7 ?hw ?hc
  (case h4 => exact rfl)
  (case h5 => first | assumption | decide +kernel)
  (case h6 => decide +kernel)
  (case h7 => exact ⟨rfl, rfl, rfl, rfl, rfl, by decide +kernel⟩)
  (case hl =>
    intro w
    refine map_pair ?ha ?hb
    (case ha => exact seenT w)
    (case hb =>
      unfold openEnds fencedOpening topFrom
      rw [PySem.W.Fast.te10274390034422433532, PySem.W.Fast.te14082659384304107361, PySem.W.Fast.te14289696077712309145, PySem.W.Fast.te1435165496053646825, PySem.W.Fast.te5923862056798008813, PySem.W.Fast.te8920871248978507458, PySem.W.Fast.te14364793385576792824]
      kernel_rfl))))
open_top hd for PySem.Challenge.rw_pc0130_01
end
section

abbrev ent (w : World) (n : String) (t : Tok) (v : Value) : DictEntry := ⟨PyData.keyHash w.params (Str.ofString n), .str (Str.ofString n) t, v⟩
abbrev RD (w : World) (tl nd : Addr) (i : Int) (ti t1 t2 t3 : Tok) : Obj := dictOf [ent w "tokens" t1 (.ref tl), ent w "at" t2 (.int i ti), ent w "named" t3 (.ref nd)] 3
abbrev tupOf (vs : List Value) (n : Nat) : Obj := { cls := .type "tuple", data := .seq vs.toArray n }
def verbs : List Str := ["ADD", "SUBTRACT", "MULTIPLY", "DIVIDE", "COMPUTE", "MOVE", "INITIALIZE", "SET", "STRING", "UNSTRING", "INSPECT", "SEARCH", "ACCEPT", "DISPLAY", "IF", "EVALUATE", "PERFORM", "GO", "EXIT", "STOP", "CALL", "CONTINUE", "OPEN", "CLOSE", "READ", "WRITE", "REWRITE", "DELETE", "START", "SORT", "MERGE", "RELEASE", "RETURN"].map Str.ofString
def isVerb (x : Str) : Bool := verbs.any (· == x)
def verbAt (ws : List Str) (i : Nat) : Bool := match ws[i]? with | some x => isVerb x | none => false

/-- a token of the word x, the j-th of its text -/
def TokAt (w : World) (news : List (Addr × Obj)) (v : Value) (x : Str) (j : Nat) : Prop :=
  ∃ tk d ta t1 t2 t3 t4 t5 t6 t7 t8 n, v = .ref tk ∧ (tk, instObj 110 d) ∈ news ∧
    (d, dictOf [ent w "kind" t1 (.str (Str.ofString "word") t2), ent w "worth" t3 (.str x t4), ent w "at" t5 (.ref ta), ent w "is_in_a" t6 (.bool false)] 4) ∈ news ∧
    (ta, tupOf [.int 2 t7, .int ((j : Int) + 5) t8] n) ∈ news
structure Toks (w : World) (news : List (Addr × Obj)) (tl : Addr) (ws : List Str) : Prop where
  all : ∃ (vs : List Value) (n : Nat), (tl, listOf vs.toArray n) ∈ news ∧ vs.length = ws.length ∧ ws.length < 1000 ∧ ∀ (j : Nat) (x : Str), ws[j]? = some x → ∃ v, vs[j]? = some v ∧ TokAt w news v x j

theorem TokAt.mono {w : World} {news news' : List (Addr × Obj)} {v : Value} {x : Str} {j : Nat} (h : TokAt w news v x j) (s : ∀ p ∈ news, p ∈ news') : TokAt w news' v x j := by
  obtain ⟨tk, d, ta, t1, t2, t3, t4, t5, t6, t7, t8, n, e, a, b, c⟩ := h
  exact ⟨tk, d, ta, t1, t2, t3, t4, t5, t6, t7, t8, n, e, s _ a, s _ b, s _ c⟩
theorem Toks.mono {w : World} {news news' : List (Addr × Obj)} {tl : Addr} {ws : List Str} (h : Toks w news tl ws) (s : ∀ p ∈ news, p ∈ news') : Toks w news' tl ws := by
  obtain ⟨vs, n, a, b, b', c⟩ := h.all
  exact ⟨vs, n, s _ a, b, b', fun j x hx => let ⟨v, hv, ht⟩ := c j x hx; ⟨v, hv, ht.mono s⟩⟩

section
variable {prog : Program} {w : World} {A : Around} {E : Value → Shared → Prop} {s : Shared} {h₀ : Heap} {L : Addr} {news : List (Addr × Obj)}
theorem lenN {l : Addr} {vs : List Value} {n : Nat} {Q : Value → Shared → Prop} (N : News h₀ L s.heap news) (hm : (l, listOf vs.toArray n) ∈ news) (hz : (vs.length : Int) < 2 ^ 63)
    (h : ∀ t tk, Q (.int vs.length t) { s with toks := tk }) : wpAny (model prog w) A (call (.builtin "len") [.ref l]) Q E s :=
  len_list (News.isList N hm) (by simpa using hz) (by simpa using h _ _)
theorem itemN {value slice : PySem.Expr} {l : Addr} {vs : List Value} {n : Nat} {k : Int} {u : Tok} {x : Value} {Q : Value → Shared → Prop} (N : News h₀ L s.heap news) (hm : (l, listOf vs.toArray n) ∈ news)
    (h0 : 0 ≤ k) (hfit : k < 2 ^ 63) (hx : vs[k.toNat]? = some x) (h : Q x s)
    (hs : subscripted slice false (.ref l) (.int k u) = operate [.ref l, .int k u] (getItem (.ref l) (.int k u)) := by with_unfolding_all rfl) :
    wpAny (model prog w) A (subscriptTail value slice (.ref l) (.int k u)) Q E s :=
  tail_any (News.isList N hm).typeIs slot_list_getitem.lookup (wpAny_getItem_list (News.isList N hm) h0 hfit (by simpa using hx) h) hs
end
local macro_rules | `(tactic| k_mem) => `(tactic| assumption)
local macro_rules | `(tactic| walk_at "call builtin:len") => `(tactic| (k_here; (with_reducible show wpAny _ _ (call (Value.builtin "len") [Value.ref _]) _ _ _); (refine' lenN ?k1 ?k2 ?k3 ?_; (case k1 => k_asm); (case k2 => k_mem); (case k3 => omega)); intro t' tk'; (try dsimp only)))
local macro_rules | `(tactic| walk_at "subscriptTail") => `(tactic| (k_here; (with_reducible show wpAny _ _ (subscriptTail _ _ (Value.ref _) (Value.int _ _)) _ _ _); (with_unfolding_all refine' itemN ?k1 ?k2 ?k3 ?k4 ?k5 ?_ ?k6; (case k1 => k_asm); (case k2 => k_mem); (case k3 => omega); (case k4 => omega); (case k5 => first | with_reducible assumption | (simp only [Int.add_zero, Int.toNat_natCast]; assumption)); (case k6 => with_unfolding_all rfl); k_whole)))
local macro_rules | `(tactic| k_units) => `(tactic| ((have hcL9 := cLine_is); (simp only [units_in1, units_deeper, Around.mark_units, ktrTop]); omega))
local macro_rules | `(tactic| k_room) => `(tactic| ((have hrL9 : recursionLimit = 1000 := rfl); (simp only [depth_mark, depth_under_make, depth_under_kw, depth_in1, depth_deeper, ktrTop]); omega))
local macro_rules | `(tactic| k_enter) => `(tactic| first
  | (refine' code_def ?k1 ?k2 ?k3 ?k4 ?k5 ?kA ?kF ?kK ?k6 ?k7 ?k8 ?k9 ?kB ?_ ?c2 ?c3 ?c4 ?c5; (case kA => exact rfl); (case kF => exact rfl); (case kK => first | exact rfl | assumption); (case k1 => k_asm); (case k2 => k_asm); (case k3 => k_asm); (case k4 => k_asm); (case k5 => k_asm); (case k6 => k_is); (case k7 => k_is); (case k8 => k_room); (case k9 => first | exact BindsTo.of_eq rfl | exact binds_K (by k_in) rfl (by k_is) rfl rfl rfl | fail "k_enter: no rule for these arguments"); (case c5 => decide); (case kB => exact locs rfl); (case c2 => exact rfl); (case c3 => exact rfl); (case c4 => exact rfl); k_whole; intro g' L' h' FG' F' N' B' X' T'; (try dsimp only); (try k_fold))
  | (refine' code_defC ?k1 ?k2 ?k3 ?k4 ?k5 ?kA ?kF ?kK ?k6 ?k7 ?k8 ?k9 ?kB ?kD ?_ ?c2 ?c3 ?c4; (case kA => exact rfl); (case kF => exact rfl); (case kK => first | exact rfl | assumption); (case k1 => k_asm); (case k2 => k_asm); (case k3 => k_asm); (case k4 => k_asm); (case k5 => k_asm); (case k6 => k_is); (case k7 => k_is); (case k8 => k_room); (case k9 => first | exact BindsTo.of_eq rfl | exact binds_K (by k_in) rfl (by k_is) rfl rfl rfl | fail "k_enter: no rule for these arguments"); (case kB => exact rfl); (case kD => decide +kernel); (case c2 => exact rfl); (case c3 => exact rfl); (case c4 => exact rfl); k_whole; intro g' L' h' tk' cells' FG' F' N' Y' B' X' T' l1; (try k_lt l1); k_cells Y'; (try simp only [List.cons_append, List.nil_append] at N'); (try dsimp only); (try k_fold)))
section
variable {prog p : Program} {w : World} {loose : List Str} {mean : ExcName → Option Value} {mg mb : Str → Option Value} {A₀ : Around} {base h₀ : Heap} {outer : List Env} {L : Addr} {m : Str → Option Value} {s : Shared}
  {dp un : Nat} {gd : Option (List Code)} {cn : Str} {cs : Scope} {a : Addr} {ccd : Value} {cl : List (Str × Addr)} {Q E : Value → Shared → Prop} {rest : List (Addr × Obj)}
  {rd rdd tl nd : Addr} {i n : Nat} {ti t1 t2 t3 tw : Tok} {vs : List Value} {ws : List Str}

theorem peek_some0 {v : Value} (B : Below A₀ base outer h₀) (F : Fr h₀ L s.heap m) (X : (hd.heap_1 w.params).In h₀) (T : Top p loose mean mg mb h₀) (hk : cs.kind = .function)
    (N : News h₀ L s.heap ((rd, instObj 283 rdd) :: (rdd, RD w tl nd i ti t1 t2 t3) :: rest)) (hd : dp + 100 < recursionLimit) (hu : un + 500 < cLine) (hl : (tl, listOf vs.toArray n) ∈ rest) (hv : vs[i]? = some v) (hlen : vs.length < 1000)
    (ret : ∀ h' tk', Fr h₀ L h' m → News h₀ L h' ((rd, instObj 283 rdd) :: (rdd, RD w tl nd i ti t1 t2 t3) :: rest) → Q (v) { s with heap := h', toks := tk' }) :
    wpAny (model prog w) (ktrTop dp un gd cn cs L a ccd cl outer) (call (.ref 137) [.ref rd]) Q E s := by
  have hi : i < vs.length := by rcases Nat.lt_or_ge i vs.length with h | h; exact h; rw [List.getElem?_eq_none h] at hv; cases hv
  refine wpAny_call ?_
  k_dflt k_enter
  k_steps
  exact ret _ _ (by k_asm) (by k_asm)
theorem peek_none0 (B : Below A₀ base outer h₀) (F : Fr h₀ L s.heap m) (X : (hd.heap_1 w.params).In h₀) (T : Top p loose mean mg mb h₀) (hk : cs.kind = .function)
    (N : News h₀ L s.heap ((rd, instObj 283 rdd) :: (rdd, RD w tl nd i ti t1 t2 t3) :: rest)) (hd : dp + 100 < recursionLimit) (hu : un + 500 < cLine) (hl : (tl, listOf vs.toArray n) ∈ rest) (hi : vs.length ≤ i) (hlen : vs.length < 1000)
    (ret : ∀ h' tk', Fr h₀ L h' m → News h₀ L h' ((rd, instObj 283 rdd) :: (rdd, RD w tl nd i ti t1 t2 t3) :: rest) → Q (.none) { s with heap := h', toks := tk' }) :
    wpAny (model prog w) (ktrTop dp un gd cn cs L a ccd cl outer) (call (.ref 137) [.ref rd]) Q E s := by
  refine wpAny_call ?_
  k_dflt k_enter
  k_steps
  exact ret _ _ (by k_asm) (by k_asm)

theorem peek_some1 {v : Value} (B : Below A₀ base outer h₀) (F : Fr h₀ L s.heap m) (X : (hd.heap_1 w.params).In h₀) (T : Top p loose mean mg mb h₀) (hk : cs.kind = .function)
    (N : News h₀ L s.heap ((rd, instObj 283 rdd) :: (rdd, RD w tl nd i ti t1 t2 t3) :: rest)) (hd : dp + 100 < recursionLimit) (hu : un + 500 < cLine) (hl : (tl, listOf vs.toArray n) ∈ rest) (hv : vs[i]? = some v) (hlen : vs.length < 1000)
    (ret : ∀ h' tk', Fr h₀ L h' m → News h₀ L h' ((rd, instObj 283 rdd) :: (rdd, RD w tl nd i ti t1 t2 t3) :: rest) → Q (v) { s with heap := h', toks := tk' }) :
    wpAny (model prog w) (ktrTop dp un gd cn cs L a ccd cl outer) (call (.ref 137) [.ref rd, .int 0 tw]) Q E s := by
  have hi : i < vs.length := by rcases Nat.lt_or_ge i vs.length with h | h; exact h; rw [List.getElem?_eq_none h] at hv; cases hv
  refine wpAny_call ?_
  k_dflt k_enter
  k_steps
  exact ret _ _ (by k_asm) (by k_asm)
theorem peek_none1 (B : Below A₀ base outer h₀) (F : Fr h₀ L s.heap m) (X : (hd.heap_1 w.params).In h₀) (T : Top p loose mean mg mb h₀) (hk : cs.kind = .function)
    (N : News h₀ L s.heap ((rd, instObj 283 rdd) :: (rdd, RD w tl nd i ti t1 t2 t3) :: rest)) (hd : dp + 100 < recursionLimit) (hu : un + 500 < cLine) (hl : (tl, listOf vs.toArray n) ∈ rest) (hi : vs.length ≤ i) (hlen : vs.length < 1000)
    (ret : ∀ h' tk', Fr h₀ L h' m → News h₀ L h' ((rd, instObj 283 rdd) :: (rdd, RD w tl nd i ti t1 t2 t3) :: rest) → Q (.none) { s with heap := h', toks := tk' }) :
    wpAny (model prog w) (ktrTop dp un gd cn cs L a ccd cl outer) (call (.ref 137) [.ref rd, .int 0 tw]) Q E s := by
  refine wpAny_call ?_
  k_dflt k_enter
  k_steps
  exact ret _ _ (by k_asm) (by k_asm)
end


section
variable {h₀ h : Heap} {L : Addr} {rest : List (Addr × Obj)} {a b c x y z : Addr × Obj}
theorem newsSub {l l' : List (Addr × Obj)} (N : News h₀ L h l) (s : ∀ p ∈ l', p ∈ l) : News h₀ L h l' := fun p hp => N p (s p hp)
theorem rot1 (N : News h₀ L h (x :: a :: b :: rest)) : News h₀ L h (a :: b :: x :: rest) := newsSub N (by intro p hp; simp only [List.mem_cons] at hp ⊢; grind)
theorem rot2 (N : News h₀ L h (x :: y :: a :: b :: rest)) : News h₀ L h (a :: b :: x :: y :: rest) := newsSub N (by intro p hp; simp only [List.mem_cons] at hp ⊢; grind)
theorem rot3 (N : News h₀ L h (x :: y :: z :: a :: b :: rest)) : News h₀ L h (a :: b :: x :: y :: z :: rest) := newsSub N (by intro p hp; simp only [List.mem_cons] at hp ⊢; grind)
end
local macro_rules | `(tactic| walk_at "call ref") => `(tactic| (k_here; k_dflt (first
  | (refine' peek_some0 ?B ?F ?X ?T ?hk ?N ?hd ?hu ?hl ?hv ?hlen ?_; (case B => k_asm); (case F => k_asm); (case X => k_asm); (case T => k_asm); (case hk => first | exact rfl | assumption); (case N => first | k_asm | exact rot1 (by k_asm) | exact rot2 (by k_asm) | exact rot3 (by k_asm)); (case hd => k_room); (case hu => k_units); (case hl => k_mem); (case hv => assumption); (case hlen => omega); k_whole; intro h' tk' F' N'; (try dsimp only))
  | (refine' peek_none0 ?B ?F ?X ?T ?hk ?N ?hd ?hu ?hl ?hv ?hlen ?_; (case B => k_asm); (case F => k_asm); (case X => k_asm); (case T => k_asm); (case hk => first | exact rfl | assumption); (case N => first | k_asm | exact rot1 (by k_asm) | exact rot2 (by k_asm) | exact rot3 (by k_asm)); (case hd => k_room); (case hu => k_units); (case hl => k_mem); (case hv => omega); (case hlen => omega); k_whole; intro h' tk' F' N'; (try dsimp only))
  | (refine' peek_some1 ?B ?F ?X ?T ?hk ?N ?hd ?hu ?hl ?hv ?hlen ?_; (case B => k_asm); (case F => k_asm); (case X => k_asm); (case T => k_asm); (case hk => first | exact rfl | assumption); (case N => first | k_asm | exact rot1 (by k_asm) | exact rot2 (by k_asm) | exact rot3 (by k_asm)); (case hd => k_room); (case hu => k_units); (case hl => k_mem); (case hv => assumption); (case hlen => omega); k_whole; intro h' tk' F' N'; (try dsimp only))
  | (refine' peek_none1 ?B ?F ?X ?T ?hk ?N ?hd ?hu ?hl ?hv ?hlen ?_; (case B => k_asm); (case F => k_asm); (case X => k_asm); (case T => k_asm); (case hk => first | exact rfl | assumption); (case N => first | k_asm | exact rot1 (by k_asm) | exact rot2 (by k_asm) | exact rot3 (by k_asm)); (case hd => k_room); (case hu => k_units); (case hl => k_mem); (case hv => omega); (case hlen => omega); k_whole; intro h' tk' F' N'; (try dsimp only)))))
section
variable {prog p : Program} {w : World} {loose : List Str} {mean : ExcName → Option Value} {mg mb : Str → Option Value} {A₀ : Around} {base h₀ : Heap} {outer : List Env} {L : Addr} {m : Str → Option Value} {s : Shared}
  {dp un : Nat} {gd : Option (List Code)} {cn : Str} {cs : Scope} {a : Addr} {ccd : Value} {cl : List (Str × Addr)} {Q E : Value → Shared → Prop} {rest : List (Addr × Obj)}
  {rd rdd tl nd : Addr} {i n : Nat} {ti t1 t2 t3 tw tz : Tok} {vs : List Value} {ws : List Str} {x : Str}
theorem is_kind_some (B : Below A₀ base outer h₀) (F : Fr h₀ L s.heap m) (X : (hd.heap_1 w.params).In h₀) (T : Top p loose mean mg mb h₀) (hk : cs.kind = .function)
    (N : News h₀ L s.heap ((rd, instObj 283 rdd) :: (rdd, RD w tl nd i ti t1 t2 t3) :: rest)) (hd : dp + 101 < recursionLimit) (hu : un + 510 < cLine) (hT : Toks w rest tl ws) (hx : ws[i]? = some x)
    (ret : ∀ h' tk', Fr h₀ L h' m → News h₀ L h' ((rd, instObj 283 rdd) :: (rdd, RD w tl nd i ti t1 t2 t3) :: rest) → Q (.bool true) { s with heap := h', toks := tk' }) :
    wpAny (model prog w) (ktrTop dp un gd cn cs L a ccd cl outer) (call (.ref 166) [.ref rd, .str (Str.ofString "word") tw]) Q E s := by
  obtain ⟨vs, n, hl, hlen, hlt, hall⟩ := hT.all
  obtain ⟨v, hv, tk, d, ta, t1', t2', t3', t4', t5', t6', t7', t8', n', rfl, hm1, hm2, hm3⟩ := hall i x hx
  have hlen' : vs.length < 1000 := by omega
  refine wpAny_call ?_
  k_dflt k_enter
  k_steps
  simp only [beq_self_eq_true]
  exact ret _ _ (by k_asm) (by k_asm)
theorem is_kind_none (B : Below A₀ base outer h₀) (F : Fr h₀ L s.heap m) (X : (hd.heap_1 w.params).In h₀) (T : Top p loose mean mg mb h₀) (hk : cs.kind = .function)
    (N : News h₀ L s.heap ((rd, instObj 283 rdd) :: (rdd, RD w tl nd i ti t1 t2 t3) :: rest)) (hd : dp + 101 < recursionLimit) (hu : un + 510 < cLine) (hT : Toks w rest tl ws) (hx : ws[i]? = none)
    (ret : ∀ h' tk', Fr h₀ L h' m → News h₀ L h' ((rd, instObj 283 rdd) :: (rdd, RD w tl nd i ti t1 t2 t3) :: rest) → Q (.bool false) { s with heap := h', toks := tk' }) :
    wpAny (model prog w) (ktrTop dp un gd cn cs L a ccd cl outer) (call (.ref 166) [.ref rd, .str (Str.ofString "word") tw]) Q E s := by
  obtain ⟨vs, n, hl, hlen, hlt, hall⟩ := hT.all
  have hi : ws.length ≤ i := by simpa using hx
  have hlen' : vs.length < 1000 := by omega
  refine wpAny_call ?_
  k_dflt k_enter
  k_steps
  exact ret _ _ (by k_asm) (by k_asm)
theorem is_kind_someA (B : Below A₀ base outer h₀) (F : Fr h₀ L s.heap m) (X : (hd.heap_1 w.params).In h₀) (T : Top p loose mean mg mb h₀) (hk : cs.kind = .function)
    (N : News h₀ L s.heap ((rd, instObj 283 rdd) :: (rdd, RD w tl nd i ti t1 t2 t3) :: rest)) (hd : dp + 101 < recursionLimit) (hu : un + 510 < cLine) (hT : Toks w rest tl ws) (hx : ws[i]? = some x)
    (ret : ∀ h' tk', Fr h₀ L h' m → News h₀ L h' ((rd, instObj 283 rdd) :: (rdd, RD w tl nd i ti t1 t2 t3) :: rest) → Q (.bool true) { s with heap := h', toks := tk' }) :
    wpAny (model prog w) (ktrTop dp un gd cn cs L a ccd cl outer) (call (.ref 166) [.ref rd, .str (Str.ofString "word") tw, .int 0 tz]) Q E s := by
  obtain ⟨vs, n, hl, hlen, hlt, hall⟩ := hT.all
  obtain ⟨v, hv, tk, d, ta, t1', t2', t3', t4', t5', t6', t7', t8', n', rfl, hm1, hm2, hm3⟩ := hall i x hx
  have hlen' : vs.length < 1000 := by omega
  refine wpAny_call ?_
  k_dflt k_enter
  k_steps
  simp only [beq_self_eq_true]
  exact ret _ _ (by k_asm) (by k_asm)
theorem is_kind_noneA (B : Below A₀ base outer h₀) (F : Fr h₀ L s.heap m) (X : (hd.heap_1 w.params).In h₀) (T : Top p loose mean mg mb h₀) (hk : cs.kind = .function)
    (N : News h₀ L s.heap ((rd, instObj 283 rdd) :: (rdd, RD w tl nd i ti t1 t2 t3) :: rest)) (hd : dp + 101 < recursionLimit) (hu : un + 510 < cLine) (hT : Toks w rest tl ws) (hx : ws[i]? = none)
    (ret : ∀ h' tk', Fr h₀ L h' m → News h₀ L h' ((rd, instObj 283 rdd) :: (rdd, RD w tl nd i ti t1 t2 t3) :: rest) → Q (.bool false) { s with heap := h', toks := tk' }) :
    wpAny (model prog w) (ktrTop dp un gd cn cs L a ccd cl outer) (call (.ref 166) [.ref rd, .str (Str.ofString "word") tw, .int 0 tz]) Q E s := by
  obtain ⟨vs, n, hl, hlen, hlt, hall⟩ := hT.all
  have hi : ws.length ≤ i := by simpa using hx
  have hlen' : vs.length < 1000 := by omega
  refine wpAny_call ?_
  k_dflt k_enter
  k_steps
  exact ret _ _ (by k_asm) (by k_asm)
end


section
variable {prog : Program} {w : World} {A : Around} {E : Value → Shared → Prop} {s : Shared} {h₀ : Heap} {L : Addr} {m : Str → Option Value} {x : Str} {t : Tok} {Q : Value → Shared → Prop}
theorem inVerbs (F : Fr h₀ L s.heap m) (X : (hd.heap_1 w.params).In h₀) (h : Q (.bool (isVerb x)) s) : wpAny (model prog w) A (compareOp .In (.str x t) (.ref 22)) Q E s := by
  refine in_tuple_strs (ys := verbs) (tupK (X.keeps F.keep) (by k_is)) ?_ h
  simp only [verbs, List.map_cons, List.map_nil]
  repeat (first | exact StrsAre.nil | refine StrsAre.cons _ _ ?_)
end
local macro_rules | `(tactic| walk_at "compareOp In str ref") => `(tactic| (k_here; refine inVerbs (by k_asm) (by k_asm) ?_))
local macro_rules | `(tactic| walk_at "call ref") => `(tactic| (k_here; k_dflt (first
  | (refine' is_kind_some ?B ?F ?X ?T ?hk ?N ?hd ?hu ?hT ?hx ?_; (case B => k_asm); (case F => k_asm); (case X => k_asm); (case T => k_asm); (case hk => first | exact rfl | assumption); (case N => first | k_asm | exact rot1 (by k_asm) | exact rot2 (by k_asm) | exact rot3 (by k_asm)); (case hd => k_room); (case hu => k_units); (case hT => first | assumption | exact Toks.mono (by assumption) (fun _ h => .tail _ h) | exact Toks.mono (by assumption) (fun _ h => .tail _ (.tail _ h)) | exact Toks.mono (by assumption) (fun _ h => .tail _ (.tail _ (.tail _ h))) | exact Toks.mono (by assumption) (fun _ h => .tail _ (.tail _ (.tail _ (.tail _ h))))); (case hx => assumption); k_whole; intro h' tk' F' N'; (try dsimp only))
  | (refine' is_kind_none ?B ?F ?X ?T ?hk ?N ?hd ?hu ?hT ?hx ?_; (case B => k_asm); (case F => k_asm); (case X => k_asm); (case T => k_asm); (case hk => first | exact rfl | assumption); (case N => first | k_asm | exact rot1 (by k_asm) | exact rot2 (by k_asm) | exact rot3 (by k_asm)); (case hd => k_room); (case hu => k_units); (case hT => first | assumption | exact Toks.mono (by assumption) (fun _ h => .tail _ h) | exact Toks.mono (by assumption) (fun _ h => .tail _ (.tail _ h)) | exact Toks.mono (by assumption) (fun _ h => .tail _ (.tail _ (.tail _ h))) | exact Toks.mono (by assumption) (fun _ h => .tail _ (.tail _ (.tail _ (.tail _ h))))); (case hx => assumption); k_whole; intro h' tk' F' N'; (try dsimp only))
  | (refine' is_kind_someA ?B ?F ?X ?T ?hk ?N ?hd ?hu ?hT ?hx ?_; (case B => k_asm); (case F => k_asm); (case X => k_asm); (case T => k_asm); (case hk => first | exact rfl | assumption); (case N => first | k_asm | exact rot1 (by k_asm) | exact rot2 (by k_asm) | exact rot3 (by k_asm)); (case hd => k_room); (case hu => k_units); (case hT => first | assumption | exact Toks.mono (by assumption) (fun _ h => .tail _ h) | exact Toks.mono (by assumption) (fun _ h => .tail _ (.tail _ h)) | exact Toks.mono (by assumption) (fun _ h => .tail _ (.tail _ (.tail _ h))) | exact Toks.mono (by assumption) (fun _ h => .tail _ (.tail _ (.tail _ (.tail _ h))))); (case hx => assumption); k_whole; intro h' tk' F' N'; (try dsimp only))
  | (refine' is_kind_noneA ?B ?F ?X ?T ?hk ?N ?hd ?hu ?hT ?hx ?_; (case B => k_asm); (case F => k_asm); (case X => k_asm); (case T => k_asm); (case hk => first | exact rfl | assumption); (case N => first | k_asm | exact rot1 (by k_asm) | exact rot2 (by k_asm) | exact rot3 (by k_asm)); (case hd => k_room); (case hu => k_units); (case hT => first | assumption | exact Toks.mono (by assumption) (fun _ h => .tail _ h) | exact Toks.mono (by assumption) (fun _ h => .tail _ (.tail _ h)) | exact Toks.mono (by assumption) (fun _ h => .tail _ (.tail _ (.tail _ h))) | exact Toks.mono (by assumption) (fun _ h => .tail _ (.tail _ (.tail _ (.tail _ h))))); (case hx => assumption); k_whole; intro h' tk' F' N'; (try dsimp only)))))
section
variable {prog p : Program} {w : World} {loose : List Str} {mean : ExcName → Option Value} {mg mb : Str → Option Value} {A₀ : Around} {base h₀ : Heap} {outer : List Env} {L : Addr} {m : Str → Option Value} {s : Shared}
  {dp un : Nat} {gd : Option (List Code)} {cn : Str} {cs : Scope} {a : Addr} {ccd : Value} {cl : List (Str × Addr)} {Q E : Value → Shared → Prop} {rest : List (Addr × Obj)}
  {rd rdd tl nd : Addr} {i n : Nat} {ti t1 t2 t3 tw : Tok} {vs : List Value} {ws : List Str} {x : Str}
theorem is_verb_some (B : Below A₀ base outer h₀) (F : Fr h₀ L s.heap m) (X : (hd.heap_1 w.params).In h₀) (T : Top p loose mean mg mb h₀) (hk : cs.kind = .function)
    (N : News h₀ L s.heap ((rd, instObj 283 rdd) :: (rdd, RD w tl nd i ti t1 t2 t3) :: rest)) (hd : dp + 102 < recursionLimit) (hu : un + 520 < cLine) (hT : Toks w rest tl ws) (hx : ws[i]? = some x)
    (ret : ∀ h' tk', Fr h₀ L h' m → News h₀ L h' ((rd, instObj 283 rdd) :: (rdd, RD w tl nd i ti t1 t2 t3) :: rest) → Q (.bool (isVerb x)) { s with heap := h', toks := tk' }) :
    wpAny (model prog w) (ktrTop dp un gd cn cs L a ccd cl outer) (call (.ref 29) [.ref rd]) Q E s := by
  obtain ⟨vs, n, hl, hlen, hlt, hall⟩ := hT.all
  obtain ⟨v, hv, tk, d, ta, t1', t2', t3', t4', t5', t6', t7', t8', n', rfl, hm1, hm2, hm3⟩ := hall i x hx
  have hlen' : vs.length < 1000 := by omega
  refine wpAny_call ?_
  k_dflt k_enter
  k_steps
  exact ret _ _ (by k_asm) (by k_asm)
theorem is_verb_none (B : Below A₀ base outer h₀) (F : Fr h₀ L s.heap m) (X : (hd.heap_1 w.params).In h₀) (T : Top p loose mean mg mb h₀) (hk : cs.kind = .function)
    (N : News h₀ L s.heap ((rd, instObj 283 rdd) :: (rdd, RD w tl nd i ti t1 t2 t3) :: rest)) (hd : dp + 102 < recursionLimit) (hu : un + 520 < cLine) (hT : Toks w rest tl ws) (hx : ws[i]? = none)
    (ret : ∀ h' tk', Fr h₀ L h' m → News h₀ L h' ((rd, instObj 283 rdd) :: (rdd, RD w tl nd i ti t1 t2 t3) :: rest) → Q (.bool false) { s with heap := h', toks := tk' }) :
    wpAny (model prog w) (ktrTop dp un gd cn cs L a ccd cl outer) (call (.ref 29) [.ref rd]) Q E s := by
  obtain ⟨vs, n, hl, hlen, hlt, hall⟩ := hT.all
  have hi : ws.length ≤ i := by simpa using hx
  have hlen' : vs.length < 1000 := by omega
  refine wpAny_call ?_
  k_dflt k_enter
  k_steps
  exact ret _ _ (by k_asm) (by k_asm)
end



local macro_rules | `(tactic| k_all) => `(tactic| assumption)
local macro_rules | `(tactic| walk_at "call ref") => `(tactic| (k_here; k_dflt (first
  | (refine' is_verb_some ?B ?F ?X ?T ?hk ?N ?hd ?hu ?hT ?hx ?_; (case B => k_asm); (case F => k_asm); (case X => k_asm); (case T => k_asm); (case hk => first | exact rfl | assumption); (case N => first | k_asm | exact rot1 (by k_asm) | exact rot2 (by k_asm) | exact rot3 (by k_asm)); (case hd => k_room); (case hu => k_units); (case hT => first | assumption | exact Toks.mono (by assumption) (fun _ h => .tail _ h) | exact Toks.mono (by assumption) (fun _ h => .tail _ (.tail _ h)) | exact Toks.mono (by assumption) (fun _ h => .tail _ (.tail _ (.tail _ h))) | exact Toks.mono (by assumption) (fun _ h => .tail _ (.tail _ (.tail _ (.tail _ h))))); (case hx => assumption); k_whole; intro h' tk' F' N'; (try dsimp only))
  | (refine' is_verb_none ?B ?F ?X ?T ?hk ?N ?hd ?hu ?hT ?hx ?_; (case B => k_asm); (case F => k_asm); (case X => k_asm); (case T => k_asm); (case hk => first | exact rfl | assumption); (case N => first | k_asm | exact rot1 (by k_asm) | exact rot2 (by k_asm) | exact rot3 (by k_asm)); (case hd => k_room); (case hu => k_units); (case hT => first | assumption | exact Toks.mono (by assumption) (fun _ h => .tail _ h) | exact Toks.mono (by assumption) (fun _ h => .tail _ (.tail _ h)) | exact Toks.mono (by assumption) (fun _ h => .tail _ (.tail _ (.tail _ h))) | exact Toks.mono (by assumption) (fun _ h => .tail _ (.tail _ (.tail _ (.tail _ h))))); (case hx => assumption); k_whole; intro h' tk' F' N'; (try dsimp only)))))
section
variable {prog p : Program} {w : World} {loose : List Str} {mean : ExcName → Option Value} {mg mb : Str → Option Value} {A₀ : Around} {base h₀ : Heap} {outer : List Env} {L : Addr} {m : Str → Option Value} {s : Shared}
  {dp un : Nat} {gd : Option (List Code)} {cn : Str} {cs : Scope} {a : Addr} {ccd : Value} {cl : List (Str × Addr)} {Q E : Value → Shared → Prop} {rest : List (Addr × Obj)}
  {rd rdd tl nd : Addr} {i n : Nat} {ti t1 t2 t3 tw : Tok} {vs : List Value} {ws : List Str} {x : Str}
theorem word_c (B : Below A₀ base outer h₀) (F : Fr h₀ L s.heap m) (X : (hd.heap_1 w.params).In h₀) (T : Top p loose mean mg mb h₀) (hk : cs.kind = .function)
    (N : News h₀ L s.heap ((rd, instObj 283 rdd) :: (rdd, RD w tl nd i ti t1 t2 t3) :: rest)) (hd : dp + 103 < recursionLimit) (hu : un + 530 < cLine) (hT : Toks w rest tl ws) (hx : ws[i]? = some x) (hne : rd ≠ rdd) (hoff : ∀ p ∈ rest, p.1 ≠ rdd)
    (ret : ∀ h' tk' ti' tv, Fr h₀ L h' m → News h₀ L h' ((rd, instObj 283 rdd) :: (rdd, RD w tl nd ((i + 1 : Nat) : Int) ti' t1 t2 t3) :: rest) → Q (.str x tv) { s with heap := h', toks := tk' }) :
    wpAny (model prog w) (ktrTop dp un gd cn cs L a ccd cl outer) (call (.ref 201) [.ref rd]) Q E s := by
  obtain ⟨vs, n, hl, hlen, hlt, hall⟩ := hT.all
  obtain ⟨v, hv, tk, d, ta, t1', t2', t3', t4', t5', t6', t7', t8', n', rfl, hm1, hm2, hm3⟩ := hall i x hx
  have hlen' : vs.length < 1000 := by omega
  refine wpAny_call ?_
  k_dflt k_enter
  k_steps
  exact ret _ _ _ _ (by k_asm) (by k_asm)
theorem choose_if {f : Addr} (B : Below A₀ base outer h₀) (F : Fr h₀ L s.heap m) (X : (hd.heap_1 w.params).In h₀) (T : Top p loose mean mg mb h₀) (hk : cs.kind = .function)
    (N : News h₀ L s.heap ((rd, instObj 283 rdd) :: (rdd, RD w tl nd i ti t1 t2 t3) :: rest)) (hd : dp + 103 < recursionLimit) (hu : un + 530 < cLine) 
    (ret : ∀ h' tk', Fr h₀ L h' m → News h₀ L h' ((rd, instObj 283 rdd) :: (rdd, RD w tl nd i ti t1 t2 t3) :: rest) → Q (.ref 313) { s with heap := h', toks := tk' }) :
    wpAny (model prog w) (ktrTop dp un gd cn cs L a ccd cl outer) (call (.ref 320) [.str (Str.ofString "IF") tw]) Q E s := by
  refine wpAny_call ?_
  k_dflt k_enter
  k_steps
  exact ret _ _ (by k_asm) (by k_asm)
theorem choose_no (B : Below A₀ base outer h₀) (F : Fr h₀ L s.heap m) (X : (hd.heap_1 w.params).In h₀) (T : Top p loose mean mg mb h₀) (hk : cs.kind = .function)
    (N : News h₀ L s.heap ((rd, instObj 283 rdd) :: (rdd, RD w tl nd i ti t1 t2 t3) :: rest)) (hd : dp + 103 < recursionLimit) (hu : un + 530 < cLine) (hx : (x == Str.ofString "IF") = false)
    (ret : ∀ h' tk', Fr h₀ L h' m → News h₀ L h' ((rd, instObj 283 rdd) :: (rdd, RD w tl nd i ti t1 t2 t3) :: rest) → Q (.ref 306) { s with heap := h', toks := tk' }) :
    wpAny (model prog w) (ktrTop dp un gd cn cs L a ccd cl outer) (call (.ref 320) [.str x tw]) Q E s := by
  refine wpAny_call ?_
  k_dflt k_enter
  k_steps
  exact ret _ _ (by k_asm) (by k_asm)
end


theorem allLt_ne {d : Addr} : ∀ {l : List (Addr × Obj)}, AllLt d l → ∀ p ∈ l, p.1 ≠ d
  | [], _, _, hp => (nomatch hp)
  | q :: r, h, p, hp => by
    rcases List.mem_cons.mp hp with rfl | hp
    · exact Nat.ne_of_lt h.1
    · exact allLt_ne h.2 p hp
theorem dropMid {h₀ h : Heap} {L : Addr} {x a b y : Addr × Obj} {r : List (Addr × Obj)} (N : News h₀ L h (x :: a :: b :: y :: r)) : News h₀ L h (a :: b :: r) := newsSub N (by intro p hp; simp only [List.mem_cons] at hp ⊢; grind)
theorem neStrT {A : Around} {E : Value → Shared → Prop} {s : Shared} {x y : Str} {t u : Tok} {prog : Program} {w : World} {Q : Value → Shared → Prop} (e : (x != y) = false) (h : Q (.bool false) s) : wpAny (model prog w) A (compareOp .NotEq (.str x t) (.str y u)) Q E s := ne_str (by rw [e]; exact h)
theorem unrEnd3 {h₀ : Heap} {L I : Addr} {it : Obj} {k : (Str → Option Value) → List (Addr × Obj) → Prop} {s₁ : Shared} {h' : Heap} {tk : Nat} {m' : Str → Option Value} {a b : Addr × Obj} {r : List (Addr × Obj)} (F : Fr h₀ L h' m') (N : News h₀ L h' (a :: b :: (I, it) :: r))
    (off : ∀ p ∈ a :: b :: r, p.1 ≠ I) (x : k m' (a :: b :: r)) : UnrEnd h₀ L s₁ I it k { s₁ with heap := h', toks := tk } :=
  UnrEnd.intro F N (a :: b :: r) (by intro p hp; simp only [List.mem_cons] at hp ⊢; grind) off x
local macro_rules | `(tactic| k_all) => `(tactic| (refine allLt_ne ?_; first | assumption | exact (‹_ ∧ AllLt _ _›).2 | exact (‹_ ∧ _ ∧ AllLt _ _›).2.2 | exact (‹_ ∧ _ ∧ _ ∧ AllLt _ _›).2.2.2 | exact (‹_ ∧ _ ∧ _ ∧ _ ∧ AllLt _ _›).2.2.2.2 | exact (‹_ ∧ _ ∧ _ ∧ _ ∧ _ ∧ AllLt _ _›).2.2.2.2.2))
local macro_rules | `(tactic| walk_at "pyIter ref") => `(tactic| (k_here; (with_reducible show wpAny _ _ (pyIter (Value.ref _)) (fun it s₂ => LoopAtV _ _ _ _ _ _ _ _ _ it s₂) _ _); (rename Fr _ _ _ _ => lF'); (rename News _ _ _ _ => lN'); (with_unfolding_all refine iter_listUnr (by rfl) lF' lN' (by k_mem) (by rfl) (by rfl) ?_); clear lF'; intro i' l1; (try k_lt l1)))
local macro_rules | `(tactic| walk_at "compareOp NotEq str str") => `(tactic| (k_here; refine neStrT (by decide +kernel) ?_))
local macro_rules | `(tactic| walk_at "UnrEnd") => `(tactic| (k_here; refine unrEnd3 (by k_asm) (by k_asm) (by k_all) ?_; (try refine ⟨by k_mem, ?_⟩)))
section
variable {prog p : Program} {w : World} {loose : List Str} {mean : ExcName → Option Value} {mg mb : Str → Option Value} {A₀ : Around} {base h₀ : Heap} {outer : List Env} {L : Addr} {m : Str → Option Value} {s : Shared}
  {dp un : Nat} {gd : Option (List Code)} {cn : Str} {cs : Scope} {a : Addr} {ccd : Value} {cl : List (Str × Addr)} {Q E : Value → Shared → Prop} {rest : List (Addr × Obj)}
  {rd rdd tl nd : Addr} {i n : Nat} {ti t1 t2 t3 tw : Tok} {vs : List Value} {ws : List Str} {x : Str}
theorem need_if (B : Below A₀ base outer h₀) (F : Fr h₀ L s.heap m) (X : (hd.heap_1 w.params).In h₀) (T : Top p loose mean mg mb h₀) (hk : cs.kind = .function)
    (N : News h₀ L s.heap ((rd, instObj 283 rdd) :: (rdd, RD w tl nd i ti t1 t2 t3) :: rest)) (hd : dp + 106 < recursionLimit) (hu : un + 580 < cLine) (hT : Toks w rest tl ws) (hx : ws[i]? = some (Str.ofString "IF")) (hne : rd ≠ rdd) (hoff : ∀ p ∈ rest, p.1 ≠ rdd)
    (ret : ∀ h' tk' ti', Fr h₀ L h' m → News h₀ L h' ((rd, instObj 283 rdd) :: (rdd, RD w tl nd ((i + 1 : Nat) : Int) ti' t1 t2 t3) :: rest) → Q (.none) { s with heap := h', toks := tk' }) :
    wpAny (model prog w) (ktrTop dp un gd cn cs L a ccd cl outer) (call (.ref 187) [.ref rd, .str (Str.ofString "IF") tw]) Q E s := by
  obtain ⟨vs, n, hl, hlen, hlt, hall⟩ := hT.all
  obtain ⟨v, hv, tk, d, ta, t1', t2', t3', t4', t5', t6', t7', t8', n', rfl, hm1, hm2, hm3⟩ := hall i _ hx
  have hlen' : vs.length < 1000 := by omega
  refine wpAny_call ?_
  k_dflt k_enter
  k_steps
  exact ret _ _ _ (by k_asm) (dropMid (by k_asm))
theorem need_end (B : Below A₀ base outer h₀) (F : Fr h₀ L s.heap m) (X : (hd.heap_1 w.params).In h₀) (T : Top p loose mean mg mb h₀) (hk : cs.kind = .function)
    (N : News h₀ L s.heap ((rd, instObj 283 rdd) :: (rdd, RD w tl nd i ti t1 t2 t3) :: rest)) (hd : dp + 106 < recursionLimit) (hu : un + 580 < cLine) (hT : Toks w rest tl ws) (hx : ws[i]? = some (Str.ofString "END-IF")) (hne : rd ≠ rdd) (hoff : ∀ p ∈ rest, p.1 ≠ rdd)
    (ret : ∀ h' tk' ti', Fr h₀ L h' m → News h₀ L h' ((rd, instObj 283 rdd) :: (rdd, RD w tl nd ((i + 1 : Nat) : Int) ti' t1 t2 t3) :: rest) → Q (.none) { s with heap := h', toks := tk' }) :
    wpAny (model prog w) (ktrTop dp un gd cn cs L a ccd cl outer) (call (.ref 187) [.ref rd, .str (Str.ofString "END-IF") tw]) Q E s := by
  obtain ⟨vs, n, hl, hlen, hlt, hall⟩ := hT.all
  obtain ⟨v, hv, tk, d, ta, t1', t2', t3', t4', t5', t6', t7', t8', n', rfl, hm1, hm2, hm3⟩ := hall i _ hx
  have hlen' : vs.length < 1000 := by omega
  refine wpAny_call ?_
  k_dflt k_enter
  k_steps
  exact ret _ _ _ (by k_asm) (dropMid (by k_asm))
end


open Builtin Builtin.ObjectAttr Calls PySem in
section
variable {prog : Program} {w : World} {A : Around} {R : Result → Shared → Prop} {h : Heap} {g : Array GenState} {d : Drawn} {t : Nat} {os : OsState}
abbrev excArgs (vs : List Value) : Obj := { cls := .type "tuple", data := .seq vs.toArray }
abbrev excNew (C a : Addr) : Obj := { cls := .ref C, data := .fields #[.ref a, .none, .none, .none, .bool false, .none] }
/-- the maker of exceptions, for a class whose line of bases is known by what it holds -/
theorem exc_new_any {nm q : Str} {C N : Addr} {bs bm bmB : List Value} {hdct : Bool} {sn : List Str} {sub : List Value} {ab : Bool} {col : Option Bool} {dd : Option Addr} {k0 k1 k2 k3 k5 : Option Value} {Bn newId initId : String}
    (F : ExcBaseFacts Bn newId initId bmB) (hC : h.get? C = some (excClassObj nm q C N bs bm hdct sn sub ab col dd k0 k1 k2 k3 k5 newId))
    (hcB : (Value.ref C :: bm).contains (.type Bn) = true) (hcA : (Value.ref C :: bm).contains (.type "AttributeError") = false) (hcN : (Value.ref C :: bm).contains (.type "NameError") = false) {rest : List Value}
    (hq : R (.ok (.ret (.ref (h.objs.size + 1)))) ⟨(h.push (excArgs rest)).push (excNew C h.objs.size), g, d, t, os⟩) (hrest : rest.length ≤ sizeLine) :
    codeAny (model prog w) A (.builtin newId ⟨.ref C :: rest, []⟩) R ⟨h, g, d, t, os⟩ := by
  have hends := F.ends
  refine codeAny_builtinAt F.entry ?_
  unfold Builtin.«BaseException.__new__»
  refine PySem.wpAt_bind ?_
  show PySem.wpAt _ _ _ (stack >>= _) _ _ _
  refine PySem.wpAt_bind (PySem.wpAt_stack fun p below => PySem.wpAt_of_wpAny ?_)
  wp_walk
  refine PySem.wpAt_of_wpAny ?_
  rw [F.owner]
  repeat (first | with_reducible refine wpAny_madeHere_exc F.canon hC ?_ | with_reducible refine wpAny_loadPart_at hC ?_ | (with_reducible refine wpAny_isSubtype_exc hC ?_; first | rw [hcB] | rw [hcA] | rw [hcN]) | wp_step)
  show R _ _
  rw [Heap.size_push]
  exact hq
theorem exc_check_new {nm q : Str} {C N : Addr} {bs bm bmB : List Value} {hdct : Bool} {sn : List Str} {sub : List Value} {ab : Bool} {col : Option Bool} {dd : Option Addr} {k0 k1 k2 k3 k5 : Option Value} {Bn newId initId : String}
    (F : ExcBaseFacts Bn newId initId bmB) (hC : h.get? C = some (excClassObj nm q C N bs bm hdct sn sub ab col dd k0 k1 k2 k3 k5 newId))
    (hcB : (Value.ref C :: bm).contains (.type Bn) = true) {rest : List Value} {M : Model} {Q : Unit → Shared → Prop} {E : Value → Shared → Prop} (hq : Q () ⟨h, g, d, t, os⟩) :
    wpAny M A (checkBuiltinCall newId ⟨.ref C :: rest, []⟩) Q E ⟨h, g, d, t, os⟩ := by
  have hstar := F.noStar
  simp only [checkBuiltinCall, F.newKind, F.newSplit, F.newRow]
  repeat (first | refine wpAny_loadPart_at hC ?_ | (refine wpAny_isSubtype_exc hC ?_; rw [hcB]) | refine wpAny_staticBase_exc hC ?_ | refine wpAny_madeBy_exc hC ?_ | simp only [bne_self_eq_false, Bool.false_eq_true, if_false] | wp_step)
  exact hq
theorem make_GF (X : (hd.heap_1 w.params).In h) {rest : List Value} (hrest : rest.length ≤ sizeLine)
    (hq : codeAny (model prog w) (A.under (.builtin "type.__call__" ⟨.ref 82 :: rest, []⟩)) (.call (.ref 59) ⟨.ref (h.objs.size + 1) :: rest, []⟩) (InitBack (h.objs.size + 1) R) ⟨(h.push (excArgs rest)).push (excNew 82 h.objs.size), g, d, t, os⟩) :
    codeAny (model prog w) A (.call (.ref 82) ⟨rest, []⟩) R ⟨h, g, d, t, os⟩ := by
  have F := PySem.F.excBase_Exception
  have hC := X 82 _ (by k_is)
  have call : Looks (model prog w) h (specialOf (.ref 82) "__call__") (some (.builtin "type.__call__")) := looks_specialIn X (by k_is)
  have typ : Looks (model prog w) h (isInstance (.ref 82) (.type "type")) true := looks_instIn X (by k_is)
  have k : ∀ b o, h.get? b = some o → ((h.push (excArgs rest)).push (excNew 82 h.objs.size)).get? b = some o := fun b o e => Heap.get?_push_of_some _ (Heap.get?_push_of_some _ e)
  have X₁ := X.keeps k
  have hx : ((h.push (excArgs rest)).push (excNew 82 h.objs.size)).get? (h.objs.size + 1) = some (excNew 82 h.objs.size) := by heap_get
  have t1 : Looks (model prog w) ((h.push (excArgs rest)).push (excNew 82 h.objs.size)) (typeOf (.ref (h.objs.size + 1))) (.ref 82) := (Looks.ld hx).andThen .now
  have s1 : Looks (model prog w) ((h.push (excArgs rest)).push (excNew 82 h.objs.size)) (isSubtype (.ref 82) (.ref 82)) true := looks_subIn X₁ (by k_is)
  have i1 : Looks (model prog w) ((h.push (excArgs rest)).push (excNew 82 h.objs.size)) (typeLookup (.ref 82) "__init__") (some (.ref 59)) := looks_findIn X₁ (by k_is)
  have b1 : Looks (model prog w) ((h.push (excArgs rest)).push (excNew 82 h.objs.size)) (bindSpecial (.ref 59) (.ref (h.objs.size + 1))) (.ref 59, [.ref (h.objs.size + 1)]) := bind_fn X₁ _ (by k_is)
  have hm : Looks (model prog w) h (mroOf (.ref 82)) _ := ((Looks.ld (part := none) hC).andThen .now).andThen .now
  refine codeAny_of_tree ?_
  show wpAny _ _ (callAny (.ref 82) _) _ _ _
  refine nd_load hC ?_
  show wpAny _ _ (callAny.viaDunder (.ref 82) _) _ _ _
  unfold callAny.viaDunder
  refine wpAny_bind (call.at ?_)
  dsimp only
  rw [tc_bind]
  refine wpAny_bind (wpAny_pure (wpAny_bind (wpAny_pure ?_)))
  refine wpAny_pure (a := Fin.again (.call (.builtin "type.__call__") ⟨.ref 82 :: rest, []⟩)) (And.intro rfl ?_)
  refine codeAny_call_builtin_at (Code.quiet_builtin _ (by decide +kernel)) entry_typeCall (check_slot tc_kind tc_split typ (tc_args _ _ _) ?_)
  unfold Builtin.«type.__call__»
  repeat (first | with_reducible refine wpAny_madeBy_exc hC ?_ | with_reducible refine wpAny_call ?_ | lk)
  refine codeAny_call_builtin_code (Code.quiet_builtin _ F.quiet) (exc_check_new F hC (by decide +kernel) ?_)
  refine exc_new_any F hC (by decide +kernel) (by decide +kernel) (by decide +kernel) ?_ hrest
  unfold isInstance callSpecial? specialOf
  repeat (first | with_reducible refine wpAny_call ?_ | lk)
  refine codeAny_mono hq fun r s' z => ?_
  rcases r with e | (v | _ | _ | _) <;> first | exact z | exact z.elim | skip
  obtain ⟨rfl, z⟩ := z
  exact wpAny_pure (wpAny_pure z)
end


section
variable {prog : Program} {w : World} {A : Around} {E : Value → Shared → Prop} {s : Shared} {h₀ : Heap} {L : Addr} {m : Str → Option Value} {news : List (Addr × Obj)}
theorem exc_init_name {pl : Sem Bool} {Q : Value × List Value → Shared → Prop} (F : Fr h₀ L s.heap m) (X : (hd.heap_1 w.params).In h₀)
    (h : Q (.builtin "Exception.__init__", []) { s with toks := s.toks + 1 }) : wpAny (model prog w) A (getMethod (.type "Exception") (Str.ofString "__init__") pl) Q E s :=
  method_type F X (by first | rfl | kernel_rfl) (by decide +kernel) (by k_is) (by decide +kernel) h
theorem exc_check_init {h : Heap} {g : Array GenState} {d : Drawn} {t : Nat} {os : OsState} {M : Model} {e : Addr} {oe : Obj} {rest : List Value} {Q : Unit → Shared → Prop} (X : (hd.heap_1 w.params).In h)
    (he : h.get? e = some oe) (hcls : oe.cls = .ref 82) (hq : Q () ⟨h, g, d, t, os⟩) : wpAny M A (checkBuiltinCall "Exception.__init__" ⟨.ref e :: rest, []⟩) Q E ⟨h, g, d, t, os⟩ := by
  have F := PySem.F.excBase_Exception
  have hC := X 82 _ (by k_is)
  have hcB : ([Value.ref 82, Value.ref 69, Value.type "Exception", Value.type "BaseException", Value.type "object"] : List Value).contains (.type "Exception") = true := by decide +kernel
  have hshort := F.noStar
  simp only [checkBuiltinCall, F.initKind, F.initSplit, F.initRow]
  repeat (first | (with_reducible refine wpAny_loadPart_at he ?_; rw [hcls]) | with_reducible refine wpAny_loadPart_at hC ?_ | (with_reducible refine wpAny_isSubtype_exc hC ?_; rw [hcB]) | wp_step)
  refine wpAny_onRaise ?_
  rw [show ∀ (a b : String) (n : Nat), Bind.check ⟨.positional, "*", "Exception", .self, [⟨"args", .varPos, false⟩]⟩ a b n (List.map (fun x => x.fst) ({ pos := Value.ref e :: rest } : Args).kw) = pure () from
    fun a b n => check_star_args _ _ _ _ _ _]
  exact wpAny_pure hq
theorem exc_init_call {e ex : Addr} {v : Value} {Q : Value → Shared → Prop} (F : Fr h₀ L s.heap m) (X₀ : (hd.heap_1 w.params).In h₀) (N : News h₀ L s.heap ((e, excNew 82 ex) :: news)) (hoff : ∀ p ∈ news, p.1 ≠ e)
    (h : ∀ ex' h', Fr h₀ L h' m → News h₀ L h' ((ex', excArgs [v]) :: (e, excNew 82 ex') :: news) → (∀ p ∈ (e, excNew 82 ex) :: news, p.1 < ex') → Q .none { s with heap := h' }) :
    wpAny (model prog w) A (call (.builtin "Exception.__init__") [.ref e, v]) Q E s := by
  have FE := PySem.F.excBase_Exception
  have X := X₀.keeps F.keep
  obtain ⟨hh, g, d, t, os⟩ := s
  have D := N (e, excNew 82 ex) (.head _)
  have he := D.1
  refine wpAny_call (codeAny_call_builtin FE.init.plain FE.initEntry (exc_check_init X he rfl ?_))
  unfold Builtin.«BaseException.__init__»
  wp_walk
  have N₁ := N.push F (excArgs [v])
  have F₁ := F.push (excArgs [v])
  have lt : ∀ p ∈ (e, excNew 82 ex) :: news, p.1 < hh.objs.size := fun p hp => Heap.lt_size (N p hp).1
  obtain ⟨F₂, N₂⟩ := news_upd (pre := [(hh.objs.size, excArgs [v])]) (post := news) (o' := excNew 82 hh.objs.size) (f := Obj.mapFields (·.setIfInBounds 0 (Value.ref hh.objs.size))) F₁ N₁ (fun p hp => by
    rw [List.mem_singleton.mp hp]; exact Nat.ne_of_gt (lt _ (.head _))) hoff rfl rfl
  exact h hh.objs.size _ F₂ N₂ lt
theorem cls82 (w : World) : clsIn (hd.heap_1 w.params) 82 = some { name := Str.ofString "GrammarFault", bases := [.ref 69], mro := [.ref 82, .ref 69, .type "Exception", .type "BaseException", .type "object"], ns := 81, qualname := Str.ofString "GrammarFault" } := by k_is
abbrev excD (C a dx : Addr) : Obj := { cls := .ref C, dict := some dx, data := .fields #[.ref a, .none, .none, .none, .bool false, .none] }
open PySem.Builtin PySem.Builtin.ObjectAttr in
/-- a store into an exception of the own class, to the place where its own dict is asked for -/
theorem exc_set_open {e : Addr} {ox : Obj} {od : Option Obj} {name : Str} {v : Value} {Q : Unit → Shared → Prop} (X : (hd.heap_1 w.params).In s.heap) (I : InstAt s.heap e ox 82 od) (ha : findIn (hd.heap_1 w.params) (.ref 82) name = some none)
    (h : ∀ A' : Around, wpAny (model prog w) A' (storeInOwnDict (.ref e) (.ref 82) (.str name s.toks) name v false)
      (fun fin s' => match fin with | .done (.ret _) => Q () s' | _ => False) (fun x s' => E x s') { s with toks := s.toks + 1 }) :
    wpAny (model prog w) A (setAttr (.ref e) name v) Q E s := by
  refine set_plain X I (by k_is) ?_
  have SF := PySem.F.store_object
  have sub : Looks (model prog w) s.heap (isInstance (.ref e) (.type "object")) true := I.type.andThen (looks_mroIn X (by k_is))
  refine codeAny_call_builtin SF.slot.plain SF.entry (@check_slot (model prog w) _ _ { s with toks := s.toks + 1 } "object.__setattr__" "object" "__setattr__" (.ref e) [.str name s.toks, v] [] _ SF.kind SF.split sub (SF.args (.ref e) (.str name s.toks) v) ?_)
  have hc := cls82 w
  have hm : Looks (model prog w) s.heap (mroOf (.ref 82)) [.ref 82, .ref 69, .type "Exception", .type "BaseException", .type "object"] := (looks_clsIn X hc).andThen .now
  rw [osa_eq, refuse_eq]
  obtain ⟨hh, g, d, t, os⟩ := s
  dsimp only at X I hm h ⊢
  have ht := I.type (M := model prog w)
  have hl := looks_findIn (M := model prog w) X ha
  refine wpAny_bind (wpAny_bind (ht.at (wpAny_bind (hm.at ?_))))
  rw [refuseLoop_ref, refuseLoop_ref, PySem.F.store_Exception.passes]
  refine wpAny_pure (wpAny_bind (ht.at (wpAny_bind (hl.at (wpAny_bind (wpAny_pure ?_))))))
  refine wpAny_mono (h _) (fun fin s' z => ?_) (fun _ _ z => z)
  rcases fin with (_ | _ | _ | _) | _ <;> first | exact z | exact z.elim
open PySem.Builtin PySem.Builtin.ObjectAttr in
theorem storeIn_L {dx : Addr} {es es' : List DictEntry} {n n' : Nat} {name : Str} {tk : Tok} {v : Value} {news news' : List (Addr × Obj)} {Q : PySem.Fin → Shared → Prop} (F : Fr h₀ L s.heap m) (N : News h₀ L s.heap news)
    (U : Upd dx (dictOf es n) (dictOf es' n') news news') (hl : (getL name es).isSome = true) (e : (putL name (PyData.keyHash w.params name) (.str name s.toks) v es, putN name es n) = (es', n')) (hz : es'.length ≤ 1000)
    (h : ∀ h', Fr h₀ L h' m → News h₀ L h' news' → Q (.done (.ret .none)) { s with heap := h', toks := s.toks + 1 }) :
    wpAny (model prog w) A (storeInDict dx (.str name tk) name v) Q E s := by
  obtain ⟨pre, post, rfl, rfl, h1, h2⟩ := U.split
  obtain ⟨e1, e2⟩ := Prod.mk.inj e
  obtain ⟨U1, U2⟩ := news_upd (f := Obj.putName name (PyData.keyHash w.params name) (.str name s.toks) v) F N h1 h2 (by rw [putName_dict, e1, e2]) rfl
  have D := (N (dx, dictOf es n) (by simp)).1
  have D' := (U2 (dx, dictOf es' n') (by simp)).1
  unfold storeInDict newKeyGuard
  refine wpAny_bind (wpAny_pure (wpAny_bind ?_))
  unfold nsSet
  refine wpAny_bind (wpAny_bind (wpAny_askSetting (wpAny_pure (wpAny_bind (wpAny_mkText (wpAny_bind (wpAny_loadPart D ?_)))))))
  dsimp only
  have c : (!es.toArray.any (·.key.isStr name) && es.toArray.any (·.refKey)) = false := by
    rw [← Array.any_toList, ← Array.any_toList]
    unfold getL at hl
    dsimp only
    split at hl
    · rename_i en he
      rw [List.any_eq_true.mpr ⟨en, List.mem_of_find?_eq_some he, List.find?_some he⟩]; rfl
    · split at hl
      · cases hl
      · rename_i z; rw [Bool.not_eq_true] at z; rw [z, Bool.and_false]
  rw [aRefKeyMayBeTheName_at, c]
  refine wpAny_updatePart D ?_
  refine wpAny_bind (wpAny_lookBehind D' (pastItsLine_dict (by rw [List.size_toArray, sizeLine_eq]; omega)) ?_)
  exact wpAny_pure (h _ U1 U2)
open PySem.Builtin PySem.Builtin.ObjectAttr in
theorem exc_set_first {e ex : Addr} {name : Str} {v : Value} {Q : Unit → Shared → Prop} (F : Fr h₀ L s.heap m) (X₀ : (hd.heap_1 w.params).In h₀) (N : News h₀ L s.heap ((e, excNew 82 ex) :: news)) (hoff : ∀ p ∈ news, p.1 ≠ e)
    (ha : findIn (hd.heap_1 w.params) (.ref 82) name = some none)
    (h : ∀ dx h' t tk, Fr h₀ L h' m → News h₀ L h' ((dx, dictOf [⟨PyData.keyHash w.params name, .str name t, v⟩] 1) :: (e, excD 82 ex dx) :: news) → (∀ p ∈ (e, excNew 82 ex) :: news, p.1 < dx) → Q () { s with heap := h', toks := tk }) :
    wpAny (model prog w) A (setAttr (.ref e) name v) Q E s := by
  have D := N (e, excNew 82 ex) (.head _)
  have I : InstAt s.heap e (excNew 82 ex) 82 none := ⟨D.1, rfl, rfl, trivial⟩
  have X := X₀.keeps F.keep
  refine exc_set_open X I ha fun A' => ?_
  obtain ⟨hh, g, d, t, os⟩ := s
  have hc := looks_clsIn (M := model prog w) X (cls82 w)
  dsimp only at X D hc
  refine wpAny_bind (wpAny_pure (wpAny_bind (wpAny_bind (wpAny_loadPart D.1 (wpAny_bind (hc.at ?_))))))
  dsimp only
  have F₁ := F.push (dictOf [] 0)
  have N₁ := N.push F (dictOf [] 0)
  have lt : ∀ p ∈ (e, excNew 82 ex) :: news, p.1 < hh.objs.size := fun p hp => Heap.lt_size (N p hp).1
  have he₁ := (N₁ (e, excNew 82 ex) (.tail _ (.head _))).1
  refine wpAny_bind (wpAny_alloc (wpAny_bind (wpAny_update he₁ (wpAny_pure ?_))))
  obtain ⟨F₂, N₂⟩ := news_upd (pre := [(hh.objs.size, dictOf [] 0)]) (post := news) (o' := excD 82 ex hh.objs.size) (f := fun o => { o with dict := some hh.objs.size }) F₁ N₁ (fun p hp => by
    rw [List.mem_singleton.mp hp]; exact Nat.ne_of_gt (lt _ (.head _))) hoff rfl rfl
  refine storeIn_L F₂ N₂ (Upd.head fun p hp => ?_) (by rfl) (by rfl) (by simp) fun h' F' N' => h hh.objs.size h' _ _ F' N' lt
  rcases List.mem_cons.mp hp with rfl | hp
  · exact Nat.ne_of_lt (lt (e, excNew 82 ex) (.head _))
  · exact Nat.ne_of_lt (lt _ (.tail _ hp))
open PySem.Builtin PySem.Builtin.ObjectAttr in
theorem exc_set_more {e ex dx : Addr} {name : Str} {v : Value} {es es' : List DictEntry} {n n' : Nat} {news' : List (Addr × Obj)} {Q : Unit → Shared → Prop} (F : Fr h₀ L s.heap m) (X₀ : (hd.heap_1 w.params).In h₀) (N : News h₀ L s.heap news) (hm : (e, excD 82 ex dx) ∈ news)
    (ha : findIn (hd.heap_1 w.params) (.ref 82) name = some none)
    (U : Upd dx (dictOf es n) (dictOf es' n') news news') (hl : (getL name es).isSome = true) (q : (putL name (PyData.keyHash w.params name) (.str name (s.toks + 1)) v es, putN name es n) = (es', n')) (hz : es'.length ≤ 1000)
    (h : ∀ h' tk, Fr h₀ L h' m → News h₀ L h' news' → Q () { s with heap := h', toks := tk }) :
    wpAny (model prog w) A (setAttr (.ref e) name v) Q E s := by
  have X := X₀.keeps F.keep
  obtain ⟨pre, post, hpre, _, _, _⟩ := U.split
  have hdx : (dx, dictOf es n) ∈ news := by rw [hpre]; simp
  have I : InstAt s.heap e (excD 82 ex dx) 82 (some (dictOf es n)) := ⟨(N _ hm).1, rfl, rfl, (N _ hdx).1⟩
  refine exc_set_open X I ha fun A' => ?_
  have hc := looks_clsIn (M := model prog w) X (cls82 w)
  obtain ⟨hh, g, d, t, os⟩ := s
  dsimp only at X I hc q
  refine wpAny_bind (wpAny_pure (wpAny_bind (wpAny_bind (wpAny_loadPart I.at_ (wpAny_bind (hc.at ?_))))))
  refine wpAny_pure (a := some dx) ?_
  exact storeIn_L (s := ⟨hh, g, d, t + 1, os⟩) F N U hl q hz fun h' F' N' => h h' _ F' N'
end
theorem dropTwo {h : Heap} {d x e y : Addr × Obj} {r : List (Addr × Obj)} (N : News h₀ L h (d :: e :: x :: y :: r)) : News h₀ L h (d :: e :: r) := newsSub N (by intro p hp; simp only [List.mem_cons] at hp ⊢; grind)
theorem rotE {h : Heap} {x y : Addr × Obj} {r : List (Addr × Obj)} (N : News h₀ L h (x :: y :: r)) : News h₀ L h (y :: x :: r) := newsSub N (by intro p hp; simp only [List.mem_cons] at hp ⊢; grind)
local macro_rules | `(tactic| walk_at "setAttr ref") => `(tactic| (k_here; k_dflt (refine' exc_set_first ?F ?X ?N ?o ?a ?_; (case F => k_asm); (case X => k_asm); (case N => first | k_asm | exact rotE (by k_asm)); (case a => k_is); (case o => k_all); k_whole); intro dx' h' t' tk' F' N' l1; (try k_lt l1); (try dsimp only)))
local macro_rules | `(tactic| walk_at "setAttr ref") => `(tactic| (k_here; k_dflt (refine' exc_set_more ?F ?X ?N ?m ?a ?U ?l ?q ?z ?_; (case F => k_asm); (case X => k_asm); (case N => k_asm); (case m => k_mem); (case a => k_is); (case U => k_upd); (case l => k_get); (case q => k_put); (case z => exact Nat.le_of_ble_eq_true rfl); k_whole); intro h' tk' F' N'; (try dsimp only)))
local macro_rules | `(tactic| walk_at "call builtin:Exception.__init__") => `(tactic| (k_here; refine exc_init_call (by k_asm) (by k_asm) (by k_asm) (by k_all) ?_; intro ex' h' F' N' l1; (try k_lt l1); (try dsimp only)))
local macro_rules | `(tactic| walk_at "getMethod") => `(tactic| (k_here; refine exc_init_name (by k_asm) (by k_asm) ?_; (try dsimp only)))
section
variable {prog p : Program} {w : World} {loose : List Str} {mean : ExcName → Option Value} {mg mb : Str → Option Value} {A₀ : Around} {base h₀ : Heap} {outer : List Env} {L : Addr} {m : Str → Option Value} {s : Shared}
  {dp un : Nat} {gd : Option (List Code)} {cn : Str} {cs : Scope} {a : Addr} {ccd : Value} {cl : List (Str × Addr)} {Q E : Value → Shared → Prop} {rest : List (Addr × Obj)}
  {rd rdd tl nd : Addr} {i n : Nat} {ti t1 t2 t3 tw : Tok} {vs : List Value} {ws : List Str} {x what : Str} {news : List (Addr × Obj)} {e ex ta : Addr}
abbrev exBook (w : World) (t1 t2 tw : Tok) (what : Str) (ta : Addr) : Obj := dictOf [ent w "what" t1 (.str what tw), ent w "at" t2 (.ref ta)] 2
theorem ginit_code {R : Result → Shared → Prop} (B : Below A₀ base outer h₀) (F : Fr h₀ L s.heap m) (X : (hd.heap_1 w.params).In h₀) (T : Top p loose mean mg mb h₀) (hk : cs.kind = .function)
    (N : News h₀ L s.heap ((e, excNew 82 ex) :: (ex, excArgs [.str what tw, .ref ta]) :: news)) (hd : dp + 103 < recursionLimit) (hu : un + 530 < cLine) (hoff : ∀ p ∈ news, p.1 ≠ e) (hne : ex ≠ e)
    (ret : ∀ dx ex' h' tk' t1 t2, Fr h₀ L h' m → News h₀ L h' ((dx, exBook w t1 t2 tw what ta) :: (e, excD 82 ex' dx) :: news) → AllLt dx ((e, excD 82 ex' dx) :: news) → R (.ok (.ret .none)) { s with heap := h', toks := tk' })
    : codeAny (model prog w) (ktrTop dp un gd cn cs L a ccd cl outer) (.call (.ref 59) ⟨[.ref e, .str what tw, .ref ta], []⟩) R s := by
  k_dflt k_enter
  k_steps
  exact ret _ _ _ _ _ _ (by k_asm) (dropTwo (by k_asm)) (by first | exact ⟨(‹_ ∧ _ ∧ _ ∧ AllLt _ _›).1, (‹_ ∧ _ ∧ _ ∧ AllLt _ _›).2.2.2⟩)
theorem make_fault (B : Below A₀ base outer h₀) (F : Fr h₀ L s.heap m) (X : (hd.heap_1 w.params).In h₀) (T : Top p loose mean mg mb h₀) (hk : cs.kind = .function)
    (N : News h₀ L s.heap news) (hd : dp + 104 < recursionLimit) (hu : un + 540 < cLine)
    (ret : ∀ e dx ex' h' tk' t1 t2, Fr h₀ L h' m → News h₀ L h' ((dx, exBook w t1 t2 tw what ta) :: (e, excD 82 ex' dx) :: news) → AllLt e news → AllLt dx ((e, excD 82 ex' dx) :: news) → Q (.ref e) { s with heap := h', toks := tk' })
    : wpAny (model prog w) (ktrTop dp un gd cn cs L a ccd cl outer) (call (.ref 82) [.str what tw, .ref ta]) Q E s := by
  obtain ⟨hh, g, d, t, os⟩ := s
  refine wpAny_call (make_GF (X.keeps F.keep) (by size_fits) ?_)
  have F₁ := F.push (excArgs [.str what tw, .ref ta])
  have N₁ := N.push F (excArgs [.str what tw, .ref ta])
  have F₂ := F₁.push (excNew 82 hh.objs.size)
  have N₂ := N₁.push F₁ (excNew 82 hh.objs.size)
  have lt : ∀ p ∈ news, p.1 < hh.objs.size := fun p hp => Heap.lt_size (N p hp).1
  dsimp only at F₂ N₂
  rw [Heap.size_push] at N₂
  refine ginit_code (dp := dp + 1) (un := un + 1) B F₂ X T hk N₂ (by omega) (by omega) (fun p hp => Nat.ne_of_lt (Nat.lt_succ_of_lt (lt p hp))) (Nat.ne_of_lt (Nat.lt_succ_self _)) fun dx ex' h' tk' t1 t2 F' N' l2 => ?_
  exact ⟨rfl, ret _ dx ex' h' tk' t1 t2 F' N' (allLt_of fun p hp => Nat.lt_succ_of_lt (lt p hp)) l2⟩
end


section
variable {prog : Program} {w : World} {A : Around} {E : Value → Shared → Prop} {s : Shared} {h₀ : Heap} {L : Addr} {news : List (Addr × Obj)}
theorem truthyN {l : Addr} {vs : List Value} {n : Nat} {Q : Bool → Shared → Prop} (N : News h₀ L s.heap news) (hm : (l, listOf vs.toArray n) ∈ news) (hz : (vs.length : Int) < 2 ^ 63)
    (h : ∀ tk, Q (decide (0 < vs.length)) { s with toks := tk }) : wpAny (model prog w) A (truthy (.ref l)) Q E s :=
  wpAny_truthy_list (News.isList N hm) (by simpa using hz) (by
    have e : (!vs.toArray.isEmpty) = decide (0 < vs.length) := by cases vs <;> simp
    rw [e]; exact h _)
end
local macro_rules | `(tactic| walk_at "truthy ref") => `(tactic| (k_here; (with_reducible show wpAny _ _ (truthy (Value.ref _)) _ _ _); (refine' truthyN ?k1 ?k2 ?k3 ?_; (case k1 => k_asm); (case k2 => k_mem); (case k3 => omega)); intro tk'; (try dsimp only)))
local macro_rules | `(tactic| walk_at "call ref") => `(tactic| (k_here; k_dflt (refine' make_fault ?B ?F ?X ?T ?hk ?N ?hd ?hu ?_; (case B => k_asm); (case F => k_asm); (case X => k_asm); (case T => k_asm); (case hk => first | exact rfl | assumption); (case N => k_asm); (case hd => k_room); (case hu => k_units); k_whole); intro e' dx' ex' h' tk' t1' t2' F' N' l1 l2; (try dsimp only)))
section
variable {prog p : Program} {w : World} {loose : List Str} {mean : ExcName → Option Value} {mg mb : Str → Option Value} {A₀ : Around} {base h₀ : Heap} {outer : List Env} {L : Addr} {m : Str → Option Value} {s : Shared}
  {dp un : Nat} {gd : Option (List Code)} {cn : Str} {cs : Scope} {a : Addr} {ccd : Value} {cl : List (Str × Addr)} {Q E : Value → Shared → Prop} {rest : List (Addr × Obj)}
  {rd rdd tl nd : Addr} {i n : Nat} {ti t1 t2 t3 tw : Tok} {vs : List Value} {ws : List Str} {x what : Str} {news : List (Addr × Obj)} {e ex ta : Addr}
theorem fault_some (B : Below A₀ base outer h₀) (F : Fr h₀ L s.heap m) (X : (hd.heap_1 w.params).In h₀) (T : Top p loose mean mg mb h₀) (hk : cs.kind = .function)
    (N : News h₀ L s.heap ((rd, instObj 283 rdd) :: (rdd, RD w tl nd i ti t1 t2 t3) :: rest)) (hd : dp + 106 < recursionLimit) (hu : un + 560 < cLine) (hT : Toks w rest tl ws) (hx : ws[i]? = some x)
    (ret : ∀ e dx ex h' tk' t1' t2' ta t7 t8 n, Fr h₀ L h' m → News h₀ L h' ((dx, exBook w t1' t2' tw what ta) :: (e, excD 82 ex dx) :: (rd, instObj 283 rdd) :: (rdd, RD w tl nd i ti t1 t2 t3) :: rest) →
      AllLt e ((rd, instObj 283 rdd) :: (rdd, RD w tl nd i ti t1 t2 t3) :: rest) → AllLt dx ((e, excD 82 ex dx) :: (rd, instObj 283 rdd) :: (rdd, RD w tl nd i ti t1 t2 t3) :: rest) → (ta, tupOf [.int 2 t7, .int ((i : Int) + 5) t8] n) ∈ rest →
      Q (.ref e) { s with heap := h', toks := tk' })
    : wpAny (model prog w) (ktrTop dp un gd cn cs L a ccd cl outer) (call (.ref 151) [.ref rd, .str what tw]) Q E s := by
  obtain ⟨vs, n, hl, hlen, hlt, hall⟩ := hT.all
  obtain ⟨v, hv, tk, d, ta, t1', t2', t3', t4', t5', t6', t7', t8', n', rfl, hm1, hm2, hm3⟩ := hall i x hx
  have hlen' : vs.length < 1000 := by omega
  have hi : i < ws.length := by rcases Nat.lt_or_ge i ws.length with h | h; exact h; rw [List.getElem?_eq_none h] at hx; cases hx
  refine wpAny_call ?_
  k_dflt k_enter
  k_steps
  have hq : ¬ ((vs.length : Int) - 1 < (i : Int)) := by omega
  simp only [if_neg hq]
  k_steps
  refine' ret _ _ _ _ _ _ _ _ _ _ _ ?c1 ?c2 ?c3 ?c4 hm3
  (case c1 => k_asm)
  (case c2 => k_asm)
  (case c3 => k_asm)
  (case c4 => k_asm)
theorem fault_nil (B : Below A₀ base outer h₀) (F : Fr h₀ L s.heap m) (X : (hd.heap_1 w.params).In h₀) (T : Top p loose mean mg mb h₀) (hk : cs.kind = .function)
    (N : News h₀ L s.heap ((rd, instObj 283 rdd) :: (rdd, RD w tl nd i ti t1 t2 t3) :: rest)) (hd : dp + 106 < recursionLimit) (hu : un + 560 < cLine) (hT : Toks w rest tl ws) (hx : ws = [])
    (ret : ∀ e dx ex h' tk' t1' t2' ta t7 t8 n, Fr h₀ L h' m → News h₀ L h' ((dx, exBook w t1' t2' tw what ta) :: (e, excD 82 ex dx) :: (ta, tupOf [.int 0 t7, .int 0 t8] n) :: (rd, instObj 283 rdd) :: (rdd, RD w tl nd i ti t1 t2 t3) :: rest) →
      AllLt e ((ta, tupOf [.int 0 t7, .int 0 t8] n) :: (rd, instObj 283 rdd) :: (rdd, RD w tl nd i ti t1 t2 t3) :: rest) → AllLt dx ((e, excD 82 ex dx) :: (ta, tupOf [.int 0 t7, .int 0 t8] n) :: (rd, instObj 283 rdd) :: (rdd, RD w tl nd i ti t1 t2 t3) :: rest) →
      AllLt ta ((rd, instObj 283 rdd) :: (rdd, RD w tl nd i ti t1 t2 t3) :: rest) →
      Q (.ref e) { s with heap := h', toks := tk' })
    : wpAny (model prog w) (ktrTop dp un gd cn cs L a ccd cl outer) (call (.ref 151) [.ref rd, .str what tw]) Q E s := by
  subst hx
  obtain ⟨vs, n, hl, hlen, hlt, hall⟩ := hT.all
  have hz : vs.length = 0 := hlen
  refine wpAny_call ?_
  k_dflt k_enter
  k_steps
  refine' ret _ _ _ _ _ _ _ _ _ _ _ ?c1 ?c2 ?c3 ?c4 ?c5
  (case c1 => k_asm)
  (case c2 => k_asm)
  (case c3 => k_asm)
  (case c4 => k_asm)
  (case c5 => k_asm)
end


theorem dict_mapFields (o : Obj) (f) : (o.mapFields f).dict = o.dict := by obtain ⟨c, d, dt, sl⟩ := o; cases dt <;> rfl

/-- an exception under way that has a dict of its own: its class, its dict, the head of its traceback with the word fl of the frame that holds it -/
def TrD (h base : Heap) (e dx : Addr) (fl : Value) : Prop :=
  ∃ oe vs T oT ts, h.get? e = some oe ∧ oe.cls = .ref 82 ∧ oe.dict = some dx ∧ oe.data = .fields vs ∧ vs[1]? = some (.ref T) ∧ base.get? T = none ∧ T ≠ e ∧ h.get? T = some oT ∧ oT.data = .fields ts ∧ ts[3]? = some fl
def FlyD (base : Heap) (l : List Env) (e dx : Addr) (fl : Value) (h : Heap) : Prop := base.StaysIn h ∧ base.get? e = none ∧ h.FunFrames base l ∧ TrD h base e dx fl

section
variable {M : Model} {A : Around} {E : Value → Shared → Prop} {s : Shared}
theorem entryD {base : Heap} {env : Env} {outer : List Env} {L e : Addr} {oe : Obj} {vs : Array Value} {head : Value} {hadNext : Bool} {dx : Addr} {Q : Unit → Shared → Prop}
    (hfr : A.frames = some (env :: outer)) (hf : env.frame = some L) (hkb : base.StaysIn s.heap) (hen : base.get? e = none) (hl : s.heap.FunFrames base (env :: outer))
    (he : s.heap.get? e = some oe) (hc : oe.cls = .ref 82) (hdx : oe.dict = some dx) (hd : oe.data = .fields vs) (hsz : 1 < vs.size)
    (h : ∀ h', FlyD base (env :: outer) e dx (rawInt L) h' → s.heap.UpToSlots h' → Q () { s with heap := h' }) :
    wpAny M A (do let a ← frameOf env; let pl ← entryPlaceOf L hadNext; let b ← EntryCells.newEntry head a .none (rawInt L) .none pl; setField (.ref e) 1 b) Q E s := by
  have eOff : e ∉ (env :: outer).filterMap (·.frame) := fun hm => by
    obtain ⟨_, o, ho, hnf⟩ := hl.mem hm
    rw [he] at ho; injection ho with ho; subst ho; exact hnf vs hd
  refine wpAny_bind (wpAny_frameOf_fun hfr hl hf fun h₁ hs₁ => ?_)
  refine wpAny_bind (wpAny_entryPlaceOf fun pl hpl => ?_)
  unfold EntryCells.newEntry newFields
  refine wpAny_bind (wpAny_newObj_type ?_ (hpl.sizeOk5 _ _ _ _ _))
  generalize hts : ([head, Value.ref L, Value.none, rawInt L, Value.none] ++ (if pl.isEmpty then List.replicate 6 Value.none else pl)).toArray = ts
  have e₁ : h₁.get? e = some oe := (hs₁.2.1 e eOff).trans he
  have k₁ : base.StaysIn h₁ := fun b o hbo => (hs₁.2.1 b fun hm => by rw [(hl.mem hm).1] at hbo; cases hbo).trans (hkb b o hbo)
  have e₂ := Heap.get?_push_of_some (h := h₁) { cls := .type "traceback", dict := none, data := .fields ts } e₁
  have nT : h₁.objs.size ≠ e := Nat.ne_of_gt (Heap.lt_size e₁)
  have d₃ := Obj.data_mapFields hd (·.setIfInBounds 1 (Value.ref h₁.objs.size))
  have e₃ := Heap.get?_update_self (Obj.mapFields (·.setIfInBounds 1 (Value.ref h₁.objs.size))) e₂ (Obj.isFreed_of_fields d₃)
  have T₃ := (Heap.get?_update_other (h₁.push { cls := .type "traceback", dict := none, data := .fields ts }) (Obj.mapFields (·.setIfInBounds 1 (Value.ref h₁.objs.size))) (Ne.symm nT)).trans (Heap.get?_push_size h₁ rfl)
  have up : ∀ b o, b ≠ e → h₁.get? b = some o → ((h₁.push { cls := .type "traceback", dict := none, data := .fields ts }).update e (Obj.mapFields (·.setIfInBounds 1 (Value.ref h₁.objs.size)))).get? b = some o := fun b o hbe hb => by
    rw [Heap.get?_update_other _ _ (Ne.symm hbe)]
    exact Heap.get?_push_of_some _ hb
  have nRec : ∀ b o, s.heap.get? b = some o → (∀ vs, o.data ≠ .fields vs) → b ≠ e := fun b o hb hnf q => by
    rw [q, he] at hb; injection hb with hb; subst hb; exact hnf vs hd
  refine wpAny_setField e₂ hd hsz (h _ ⟨fun b o hbo => up b o (fun q => by rw [q, hen] at hbo; cases hbo) (k₁ b o hbo), hen, hl.of_keeps fun b o hb hnf => ?_, ?_⟩ fun b o hb hnf => ?_)
  · obtain ⟨sl, hs⟩ := hs₁.2.2 b o hb
    exact ⟨_, up b _ (nRec b o hb hnf) hs, rfl⟩
  · refine ⟨_, _, h₁.objs.size, _, _, e₃, (Obj.cls_mapFields _ _).trans hc, (dict_mapFields _ _).trans hdx, d₃, by simp [hsz], k₁.fresh, nT, T₃, rfl, ?_⟩
    subst hts
    first | (simp; done) | (rcases hpl with rfl | ⟨_, _, _, _, _, _, _, rfl⟩ <;> simp)
  · obtain ⟨sl, hs⟩ := hs₁.2.2 b o hb
    exact ⟨sl, up b _ (nRec b o hb hnf) hs⟩

/-- the first frame that an exception leaves, or looks out of -/
theorem noteD_first {base : Heap} {env : Env} {outer : List Env} {L e : Addr} {oe : Obj} {vs : Array Value} {dx : Addr} {Q : Unit → Shared → Prop}
    (hfr : A.frames = some (env :: outer)) (hf : env.frame = some L) (hkb : base.StaysIn s.heap) (hen : base.get? e = none) (hl : s.heap.FunFrames base (env :: outer))
    (he : s.heap.get? e = some oe) (hc : oe.cls = .ref 82) (hdx : oe.dict = some dx) (hd : oe.data = .fields vs) (h1 : vs[1]? = some .none)
    (h : ∀ h', FlyD base (env :: outer) e dx (rawInt L) h' → s.heap.UpToSlots h' → Q () { s with heap := h' }) : wpAny M A (noteFrame (.ref e) env) Q E s := by
  unfold noteFrame
  simp only [hf]
  refine wpAny_bind (wpAny_field he hd h1 ?_)
  rw [if_neg (by decide)]
  exact entryD hfr hf hkb hen hl he hc hdx hd (Array.getElem?_eq_some_iff.mp h1).1 h

theorem noteD_next {base : Heap} {env : Env} {outer : List Env} {L e dx : Addr} {Q : Unit → Shared → Prop}
    (hfr : A.frames = some (env :: outer)) (hf : env.frame = some L) (x : FlyD base (env :: outer) e dx .none s.heap)
    (h : ∀ h', FlyD base (env :: outer) e dx (rawInt L) h' → s.heap.UpToSlots h' → Q () { s with heap := h' }) : wpAny M A (noteFrame (.ref e) env) Q E s := by
  obtain ⟨hkb, hen, hl, oe, vs, T, oT, ts, he, hc, hdx, hd, h1, hnT, hTe, hT, hdT, h3⟩ := x
  unfold noteFrame
  simp only [hf]
  refine wpAny_bind (wpAny_field he hd h1 ?_)
  rw [if_pos (show (Value.ref T != Value.none) = true from by simp)]
  refine wpAny_bind (wpAny_field hT hdT h3 ?_)
  rw [if_neg (show ¬ ((Value.none == rawInt L) = true) from by simp [rawInt])]
  refine wpAny_bind (wpAny_setField hT hdT (Array.getElem?_eq_some_iff.mp h3).1 ?_)
  have off : ∀ b, b ≠ T → (s.heap.update T (Obj.mapFields (·.setIfInBounds 3 Value.none))).get? b = s.heap.get? b := fun b hb => Heap.get?_update_other _ _ (Ne.symm hb)
  have nRec : ∀ b o, s.heap.get? b = some o → (∀ vs, o.data ≠ .fields vs) → b ≠ T := fun b o hb hnf q => by
    rw [q, hT] at hb; injection hb with hb; subst hb; exact hnf ts hdT
  refine entryD hfr hf (fun b o hbo => (off b fun q => by rw [q, hnT] at hbo; cases hbo).trans (hkb b o hbo)) hen (hl.of_keeps fun b o hb hnf => ⟨o, (off b (nRec b o hb hnf)).trans hb, rfl⟩)
    ((off e (Ne.symm hTe)).trans he) hc hdx hd (Array.getElem?_eq_some_iff.mp h1).1 fun h' x1 x2 => h h' x1 fun b o hb hnf => x2 b o ((off b (nRec b o hb hnf)).trans hb) hnf

theorem noteD_again {base : Heap} {env : Env} {l : List Env} {L e dx : Addr} {Q : Unit → Shared → Prop} (hf : env.frame = some L) (x : FlyD base l e dx (rawInt L) s.heap) (h : Q () s) : wpAny M A (noteFrame (.ref e) env) Q E s := by
  obtain ⟨hkb, hen, hl, oe, vs, T, oT, ts, he, hc, hdx, hd, h1, hnT, hTe, hT, hdT, h3⟩ := x
  unfold noteFrame
  simp only [hf]
  refine wpAny_bind (wpAny_field he hd h1 ?_)
  rw [if_pos (show (Value.ref T != Value.none) = true from by simp)]
  refine wpAny_bind (wpAny_field hT hdT h3 ?_)
  rw [if_pos (show (rawInt L == rawInt L) = true from by simp)]
  exact wpAny_pure h

theorem landD {base : Heap} {l : List Env} {e dx : Addr} {fl : Value} {to : Option Addr} {Q : Unit → Shared → Prop} (x : FlyD base l e dx fl s.heap)
    (h : ∀ h', FlyD base l e dx (to.elim .none fun f => rawInt f) h' → s.heap.UpToSlots h' → Q () { s with heap := h' }) : wpAny M A (setFlight (.ref e) to) Q E s := by
  obtain ⟨hkb, hen, hl, oe, vs, T, oT, ts, he, hc, hdx, hd, h1, hnT, hTe, hT, hdT, h3⟩ := x
  have hsz : 3 < ts.size := (Array.getElem?_eq_some_iff.mp h3).1
  have off : ∀ b, b ≠ T → (s.heap.update T (Obj.mapFields (·.setIfInBounds 3 (to.elim Value.none fun f => rawInt f)))).get? b = s.heap.get? b := fun b hb => Heap.get?_update_other _ _ (Ne.symm hb)
  have nRec : ∀ b o, s.heap.get? b = some o → (∀ vs, o.data ≠ .fields vs) → b ≠ T := fun b o hb hnf q => by
    rw [q, hT] at hb; injection hb with hb; subst hb; exact hnf ts hdT
  unfold setFlight
  refine wpAny_bind (wpAny_field he hd h1 ?_)
  rw [if_pos (show (Value.ref T != Value.none) = true from by simp)]
  refine wpAny_setField hT hdT hsz (h _ ⟨fun b o hbo => (off b fun q => by rw [q, hnT] at hbo; cases hbo).trans (hkb b o hbo), hen, hl.of_keeps fun b o hb hnf => ⟨o, (off b (nRec b o hb hnf)).trans hb, rfl⟩, ?_⟩ fun b o hb hnf => ⟨o.slots, (off b (nRec b o hb hnf)).trans hb⟩)
  exact ⟨oe, vs, T, _, _, (off e (Ne.symm hTe)).trans he, hc, hdx, hd, h1, hnT, hTe, Heap.get?_update_self _ hT (Obj.isFreed_of_fields (Obj.data_mapFields hdT _)), Obj.data_mapFields hdT _, by simp [hsz]⟩

theorem FlyD.tail {base h : Heap} {env : Env} {outer : List Env} {e dx : Addr} {fl : Value} (x : FlyD base (env :: outer) e dx fl h) : FlyD base outer e dx fl h := ⟨x.1, x.2.1, x.2.2.1.2.2, x.2.2.2⟩
end

/-- an exception under way, and the ledger that stands beside it -/
def RaisedD (base : Heap) (l : List Env) (e dx : Addr) (fl : Value) (news : List (Addr × Obj)) (h : Heap) : Prop :=
  ∃ B, base.StaysIn B ∧ (∀ q ∈ news, B.get? q.1 = some q.2 ∧ base.get? q.1 = none) ∧ FlyD B l e dx fl h
theorem RaisedD.tail {base h : Heap} {env : Env} {outer : List Env} {e dx : Addr} {fl : Value} {news : List (Addr × Obj)} (x : RaisedD base (env :: outer) e dx fl news h) : RaisedD base outer e dx fl news h :=
  let ⟨B, a, b, c⟩ := x; ⟨B, a, b, c.tail⟩
theorem RaisedD.less {base h : Heap} {l : List Env} {e dx : Addr} {fl : Value} {news news' : List (Addr × Obj)} (x : RaisedD base l e dx fl news h) (sb : ∀ p ∈ news', p ∈ news) : RaisedD base l e dx fl news' h :=
  let ⟨B, a, b, c⟩ := x; ⟨B, a, fun q hq => b q (sb q hq), c⟩

section
variable {M : Model} {A : Around} {E : Value → Shared → Prop} {s : Shared} {base g : Heap} {outer : List Env} {env : Env} {L e dx ex : Addr} {m : Str → Option Value} {news : List (Addr × Obj)} {Q : Unit → Shared → Prop}
/-- an exception that this frame has made goes on its way: the ledger beside it is news -/
theorem noteD_made (B : Below A base outer g) (F : Fr g L s.heap m) (N : News g L s.heap ((e, excD 82 ex dx) :: news)) (hoff : ∀ p ∈ news, p.1 ≠ e) (hf : env.frame = some L) (hk : env.scope.kind = .function)
    (h : ∀ h', RaisedD base (env :: outer) e dx (rawInt L) news h' → s.heap.UpToSlots h' → Q () { s with heap := h' }) : wpAny M (A.deeper env) (noteFrame (.ref e) env) Q E s := by
  have K' := pushX B F hf hk
  have hin : ∀ en ∈ (env :: outer), ∀ b, en.frame = some b → b ∈ (env :: outer).filterMap (·.frame) := fun en he b hb => List.mem_filterMap.mpr ⟨en, he, hb⟩
  have fresh : ∀ b, g.get? b = none → base.get? b = none := fun b hb => fresh_of_stays B.stays hb
  have nf : ∀ q ∈ (e, excD 82 ex dx) :: news, q.1 ∉ (env :: outer).filterMap (·.frame) := fun q hq hm => by
    obtain ⟨en, he, hfr⟩ := List.mem_filterMap.mp hm
    rcases List.mem_cons.mp he with rfl | he
    · exact (N q hq).2.1 (Option.some.inj (hfr.symm.trans hf))
    · obtain ⟨o, ho, _⟩ := (B.frames.mem (List.mem_filterMap.mpr ⟨en, he, hfr⟩)).2
      rw [(N q hq).2.2] at ho; cases ho
  have D := N (e, excD 82 ex dx) (.head _)
  have st : base.StaysIn (hideAll s.heap (e :: (env :: outer).filterMap (·.frame))) := fun b o q => hideAll_get _ (K'.stays b o q) fun hm => by
    rcases List.mem_cons.mp hm with rfl | hm
    · have hb := fresh b D.2.2
      rw [hb] at q; cases q
    · rw [(K'.frames.mem hm).1] at q; cases q
  refine noteD_first K'.stack hf (base := hideAll s.heap (e :: (env :: outer).filterMap (·.frame))) (fun b o q => of_hideAll _ q) (hideAll_none _ (List.mem_cons_self ..)) (funFrames_hide K'.frames fun en he b hb => .tail _ (hin en he b hb)) D.1 rfl rfl rfl rfl
    fun h' x1 x2 => h h' ⟨_, st, fun q hq => ⟨hideAll_get _ (N q (.tail _ hq)).1 fun hm => ?_, fresh _ (N q (.tail _ hq)).2.2⟩, x1⟩ x2
  rcases List.mem_cons.mp hm with e' | hm
  · exact hoff q hq e'
  · exact nf q (.tail _ hq) hm
theorem leaveD_made (B : Below A base outer g) (F : Fr g L s.heap m) (N : News g L s.heap ((e, excD 82 ex dx) :: news)) (hoff : ∀ p ∈ news, p.1 ≠ e) (hf : env.frame = some L) (hk : env.scope.kind = .function)
    (h : ∀ h', RaisedD base outer e dx .none news h' → g.UpToSlots h' → Q () { s with heap := h' }) : wpAny M (A.deeper env) (leaving env (.ref e)) Q E s := by
  unfold leaving
  refine wpAny_bind (noteD_made B F N hoff hf hk fun h₁ x1 x2 => ?_)
  obtain ⟨Bh, a, b, c⟩ := x1
  exact landD (s := { s with heap := h₁ }) c fun h' y1 y2 => h h' ⟨Bh, a, b, y1.tail⟩ ((Heap.UpToSlots.of_keeps F.keep).trans (x2.trans y2))
/-- an exception that came from a callee goes on its way -/
theorem leaveD_on (B : Below A base outer g) (F : Fr g L s.heap m) (R : RaisedD base (env :: outer) e dx .none news s.heap) (hf : env.frame = some L)
    (h : ∀ h', RaisedD base outer e dx .none news h' → g.UpToSlots h' → Q () { s with heap := h' }) : wpAny M (A.deeper env) (leaving env (.ref e)) Q E s := by
  obtain ⟨Bh, a, b, c⟩ := R
  unfold leaving
  refine wpAny_bind (noteD_next (Around.frames_deeper B.stack) hf c fun h₁ x1 x2 => ?_)
  exact landD (s := { s with heap := h₁ }) x1 fun h' y1 y2 => h h' ⟨Bh, a, b, y1.tail⟩ ((Heap.UpToSlots.of_keeps F.keep).trans (x2.trans y2))
end



abbrev lamQual : Str := (Str.ofString "statement_at" ++ (".<locals>." : Str)) ++ ("<lambda>" : Str)
abbrev tab1 (c : Addr) : Array Value := #[] ++ #[rawInt ((19 : Nat) : Int), rawInt ((47 : Nat) : Int), .ref c]
/-- the table of the codes that statement_at has made: none, or the code of its lambda -/
def TabOk (ps : Array Value) (rest : List (Addr × Obj)) : Prop :=
  ps = #[] ∨ ∃ c' oc vs t, ps = tab1 c' ∧ (c', oc) ∈ rest ∧ oc.data = .fields vs ∧ vs[1]? = some (.str lamQual t)
theorem TabOk.mono {ps : Array Value} {rest rest' : List (Addr × Obj)} (h : TabOk ps rest) (s : ∀ p ∈ rest, p ∈ rest') : TabOk ps rest' := by
  rcases h with h | ⟨c', oc, vs, t, e, hm, r⟩
  · exact .inl h
  · exact .inr ⟨c', oc, vs, t, e, s _ hm, r⟩
section
variable {prog : Program} {w : World} {A : Around} {E : Value → Shared → Prop} {s : Shared} {env : Env} {x : Sem Value} {Q : Flow → Shared → Prop}
/-- raise of an exception of the own class that is made already -/
theorem raise_own (hh : A.handled = none)
    (h : wpAny (model prog w) A x (fun v s₁ => ∃ e ex dx, v = .ref e ∧ (hd.heap_1 w.params).In s₁.heap ∧ s₁.heap.get? e = some (excD 82 ex dx) ∧ E (.ref e) s₁) E s) :
    wpAny (model prog w) A (raiseStmt env (some x) none) Q E s := by
  unfold raiseStmt
  refine wpAny_bind (wpAny_mono h (fun v s₁ h₁ => ?_) fun _ _ x => x)
  obtain ⟨e, ex, dx, rfl, X, he, hE⟩ := h₁
  have hC := X 82 _ (by k_is)
  have hcB : ([Value.ref 82, Value.ref 69, Value.type "Exception", Value.type "BaseException", Value.type "object"] : List Value).contains (.type "BaseException") = true := by decide +kernel
  obtain ⟨hp, g, d, tk, os⟩ := s₁
  repeat (first | with_reducible refine wpAny_loadPart_at he ?_ | with_reducible refine wpAny_loadPart_at hC ?_ | (with_reducible refine wpAny_isSubtype_exc hC ?_; rw [hcB]) | wp_step)
  exact wpAny_raiseNew_none hh hE
def RaisableD (w : World) (E : Value → Shared → Prop) (v : Value) (s₁ : Shared) : Prop := ∃ e ex dx, v = .ref e ∧ (hd.heap_1 w.params).In s₁.heap ∧ s₁.heap.get? e = some (excD 82 ex dx) ∧ E (.ref e) s₁
theorem Raise_own {e : PySem.Expr} {pos : Pos} (hh : A.handled = none) (h : wpAny (model prog w) A (eval e env) (RaisableD w E) E s) : wpAny (model prog w) A (exec (.Raise (some e) none pos) env) Q E s := by
  show wpAny _ A (do standAt pos; raiseStmt env (some (do let v ← eval e env; standAt pos; pure v)) none) Q E s
  exact wpAny_bind (wpAny_standAt (raise_own hh (wpAny_bind (wpAny_mono h (fun v s₁ h₁ => wpAny_bind (wpAny_standAt (wpAny_pure h₁))) fun _ _ x => x))))
theorem News.swap {h₀ : Heap} {L : Addr} {h : Heap} {p q : Addr × Obj} {r : List (Addr × Obj)} (N : News h₀ L h (p :: q :: r)) : News h₀ L h (q :: p :: r) := newsSub N (by intro x hx; simp only [List.mem_cons] at hx ⊢; rcases hx with h | h | h <;> simp [h])
end
section
variable {M : Model} {A : Around} {E : Value → Shared → Prop} {s : Shared} {base g G : Heap} {outer : List Env} {env : Env} {L e dx ex : Addr} {m : Str → Option Value} {news : List (Addr × Obj)} {Q : Unit → Shared → Prop}
/-- an exception that came from a callee goes on its way; the frame's own heap was G before the frames' places were turned -/
theorem leaveD_up (B : Below A base outer g) (F : Fr g L G m) (U : G.UpToSlots s.heap) (R : RaisedD base (env :: outer) e dx .none news s.heap) (hf : env.frame = some L)
    (h : ∀ h', RaisedD base outer e dx .none news h' → g.UpToSlots h' → Q () { s with heap := h' }) : wpAny M (A.deeper env) (leaving env (.ref e)) Q E s := by
  obtain ⟨Bh, a, b, c⟩ := R
  unfold leaving
  refine wpAny_bind (noteD_next (Around.frames_deeper B.stack) hf c fun h₁ x1 x2 => ?_)
  exact landD (s := { s with heap := h₁ }) x1 fun h' y1 y2 => h h' ⟨Bh, a, b, y1.tail⟩ ((Heap.UpToSlots.of_keeps F.keep).trans (U.trans (x2.trans y2)))
/-- what a caller gets when the callee raised: an exception under way, with its book and its place, and the ledger that outlives it -/
def Err (w : World) (base h₀ : Heap) (env : Env) (outer : List Env) (L : Addr) (m : Str → Option Value) (keep : List (Addr × Obj)) (c1 c2 : Int) (E : Value → Shared → Prop) (s : Shared) : Prop :=
  ∀ (G h' : Heap) (tk' : Nat) (e dx ta : Addr) (t1 t2 tw u1 u2 : Tok) (what : Str) (n : Nat) (news : List (Addr × Obj)), Fr h₀ L G m → G.UpToSlots h' → RaisedD base (env :: outer) e dx .none news h' →
    (dx, exBook w t1 t2 tw what ta) ∈ news → (ta, tupOf [.int c1 u1, .int c2 u2] n) ∈ news → (∀ p ∈ keep, p ∈ news) → (∃ ps, (38, tabObj ps) ∈ news ∧ TabOk ps news) → E (.ref e) { s with heap := h', toks := tk' }
theorem raisedHere {prog : Program} {w : World} {A : Around} {h₀ g : Heap} {L' dx ex ta : Addr} {m' : Str → Option Value} {env' : Env} {keep : List (Addr × Obj)} {c1 c2 : Int} {E : Value → Shared → Prop} {s s' : Shared} {rest : List (Addr × Obj)} {t1 t2 tw u1 u2 : Tok} {what : Str} {n : Nat}
    (err : Err w base h₀ env outer L m keep c1 c2 E s) (B : Below A base (env :: outer) g) (FG : Fr h₀ L g m) (F : Fr g L' s'.heap m') (N : News g L' s'.heap ((dx, exBook w t1 t2 tw what ta) :: (e, excD 82 ex dx) :: rest)) (X : (hd.heap_1 w.params).In g)
    (l1 : AllLt e rest) (l2 : @LT.lt Nat _ e dx) (hta : (ta, tupOf [.int c1 u1, .int c2 u2] n) ∈ rest) (hs : ∀ p ∈ keep, p ∈ rest) (h38 : ∃ ps, (38, tabObj ps) ∈ rest ∧ TabOk ps rest) (hf : env'.frame = some L') (hk : env'.scope.kind = .function)
    (same : ∀ h', ∃ tk', ({ s' with heap := h' } : Shared) = { s with heap := h', toks := tk' }) :
    RaisableD w (fun e s' => wpAny (model prog w) (A.deeper env') (leaving env' e) (fun _ s'' => E e s'') (fun e' s'' => E e' s'') s') (.ref e) s' := by
  refine ⟨e, ex, dx, rfl, X.keeps F.keep, (N _ (.tail _ (.head _))).1, leaveD_made B F (News.swap N) (fun p hp => ?_) hf hk fun h' R U => ?_⟩
  · rcases List.mem_cons.mp hp with rfl | hp
    · exact Nat.ne_of_gt l2
    · exact allLt_ne l1 p hp
  · obtain ⟨tk', q⟩ := same h'
    rw [q]
    exact err _ h' tk' _ _ _ _ _ _ _ _ _ _ _ FG U R (.head _) (.tail _ hta) (fun p hp => .tail _ (hs p hp)) (let ⟨ps, h, t⟩ := h38; ⟨ps, .tail _ h, t.mono fun p hp => .tail _ hp⟩)
theorem Err.pass {prog : Program} {w : World} {A : Around} {h₀ g : Heap} {L' : Addr} {m' : Str → Option Value} {env' : Env} {keep keep' : List (Addr × Obj)} {c1 c2 : Int} {E : Value → Shared → Prop} {s s' : Shared}
    (err : Err w base h₀ env outer L m keep c1 c2 E s) (B : Below A base (env :: outer) g) (FG : Fr h₀ L g m) (hs : ∀ p ∈ keep, p ∈ keep') (hf : env'.frame = some L')
    (same : ∀ h' tk, ∃ tk', ({ s' with heap := h', toks := tk } : Shared) = { s with heap := h', toks := tk' }) :
    Err w base g env' (env :: outer) L' m' keep' c1 c2 (fun e s' => wpAny (model prog w) (A.deeper env') (leaving env' e) (fun _ s'' => E e s'') (fun e' s'' => E e' s'') s') s' := by
  intro G h' tk' e dx ta t1 t2 tw u1 u2 what n news F' U R m1 m2 sub h38
  refine leaveD_up B F' U R hf fun h'' R' U' => ?_
  obtain ⟨tk'', q⟩ := same h'' tk'
  show E _ ({ s' with heap := h'', toks := tk' } : Shared)
  rw [q]
  exact err g h'' tk'' e dx ta t1 t2 tw u1 u2 what n news FG U' R' m1 m2 (fun p hp => sub p (hs p hp)) h38
end
local macro_rules | `(tactic| walk_at "exec Raise some none") => `(tactic| (k_here; refine Raise_own rfl ?_))
local macro_rules | `(tactic| walk_at "d_sub") => `(tactic| first | (refine' List.forall_mem_cons.mpr ⟨?ka, ?kb⟩; (case ka => k_mem); (case kb => walk_at "d_sub")) | (intro p hp; repeat (first | exact hp | refine List.Mem.tail _ ?_)))
local macro_rules | `(tactic| walk_at "d_raise") => `(tactic| (refine' raisedHere ?k1 ?k2 ?k3 ?k4 ?k5 ?k6 ?k7 ?k8 ?k9 ?kA ?k0 ?kB ?kC ?kD; (case k1 => assumption); (case k2 => assumption); (case k3 => assumption); (case k5 => assumption); (case k4 => assumption); (case k6 => assumption); (case k7 => assumption); (case k8 => exact (show AllLt _ ((_, excD _ _ _) :: _) from by assumption).1); (case k9 => first | assumption | exact List.Mem.tail _ (List.Mem.tail _ (by assumption))); (case kA => walk_at "d_sub"); (case k0 => refine' ⟨_, ?ka, ?kb⟩; (case ka => first | k_mem | exact List.Mem.tail _ (List.Mem.tail _ (by k_mem))); (case kb => first | assumption | (refine' TabOk.mono ?kt ?ku; (case kt => assumption); (case ku => walk_at "d_sub")))); (case kB => exact rfl); (case kC => exact rfl); (case kD => exact fun h' => ⟨_, rfl⟩)))


/-- x stands in l; r is what is left -/
inductive Pick {α : Type _} (x : α) : List α → List α → Prop
  | head (r : List α) : Pick x (x :: r) r
  | tail (y : α) {l r : List α} : Pick x l r → Pick x (y :: l) (y :: r)
  | app (e : List α) {l r : List α} : Pick x l r → Pick x (e ++ l) (e ++ r)
theorem Pick.mem {α : Type _} {x : α} {l r : List α} (h : Pick x l r) : ∀ p, p = x ∨ p ∈ r → p ∈ l := by
  induction h with
  | head r => intro p hp; simpa using hp
  | tail y _ ih => intro p hp; simp only [List.mem_cons] at hp ⊢; rcases hp with h | h | h; exact .inr (ih p (.inl h)); exact .inl h; exact .inr (ih p (.inr h))
  | app e _ ih => intro p hp; simp only [List.mem_append] at hp ⊢; rcases hp with h | h | h; exact .inr (ih p (.inl h)); exact .inl h; exact .inr (ih p (.inr h))
inductive Brings {α : Type _} : List α → List α → Prop
  | nil (l : List α) : Brings l l
  | cons {x : α} {l r v : List α} : Pick x l r → Brings r v → Brings l (x :: v)
theorem Brings.sub {α : Type _} {l v : List α} (h : Brings l v) : ∀ p ∈ v, p ∈ l := by
  induction h with
  | nil l => exact fun _ h => h
  | cons a _ ih => intro p hp; rcases List.mem_cons.mp hp with h | h; exact a.mem p (.inl h); exact a.mem p (.inr (ih p h))
theorem newsBring {h₀ h : Heap} {L : Addr} {l v : List (Addr × Obj)} (N : News h₀ L h l) (b : Brings l v) : News h₀ L h v := newsSub N b.sub
local macro_rules | `(tactic| walk_at "d_pick") => `(tactic| first | exact Pick.head _ | (refine' Pick.tail _ ?kc; (case kc => walk_at "d_pick")) | (refine' Pick.app _ ?kc; (case kc => walk_at "d_pick")))
local macro_rules | `(tactic| walk_at "d_bring") => `(tactic| first | exact Brings.nil _ | (refine' Brings.cons ?ka ?kb; (case ka => walk_at "d_pick"); (case kb => walk_at "d_bring")))
local macro_rules | `(tactic| walk_at "d_news") => `(tactic| (refine' newsBring ?ka ?kb; (case ka => assumption); (case kb => walk_at "d_bring")))
local macro_rules | `(tactic| walk_at "d_off") => `(tactic| first | assumption | (refine' List.forall_mem_cons.mpr ⟨?ka, ?kb⟩; (case ka => k_ne); (case kb => walk_at "d_off")))
local macro_rules | `(tactic| walk_at "call ref") => `(tactic| (k_here; k_dflt (first
  | (refine' is_verb_some ?B ?F ?X ?T ?hk ?N ?hd ?hu ?hT ?hx ?_; (case B => k_asm); (case F => k_asm); (case X => k_asm); (case T => k_asm); (case hk => first | exact rfl | assumption); (case N => first | k_asm | walk_at "d_news"); (case hd => k_room); (case hu => k_units); (case hT => first | assumption | (refine' Toks.mono ?kt ?ku; (case kt => assumption); (case ku => walk_at "d_sub"))); (case hx => first | assumption | simpa using (by assumption)); k_whole; intro h' tk' F' N'; (try dsimp only))
  | (refine' is_verb_none ?B ?F ?X ?T ?hk ?N ?hd ?hu ?hT ?hx ?_; (case B => k_asm); (case F => k_asm); (case X => k_asm); (case T => k_asm); (case hk => first | exact rfl | assumption); (case N => first | k_asm | walk_at "d_news"); (case hd => k_room); (case hu => k_units); (case hT => first | assumption | (refine' Toks.mono ?kt ?ku; (case kt => assumption); (case ku => walk_at "d_sub"))); (case hx => first | assumption | simpa using (by assumption)); k_whole; intro h' tk' F' N'; (try dsimp only))
  | (refine' word_c ?B ?F ?X ?T ?hk ?N ?hd ?hu ?hT ?hx ?hne ?hoff ?_; (case B => k_asm); (case F => k_asm); (case X => k_asm); (case T => k_asm); (case hk => first | exact rfl | assumption); (case N => first | k_asm | walk_at "d_news"); (case hd => k_room); (case hu => k_units); (case hT => first | assumption | (refine' Toks.mono ?kt ?ku; (case kt => assumption); (case ku => walk_at "d_sub"))); (case hx => first | assumption | simpa using (by assumption)); (case hne => first | assumption | omega); (case hoff => walk_at "d_off"); k_whole; intro h' tk' ti' tv' F' N'; (try dsimp only))
  | (refine' fault_some ?B ?F ?X ?T ?hk ?N ?hd ?hu ?hT ?hx ?_; (case B => k_asm); (case F => k_asm); (case X => k_asm); (case T => k_asm); (case hk => first | exact rfl | assumption); (case N => first | k_asm | walk_at "d_news"); (case hd => k_room); (case hu => k_units); (case hT => first | assumption | (refine' Toks.mono ?kt ?ku; (case kt => assumption); (case ku => walk_at "d_sub"))); (case hx => first | assumption | simpa using (by assumption)); k_whole; intro e' dx' ex' h' tk' t1' t2' ta' t7' t8' n' F' N' l1 l2 hta'; (try dsimp only)))))
section
variable {prog p : Program} {w : World} {loose : List Str} {mean : ExcName → Option Value} {mg mb : Str → Option Value} {A₀ : Around} {base h₀ : Heap} {outer : List Env} {L : Addr} {m : Str → Option Value} {s : Shared}
  {dp un : Nat} {gd : Option (List Code)} {cn : Str} {cs : Scope} {a : Addr} {ccd : Value} {cl : List (Str × Addr)} {Q E : Value → Shared → Prop} {rest : List (Addr × Obj)}
  {rd rdd tl nd : Addr} {i n : Nat} {ti t1 t2 t3 tw : Tok} {vs : List Value} {ws : List Str} {x : Str}
theorem bare_c (B : Below A₀ base outer h₀) (F : Fr h₀ L s.heap m) (X : (hd.heap_1 w.params).In h₀) (T : Top p loose mean mg mb h₀) (hk : cs.kind = .function)
    (N : News h₀ L s.heap ((rd, instObj 283 rdd) :: (rdd, RD w tl nd i ti t1 t2 t3) :: rest)) (hd : dp + 110 < recursionLimit) (hu : un + 600 < cLine) (hT : Toks w rest tl ws) (hx : ws[i]? = some x) (hne : rd ≠ rdd) (hoff : ∀ p ∈ rest, p.1 ≠ rdd) {v : Value}
    (ret : ∀ b n t h' tk' ti', Fr h₀ L h' m → News h₀ L h' ((rd, instObj 283 rdd) :: (rdd, RD w tl nd ((i + 1 : Nat) : Int) ti' t1 t2 t3) :: (b, tupOf [.str x t] n) :: rest) → AllLt b ((rd, instObj 283 rdd) :: (rdd, RD w tl nd ((i + 1 : Nat) : Int) ti' t1 t2 t3) :: rest) → Q (.ref b) { s with heap := h', toks := tk' }) :
    wpAny (model prog w) (ktrTop dp un gd cn cs L a ccd cl outer) (call (.ref 306) [.ref rd, v]) Q E s := by
  refine wpAny_call ?_
  k_dflt k_enter
  k_steps
  refine' ret _ _ _ _ _ _ ?c1 ?c2 ?c3
  (case c1 => k_asm)
  (case c2 => walk_at "d_news")
  (case c3 => k_asm)
end


def SepEx (ex : List (Addr × Obj)) (rdd : Addr) (rest : List (Addr × Obj)) : Prop := ∀ p ∈ ex, p.1 ≠ rdd ∧ p.1 ≠ 38 ∧ ∀ q ∈ rest, p.1 ≠ q.1
theorem SepEx.off {ex rest : List (Addr × Obj)} {rdd : Addr} (h : SepEx ex rdd rest) (o : ∀ p ∈ rest, p.1 ≠ rdd) : ∀ p ∈ ex ++ rest, p.1 ≠ rdd := fun p hp => (List.mem_append.mp hp).elim (fun q => (h p q).1) (o p)
theorem SepEx.offT {ex rest : List (Addr × Obj)} {rdd : Addr} (h : SepEx ex rdd rest) (o : ∀ p ∈ rest, p.1 ≠ 38) : ∀ p ∈ ex ++ rest, p.1 ≠ 38 := fun p hp => (List.mem_append.mp hp).elim (fun q => (h p q).2.1) (o p)
theorem SepEx.offL {ex rest : List (Addr × Obj)} {rdd l : Addr} {o : Obj} (h : SepEx ex rdd ((l, o) :: rest)) (o : ∀ p ∈ rest, p.1 ≠ l) : ∀ p ∈ ex ++ rest, p.1 ≠ l := fun p hp => (List.mem_append.mp hp).elim (fun q => (h p q).2.2 _ (.head _)) (o p)
theorem SepEx.less {ex rest : List (Addr × Obj)} {rdd : Addr} {q : Addr × Obj} (h : SepEx ex rdd (q :: rest)) : SepEx ex rdd rest := fun p hp => ⟨(h p hp).1, (h p hp).2.1, fun r hr => (h p hp).2.2 r (.tail _ hr)⟩
theorem SepEx.app {ex ex' rest : List (Addr × Obj)} {rdd : Addr} (h : SepEx ex rdd rest) (h' : SepEx ex' rdd (ex ++ rest)) : SepEx (ex' ++ ex) rdd rest := fun p hp => (List.mem_append.mp hp).elim
  (fun q => ⟨(h' p q).1, (h' p q).2.1, fun r hr => (h' p q).2.2 r (List.mem_append_right _ hr)⟩) (h p)
theorem sep1 {d a : Addr} {rest : List (Addr × Obj)} (h : AllLt d rest) (hd : @LE.le Nat _ d a) : ∀ q ∈ rest, a ≠ q.1 := by
  induction rest with
  | nil => exact fun q hq => nomatch hq
  | cons p r ih =>
    intro q hq
    rcases List.mem_cons.mp hq with rfl | hq
    · exact Nat.ne_of_gt (Nat.lt_of_lt_of_le h.1 hd)
    · exact ih h.2 q hq
theorem newsMid {h₀ h : Heap} {L : Addr} {a b c l : Addr × Obj} {ex rest : List (Addr × Obj)} (N : News h₀ L h (a :: b :: c :: (ex ++ l :: rest))) : News h₀ L h (l :: a :: b :: c :: (ex ++ rest)) := newsSub N (by intro p hp; simp only [List.mem_cons, List.mem_append] at hp ⊢; grind)
theorem subMid {l : Addr × Obj} {ex rest : List (Addr × Obj)} : ∀ p ∈ ex ++ l :: rest, p ∈ l :: (ex ++ rest) := by intro p hp; simp only [List.mem_cons, List.mem_append] at hp ⊢; grind
theorem TabOk.drop {ps : Array Value} {ex r : List (Addr × Obj)} {l : Addr} {vs : Array Value} {n : Nat} (h : TabOk ps (ex ++ (l, listOf vs n) :: r)) : TabOk ps (ex ++ r) := by
  rcases h with h | ⟨c', oc, vs', t, e, hm, hd, hv⟩
  · exact .inl h
  · refine .inr ⟨c', oc, vs', t, e, ?_, hd, hv⟩
    rcases List.mem_append.mp hm with q | q
    · exact List.mem_append_left _ q
    · rcases List.mem_cons.mp q with q | q
      · cases q; cases hd
      · exact List.mem_append_right _ q
local macro_rules | `(tactic| walk_at "d_sep") => `(tactic| first | exact List.forall_mem_nil _ | (refine' List.forall_mem_cons.mpr ⟨⟨?ka, ?kc, ?kd⟩, ?kb⟩; (case ka => k_ne); (case kc => k_ne); (case kd => exact sep1 (‹_ ∧ _ ∧ _ ∧ AllLt _ _›).2.2.2 (by (try dsimp only); omega)); (case kb => walk_at "d_sep")))
local macro_rules | `(tactic| walk_at "call ref") => `(tactic| (k_here; k_dflt (first
  | (refine' choose_if ?B ?F ?X ?T ?hk ?N ?hd ?hu ?_; (case B => k_asm); (case F => k_asm); (case X => k_asm); (case T => k_asm); (case hk => first | exact rfl | assumption); (case N => first | k_asm | walk_at "d_news"); (case hd => k_room); (case hu => k_units); k_whole; intro h' tk' F' N'; (try dsimp only))
  | (refine' choose_no ?B ?F ?X ?T ?hk ?N ?hd ?hu ?hx ?_; (case B => k_asm); (case F => k_asm); (case X => k_asm); (case T => k_asm); (case hk => first | exact rfl | assumption); (case N => first | k_asm | walk_at "d_news"); (case hd => k_room); (case hu => k_units); (case hx => first | assumption | simpa using (by assumption)); k_whole; intro h' tk' F' N'; (try dsimp only))
  | (refine' bare_c ?B ?F ?X ?T ?hk ?N ?hd ?hu ?hT ?hx ?hne ?hoff ?_; (case B => k_asm); (case F => k_asm); (case X => k_asm); (case T => k_asm); (case hk => first | exact rfl | assumption); (case N => first | k_asm | walk_at "d_news"); (case hd => k_room); (case hu => k_units); (case hT => first | assumption | (refine' Toks.mono ?kt ?ku; (case kt => assumption); (case ku => walk_at "d_sub"))); (case hx => first | assumption | simpa using (by assumption)); (case hne => first | assumption | omega); (case hoff => walk_at "d_off"); k_whole; intro b' n' t' h' tk' ti' F' N' l1; (try dsimp only); (try simp only [AllLt] at l1)))))
section
variable {prog p : Program} {w : World} {loose : List Str} {mean : ExcName → Option Value} {mg mb : Str → Option Value} {A₀ : Around} {base h₀ : Heap} {outer : List Env} {L : Addr} {m : Str → Option Value} {s : Shared}
  {dp un : Nat} {gd : Option (List Code)} {cn : Str} {cs : Scope} {a : Addr} {ccd : Value} {cl : List (Str × Addr)} {Q E : Value → Shared → Prop} {rest : List (Addr × Obj)}
  {rd rdd tl nd : Addr} {i n : Nat} {ti t1 t2 t3 tw : Tok} {vs : List Value} {ws : List Str} {x : Str} {ps : Array Value} {dep : Int} {td : Tok}
theorem stmt_noverb (B : Below A₀ base outer h₀) (F : Fr h₀ L s.heap m) (X : (hd.heap_1 w.params).In h₀) (T : Top p loose mean mg mb h₀) (hk : cs.kind = .function)
    (N : News h₀ L s.heap ((rd, instObj 283 rdd) :: (rdd, RD w tl nd i ti t1 t2 t3) :: rest)) (hd : dp + 130 < recursionLimit) (hu : un + 700 < cLine) (hT : Toks w rest tl ws) (h38 : (38, tabObj ps) ∈ rest) (hS : TabOk ps rest) (hx : ws[i]? = some x) (hvb : isVerb x = false)
    (err : Err w base h₀ (envX cn cs L a ccd cl) outer L m rest 2 ((i : Nat) + 5) E s) :
    wpAny (model prog w) (ktrTop dp un gd cn cs L a ccd cl outer) (call (.ref 43) [.ref rd, .int dep td, .ref 320]) Q E s := by
  refine wpAny_call ?_
  k_dflt k_enter
  k_steps
  walk_at "d_raise"
theorem stmt_deep (B : Below A₀ base outer h₀) (F : Fr h₀ L s.heap m) (X : (hd.heap_1 w.params).In h₀) (T : Top p loose mean mg mb h₀) (hk : cs.kind = .function)
    (N : News h₀ L s.heap ((rd, instObj 283 rdd) :: (rdd, RD w tl nd i ti t1 t2 t3) :: (38, tabObj ps) :: rest)) (hd : dp + 130 < recursionLimit) (hu : un + 700 < cLine) (hT : Toks w rest tl ws) (hC : CodeHd base 42 38)
    (hne : rd ≠ rdd) (hoff : ∀ p ∈ rest, p.1 ≠ rdd) (hofT : ∀ p ∈ rest, p.1 ≠ 38) (hrT : @LT.lt Nat _ 38 rd) (hdT : @LT.lt Nat _ 38 rdd) (hS : TabOk ps rest) (hx : ws[i]? = some x) (hv : isVerb x = true) (hdep : 12 < dep)
    (err : Err w base h₀ (envX cn cs L a ccd cl) outer L m rest 2 ((i : Nat) + 5) E s) :
    wpAny (model prog w) (ktrTop dp un gd cn cs L a ccd cl outer) (call (.ref 43) [.ref rd, .int dep td, .ref 320]) Q E s := by
  refine wpAny_call ?_
  k_dflt k_enter
  k_steps
  walk_at "d_raise"
theorem stmt_bare (B : Below A₀ base outer h₀) (F : Fr h₀ L s.heap m) (X : (hd.heap_1 w.params).In h₀) (T : Top p loose mean mg mb h₀) (hk : cs.kind = .function)
    (N : News h₀ L s.heap ((rd, instObj 283 rdd) :: (rdd, RD w tl nd i ti t1 t2 t3) :: (38, tabObj ps) :: rest)) (hd : dp + 130 < recursionLimit) (hu : un + 800 < cLine) (hT : Toks w rest tl ws) (hC : CodeHd base 42 38)
    (hne : rd ≠ rdd) (hoff : ∀ p ∈ rest, p.1 ≠ rdd) (hofT : ∀ p ∈ rest, p.1 ≠ 38) (hrT : @LT.lt Nat _ 38 rd) (hdT : @LT.lt Nat _ 38 rdd) (hS : TabOk ps rest) (hx : ws[i]? = some x) (hv : isVerb x = true) (hxi : (x == Str.ofString "IF") = false) (hdep : ¬ 12 < dep)
    (ret : ∀ v h' tk' ti' ps' ex, Fr h₀ L h' m → News h₀ L h' ((rd, instObj 283 rdd) :: (rdd, RD w tl nd ((i + 1 : Nat) : Int) ti' t1 t2 t3) :: (38, tabObj ps') :: (ex ++ rest)) → SepEx ex rdd rest → TabOk ps' (ex ++ rest) →
      DatIn ex v (.tuple [.str x]) → Q v { s with heap := h', toks := tk' }) :
    wpAny (model prog w) (ktrTop dp un gd cn cs L a ccd cl outer) (call (.ref 43) [.ref rd, .int dep td, .ref 320]) Q E s := by
  obtain ⟨vs, n, hl, hlen, hlt, hall⟩ := hT.all
  obtain ⟨v, hv, tk, d, ta, t1', t2', t3', t4', t5', t6', t7', t8', n', rfl, hm1, hm2, hm3⟩ := hall i x hx
  have hlen' : vs.length < 1000 := by omega
  rcases hS with rfl | ⟨c', oc', vs', tq, rfl, hc', hd', hv'⟩
  · refine wpAny_call ?_
    k_dflt k_enter
    k_steps
    refine' ret _ _ _ _ _ [_, _, _, _, _] ?c1 ?c2 ?c3 ?c4 ?c5
    (case c1 => k_asm)
    (case c2 => show News _ _ _ (_ :: _ :: _ :: _ :: _ :: _ :: _ :: _ :: rest); walk_at "d_news")
    (case c3 => walk_at "d_sep")
    (case c4 => exact .inr ⟨_, _, _, _, rfl, List.mem_append_left _ (by k_mem), by assumption, by assumption⟩)
    (case c5 => exact .tuple (by k_mem) (.cons (.str _ _) .nil))
  · refine wpAny_call ?_
    k_dflt k_enter
    k_steps
    refine' ret _ _ _ _ _ [_, _, _, _] ?c1 ?c2 ?c3 ?c4 ?c5
    (case c1 => k_asm)
    (case c2 => show News _ _ _ (_ :: _ :: _ :: _ :: _ :: _ :: _ :: rest); walk_at "d_news")
    (case c3 => walk_at "d_sep")
    (case c4 => exact .inr ⟨_, _, _, _, rfl, List.mem_append_right _ (by assumption), by assumption, by assumption⟩)
    (case c5 => exact .tuple (by k_mem) (.cons (.str _ _) .nil))
end


def Stop (P : Prop) : Prop := P
theorem stop_ {P : Prop} (h : Stop P) : P := h
theorem stop_to {P : Prop} (h : P) : Stop P := h
def ErrO (w : World) (base h₀ : Heap) (env : Env) (outer : List Env) (L : Addr) (m : Str → Option Value) (keep : List (Addr × Obj)) (o : Option Nat) (E : Value → Shared → Prop) (s : Shared) : Prop := ∀ j : Nat, o = some j → Err w base h₀ env outer L m keep 2 ((j : Int) + 5) E s
theorem ErrO.get {w : World} {base h₀ : Heap} {env : Env} {outer : List Env} {L : Addr} {m : Str → Option Value} {keep : List (Addr × Obj)} {o : Option Nat} {j : Nat} {E : Value → Shared → Prop} {s : Shared} (hj : o = some j) (h : ErrO w base h₀ env outer L m keep o E s) : Err w base h₀ env outer L m keep 2 ((j : Int) + 5) E s := h j hj
def flat : List (List Str) → List Str
  | [] => []
  | m :: ms => Str.ofString "IF" :: (m ++ (flat ms ++ [Str.ofString "END-IF"]))
def bodyDs : List Str → List (List Str) → List Dat
  | m, [] => m.map fun x => .tuple [.str x]
  | m, m' :: ms => (m.map fun x => .tuple [.str x]) ++ [.tuple [.str (Str.ofString "IF"), .tuple (bodyDs m' ms)]]
def lostBody (d : Int) (i : Nat) (m : List Str) : List (List Str) → Option Nat
  | [] => if m ≠ [] ∧ 12 < d then some i else none
  | m' :: ms => if m ≠ [] ∧ 12 < d then some i else if 12 < d then some (i + m.length) else lostBody (d + 1) (i + m.length + 1) m' ms
def lostAt (d : Int) (i : Nat) (m : List Str) (ms : List (List Str)) : Option Nat := if 12 < d then some i else lostBody (d + 1) (i + 1) m ms
def Sm (x : Str) : Prop := isVerb x = true ∧ (x == Str.ofString "IF") = false
theorem drop_cons {ws r : List Str} {x : Str} {i : Nat} (h : ws.drop i = x :: r) : ws[i]? = some x ∧ ws.drop (i + 1) = r := by
  refine ⟨?_, ?_⟩
  · have := congrArg (·[0]?) h
    simpa [List.getElem?_drop] using this
  · rw [← List.drop_drop, h]; rfl
theorem lostBody_cons {d : Int} {i : Nat} {x : Str} {m : List Str} {ms : List (List Str)} (hd : ¬ 12 < d) : lostBody d i (x :: m) ms = lostBody d (i + 1) m ms := by
  cases ms with
  | nil => simp [lostBody, hd]
  | cons m' ms => simp only [lostBody, hd, and_false, if_false, List.length_cons]; congr 1; omega
theorem lt_of_get {ws : List Str} {x : Str} {i : Nat} (h : ws[i]? = some x) : i < ws.length := by rcases Nat.lt_or_ge i ws.length with q | q; exact q; rw [List.getElem?_eq_none q] at h; cases h
theorem Toks.len {w : World} {rest : List (Addr × Obj)} {tl : Addr} {ws : List Str} (h : Toks w rest tl ws) : ws.length < 1000 := let ⟨_, _, _, _, b, _⟩ := h.all; b
/-- what statement_at answers for a nest: its outermost small statements and those of the ones within -/
def StmtC (w : World) (m₀ : List Str) (ms : List (List Str)) : Prop :=
  ∀ {prog p : Program} {loose : List Str} {mean : ExcName → Option Value} {mg mb : Str → Option Value} {A₀ : Around} {base h₀ : Heap} {outer : List Env} {L : Addr} {m : Str → Option Value} {s : Shared}
  {dp un : Nat} {gd : Option (List Code)} {cn : Str} {cs : Scope} {a : Addr} {ccd : Value} {cl : List (Str × Addr)} {Q E : Value → Shared → Prop} {rest : List (Addr × Obj)}
  {rd rdd tl nd : Addr} {i : Nat} {ti t1 t2 t3 : Tok} {ws : List Str} {ps : Array Value} {dep : Int} {td : Tok} {tail : List Str}
  (B : Below A₀ base outer h₀) (F : Fr h₀ L s.heap m) (X : (hd.heap_1 w.params).In h₀) (T : Top p loose mean mg mb h₀) (hk : cs.kind = .function) (N : News h₀ L s.heap ((rd, instObj 283 rdd) :: (rdd, RD w tl nd i ti t1 t2 t3) :: (38, tabObj ps) :: rest)) (hd : dp + 150 + 12 * ms.length < recursionLimit) (hu : un + 950 + 100 * ms.length < cLine) (hT : Toks w rest tl ws) (hC : CodeHd base 42 38) (hne : rd ≠ rdd) (hoff : ∀ p ∈ rest, p.1 ≠ rdd) (hofT : ∀ p ∈ rest, p.1 ≠ 38) (hrT : @LT.lt Nat _ 38 rd) (hdT : @LT.lt Nat _ 38 rdd) (hS : TabOk ps rest) (hw : ws.drop i = flat (m₀ :: ms) ++ tail)
  (ret : lostAt dep i m₀ ms = none → ∀ v h' tk' ti' ps' ex, Fr h₀ L h' m → News h₀ L h' ((rd, instObj 283 rdd) :: (rdd, RD w tl nd ((i + (flat (m₀ :: ms)).length : Nat) : Int) ti' t1 t2 t3) :: (38, tabObj ps') :: (ex ++ rest)) → SepEx ex rdd rest → TabOk ps' (ex ++ rest) →
      DatIn ex v (.tuple [.str (Str.ofString "IF"), .tuple (bodyDs m₀ ms)]) → Q v { s with heap := h', toks := tk' })
  (err : ∀ j : Nat, lostAt dep i m₀ ms = some j → Err w base h₀ (envX cn cs L a ccd cl) outer L m rest 2 ((j : Int) + 5) E s),
  wpAny (model prog w) (ktrTop dp un gd cn cs L a ccd cl outer) (call (.ref 43) [.ref rd, .int dep td, .ref 320]) Q E s
def BodyC (w : World) (m₀ : List Str) (ms : List (List Str)) : Prop :=
  ∀ {prog p : Program} {loose : List Str} {mean : ExcName → Option Value} {mg mb : Str → Option Value} {A₀ : Around} {base h₀ : Heap} {outer : List Env} {L : Addr} {m : Str → Option Value} {s : Shared}
  {dp un : Nat} {gd : Option (List Code)} {cn : Str} {cs : Scope} {a : Addr} {ccd : Value} {cl : List (Str × Addr)} {Q E : Value → Shared → Prop} {rest : List (Addr × Obj)}
  {rd rdd tl nd : Addr} {i : Nat} {ti t1 t2 t3 : Tok} {ws : List Str} {ps : Array Value} {dep : Int} {td : Tok} {y : Str} {tail : List Str}
  (B : Below A₀ base outer h₀) (F : Fr h₀ L s.heap m) (X : (hd.heap_1 w.params).In h₀) (T : Top p loose mean mg mb h₀) (hk : cs.kind = .function) (N : News h₀ L s.heap ((rd, instObj 283 rdd) :: (rdd, RD w tl nd i ti t1 t2 t3) :: (38, tabObj ps) :: rest)) (hd : dp + 140 + 12 * ms.length < recursionLimit) (hu : un + 900 + 100 * ms.length < cLine) (hT : Toks w rest tl ws) (hC : CodeHd base 42 38) (hne : rd ≠ rdd) (hoff : ∀ p ∈ rest, p.1 ≠ rdd) (hofT : ∀ p ∈ rest, p.1 ≠ 38) (hrT : @LT.lt Nat _ 38 rd) (hdT : @LT.lt Nat _ 38 rdd) (hS : TabOk ps rest) (hw : ws.drop i = m₀ ++ (flat ms ++ y :: tail)) (hy : isVerb y = false)
  (ret : lostBody dep i m₀ ms = none → ∀ v h' tk' ti' ps' ex, Fr h₀ L h' m → News h₀ L h' ((rd, instObj 283 rdd) :: (rdd, RD w tl nd ((i + m₀.length + (flat ms).length : Nat) : Int) ti' t1 t2 t3) :: (38, tabObj ps') :: (ex ++ rest)) → SepEx ex rdd rest → TabOk ps' (ex ++ rest) →
      DatIn ex v (.tuple (bodyDs m₀ ms)) → Q v { s with heap := h', toks := tk' })
  (err : ∀ j : Nat, lostBody dep i m₀ ms = some j → Err w base h₀ (envX cn cs L a ccd cl) outer L m rest 2 ((j : Int) + 5) E s),
  wpAny (model prog w) (ktrTop dp un gd cn cs L a ccd cl outer) (call (.ref 36) [.ref rd, .int dep td, .ref 320]) Q E s
section
variable {prog : Program} {w : World} {A : Around} {E : Value → Shared → Prop} {s : Shared} {h₀ : Heap} {L l : Addr} {m : Str → Option Value} {news : List (Addr × Obj)} {vs : List Value} {n : Nat} {x : Value} {Q : Value → Shared → Prop}
theorem appendN (F : Fr h₀ L s.heap m) (N : News h₀ L s.heap ((l, listOf vs.toArray n) :: news)) (hoff : ∀ p ∈ news, p.1 ≠ l) (hz : vs.length ≤ 10000)
    (h : ∀ h', Fr h₀ L h' m → News h₀ L h' ((l, listOf (vs ++ [x]).toArray (n + 1)) :: news) → Q .none { s with heap := h' }) : wpAny (model prog w) A (call (.builtin "list.append") [.ref l, x]) Q E s :=
  append_K F N (Upd.head hoff) (fun h' F' N' => h h' F' (by simpa using N')) (by rw [sizeLine_eq, List.size_toArray]; omega)
theorem tupN (F : Fr h₀ L s.heap m) (N : News h₀ L s.heap news) (hm : (l, listOf vs.toArray n) ∈ news) (hz : vs.length ≤ 10000)
    (h : ∀ D h', Fr h₀ L h' m → News h₀ L h' ((D, tupOf vs 0) :: news) → AllLt D news → Q (.ref D) { s with heap := h' }) : wpAny (model prog w) A (call (.type "tuple") [.ref l]) Q E s :=
  kde_tupleOf F N (News.isList N hm) (by rw [List.size_toArray]; omega) rfl fun D h' F' N' lt => h D h' F' N' (allLt_of lt)
end
local macro_rules | `(tactic| walk_at "call builtin:list.append") => `(tactic| (k_here; k_dflt (refine' appendN ?k1 ?k2 ?k3 ?k4 ?_; (case k1 => k_asm); (case k2 => k_asm); (case k3 => walk_at "d_off"); (case k4 => omega); k_whole); intro h' F' N'; (try dsimp only)))
local macro_rules | `(tactic| walk_at "call type:tuple") => `(tactic| (k_here; k_dflt (refine' tupN ?k1 ?k2 ?k3 ?k4 ?_; (case k1 => k_asm); (case k2 => k_asm); (case k3 => k_mem); (case k4 => omega); k_whole); intro D' h' F' N' l1; (try simp only [AllLt] at l1); (try dsimp only)))
local macro_rules | `(tactic| walk_at "d_sub") => `(tactic| first | (refine' List.forall_mem_cons.mpr ⟨?ka, ?kb⟩; (case ka => k_mem); (case kb => walk_at "d_sub")) | (intro p hp; repeat (first | exact hp | exact List.mem_append_right _ hp | exact List.mem_append_right _ (List.mem_append_right _ hp) | refine List.Mem.tail _ ?_)))
local macro_rules | `(tactic| walk_at "d_err0") => `(tactic| first | assumption | exact ErrO.get (by assumption) (by assumption))
local macro_rules | `(tactic| walk_at "d_err1") => `(tactic| first | assumption | exact ErrO.get (by assumption) (by assumption) | (refine' Err.pass ?k1 ?k2 ?k3 ?k4 ?k5 ?k6; (case k2 => assumption); (case k3 => assumption); (case k1 => walk_at "d_err0"); (case k4 => walk_at "d_sub"); (case k5 => exact rfl); (case k6 => exact fun _ _ => ⟨_, rfl⟩)))
local macro_rules | `(tactic| walk_at "d_err2") => `(tactic| first | assumption | exact ErrO.get (by assumption) (by assumption) | (refine' Err.pass ?k1 ?k2 ?k3 ?k4 ?k5 ?k6; (case k2 => assumption); (case k3 => assumption); (case k1 => walk_at "d_err1"); (case k4 => walk_at "d_sub"); (case k5 => exact rfl); (case k6 => exact fun _ _ => ⟨_, rfl⟩)))
local macro_rules | `(tactic| walk_at "d_err3") => `(tactic| first | assumption | exact ErrO.get (by assumption) (by assumption) | (refine' Err.pass ?k1 ?k2 ?k3 ?k4 ?k5 ?k6; (case k2 => assumption); (case k3 => assumption); (case k1 => walk_at "d_err2"); (case k4 => walk_at "d_sub"); (case k5 => exact rfl); (case k6 => exact fun _ _ => ⟨_, rfl⟩)))
local macro_rules | `(tactic| walk_at "d_err") => `(tactic| first | (refine' Err.pass ?k1 ?k2 ?k3 ?k4 ?k5 ?k6; (case k2 => assumption); (case k3 => assumption); (case k1 => walk_at "d_err3"); (case k4 => walk_at "d_sub"); (case k5 => exact rfl); (case k6 => exact fun _ _ => ⟨_, rfl⟩)))
local macro_rules | `(tactic| walk_at "exec While") => `(tactic| (k_here; refine whl_start 0 (stop_ ?_)))
local macro_rules | `(tactic| walk_at "WhlRest") => `(tactic| (refine stop_ ?_))
local macro_rules | `(tactic| walk_at "call ref") => `(tactic| (k_here; k_dflt (first
  | (refine' stmt_deep ?B ?F ?X ?T ?hk ?N ?hd ?hu ?hT ?hC ?hne ?hoff ?hofT ?hrT ?hdT ?hS ?hx ?hv ?hdep ?err; (case B => k_asm); (case F => k_asm); (case X => k_asm); (case T => k_asm); (case hk => first | exact rfl | assumption); (case N => first | k_asm | walk_at "d_news"); (case hd => k_room); (case hu => k_units); (case hT => first | assumption | (refine' Toks.mono ?kt ?ku; (case kt => assumption); (case ku => walk_at "d_sub"))); (case hC => assumption); (case hne => first | assumption | omega); (case hoff => walk_at "d_off"); (case hofT => walk_at "d_off"); (case hrT => first | assumption | omega); (case hdT => first | assumption | omega); (case hS => first | assumption | exact .inr ⟨_, _, _, _, rfl, by k_mem, by assumption, by assumption⟩ | (refine' TabOk.mono ?kt ?ku; (case kt => assumption); (case ku => walk_at "d_sub"))); (case hx => first | assumption | simpa using (by assumption)); (case hv => assumption); (case hdep => assumption); (case err => walk_at "d_err"); skip)
  | (refine' stmt_bare ?B ?F ?X ?T ?hk ?N ?hd ?hu ?hT ?hC ?hne ?hoff ?hofT ?hrT ?hdT ?hS ?hx ?hv ?hxi ?hdep ?_; (case B => k_asm); (case F => k_asm); (case X => k_asm); (case T => k_asm); (case hk => first | exact rfl | assumption); (case N => first | k_asm | walk_at "d_news"); (case hd => k_room); (case hu => k_units); (case hT => first | assumption | (refine' Toks.mono ?kt ?ku; (case kt => assumption); (case ku => walk_at "d_sub"))); (case hC => assumption); (case hne => first | assumption | omega); (case hoff => walk_at "d_off"); (case hofT => walk_at "d_off"); (case hrT => first | assumption | omega); (case hdT => first | assumption | omega); (case hS => first | assumption | exact .inr ⟨_, _, _, _, rfl, by k_mem, by assumption, by assumption⟩ | (refine' TabOk.mono ?kt ?ku; (case kt => assumption); (case ku => walk_at "d_sub"))); (case hx => first | assumption | simpa using (by assumption)); (case hv => assumption); (case hxi => assumption); (case hdep => assumption); k_whole; intro v' h' tk' ti' ps' ex' F' N' sep' S' D'; (try dsimp only); (have oL' := SepEx.offL sep' (by assumption)); (replace N' := newsMid N'))
  | (refine' (‹StmtC _ _ _›) ?B ?F ?X ?T ?hk ?N ?hd ?hu ?hT ?hC ?hne ?hoff ?hofT ?hrT ?hdT ?hS ?hw ?_ ?err; (case B => k_asm); (case F => k_asm); (case X => k_asm); (case T => k_asm); (case hk => first | exact rfl | assumption); (case N => first | k_asm | walk_at "d_news"); (case hd => k_room); (case hu => k_units); (case hT => first | assumption | (refine' Toks.mono ?kt ?ku; (case kt => assumption); (case ku => walk_at "d_sub"))); (case hC => assumption); (case hne => first | assumption | omega); (case hoff => walk_at "d_off"); (case hofT => walk_at "d_off"); (case hrT => first | assumption | omega); (case hdT => first | assumption | omega); (case hS => first | assumption | exact .inr ⟨_, _, _, _, rfl, by k_mem, by assumption, by assumption⟩ | (refine' TabOk.mono ?kt ?ku; (case kt => assumption); (case ku => walk_at "d_sub"))); (case hw => first | assumption | simpa using (by assumption)); (case err => intro j' hj'; walk_at "d_err"); intro hl0'; k_whole; intro v' h' tk' ti' ps' ex' F' N' sep' S' D'; (try dsimp only); (have oL' := SepEx.offL sep' (by assumption)); (replace N' := newsMid N')))))
theorem body_c {w : World} {m₀ : List Str} {ms : List (List Str)} (hm : ∀ x ∈ m₀, Sm x) (hP : ∀ m' ms', ms = m' :: ms' → StmtC w m' ms') : BodyC w m₀ ms := by
  intro prog p loose mean mg mb A₀ base h₀ outer L m s dp un gd cn cs a ccd cl Q E rest rd rdd tl nd i ti t1 t2 t3 ws ps dep td y tail B F X T hk N hd hu hT hC hne hoff hofT hrT hdT hS hw hy ret err
  refine wpAny_call ?_
  k_dflt k_enter
  k_steps
  refine stop_to ?_
  rename Fr _ _ _ _ => Fl
  rename News _ _ _ _ => Nl
  refine' (?H : ∀ (k : Nat) (mm : List Str) (nst : List (List Str)) (i' : Nat) (ti' : Tok) (h' : Heap) (tk' : Nat) (vs : List Value) (n : Nat) (ds : List Dat) (ps' : Array Value) (ex : List (Addr × Obj)),
    Fr ?g ?L' h' ?mp → News ?g ?L' h' ((?l, listOf vs.toArray n) :: (rd, instObj 283 rdd) :: (rdd, RD w tl nd (i' : Int) ti' t1 t2 t3) :: (38, tabObj ps') :: (ex ++ rest)) → SepEx ex rdd rest → TabOk ps' (ex ++ rest) →
    (∀ p ∈ ex ++ rest, p.1 ≠ ?l) → vs.length ≤ i' → mm.length + nst.length < k → (nst = [] ∨ nst = ms) → ws.drop i' = mm ++ (flat nst ++ y :: tail) → i' + mm.length + (flat nst).length = i + m₀.length + (flat ms).length → ds ++ bodyDs mm nst = bodyDs m₀ ms → lostBody dep i' mm nst = lostBody dep i m₀ ms →
    DatAll ex vs ds → (∀ x ∈ mm, Sm x) →
    WhlRest ?a1 ?a2 ?a3 ?a4 ?a5 ?a6 ?a7 ?a8 ?a9 0 { s with heap := h', toks := tk' }) (m₀.length + ms.length + 1) m₀ ms i ti _ _ [] 0 [] ps [] Fl Nl (fun _ h => nomatch h) hS ?c1 (Nat.zero_le _) (Nat.lt_succ_self _) (.inr rfl) hw rfl rfl rfl .nil hm
  (case c1 => k_all)
  case H =>
  intro k
  induction k with
  | zero => intro mm nst i' ti' h' tk' vs n ds ps' ex Fl' Nl' sep S' o3 hvl hk1; exact absurd hk1 (Nat.not_lt_zero _)
  | succ k ih =>
  intro mm nst
  rcases mm with _ | ⟨x, mm⟩
  · intro i' ti' h' tk' vs n ds ps' ex Fl' Nl' sep S' o3 hvl hk1 hn hw' hi hds hlo D hsm
    have hT' := hT.mono (fun p hp => List.mem_append_right ex hp)
    have o1 := sep.off hoff
    have o2 := sep.offT hofT
    have hlen := hT.len
    rcases nst with _ | ⟨m1, ms1⟩
    · obtain ⟨hx, _⟩ := drop_cons (show ws.drop i' = y :: tail from hw')
      have hlt := lt_of_get hx
      refine' whl_turn (k := 0) ?hE ?_
      (case hE => first | passes_own | with_unfolding_all passes_own)
      k_steps
      refine WhlIf.no hy ?_
      k_steps
      have ei : i' = i + m₀.length + (flat ms).length := by simp only [flat, List.length_nil] at hi ⊢; omega
      subst ei
      have hds' : ds = bodyDs m₀ ms := by rw [← hds]; simp [bodyDs]
      subst hds'
      refine' ret (by rw [← hlo]; simp [lostBody]) _ _ _ _ _ ([_, _] ++ ex) ?c1 ?c2 ?c3 ?c4 ?c5
      (case c1 => k_asm)
      (case c2 => show News _ _ _ (_ :: _ :: _ :: _ :: _ :: (ex ++ rest)); walk_at "d_news")
      (case c3 =>
        refine List.forall_mem_append.mpr ⟨?_, sep⟩
        walk_at "d_sep")
      (case c4 => exact TabOk.mono S' (fun p hp => .tail _ (.tail _ hp)))
      (case c5 => exact .tuple (by k_mem) (D.mono (fun p hp => .tail _ (.tail _ hp))))
    · have hms : ms = m1 :: ms1 := by rcases hn with hn | hn; exact absurd hn (by simp); exact hn.symm
      have hx := (drop_cons (show ws.drop i' = Str.ofString "IF" :: (_ ++ y :: tail) from hw')).1
      have hlt := lt_of_get hx
      have hv : isVerb (Str.ofString "IF") = true := by decide +kernel
      have hP' : StmtC w m1 ms1 := hP _ _ hms
      have hwS : ws.drop i' = flat (m1 :: ms1) ++ (y :: tail) := hw'
      have hE1 : ErrO w base h₀ (envX cn cs L a ccd cl) outer L m rest (lostAt dep i' m1 ms1) E s := fun j hj => err j (by rw [← hlo]; simpa [lostBody, lostAt] using hj)
      have hl1 : ms.length = ms1.length + 1 := by rw [hms]; rfl
      refine' whl_turn (k := 0) ?hE ?_
      (case hE => first | passes_own | with_unfolding_all passes_own)
      k_steps
      refine stop_to ?_
      rename lostAt _ _ _ _ = none => hl0
      rename News _ _ _ _ => Nq
      rename DatIn _ _ _ => Dq
      rename SepEx _ _ _ => Sq
      rename TabOk _ _ => Tq
      have Sq' := SepEx.less Sq
      refine' ih [] [] (i' + (flat (m1 :: ms1)).length) _ _ _ (_ ++ [_]) _ (ds ++ [.tuple [.str (Str.ofString "IF"), .tuple (bodyDs m1 ms1)]]) _ (_ ++ ex) ?c1 (List.append_assoc _ _ _ ▸ Nq) (SepEx.app sep Sq') ?c2 ?c3 ?c8 ?c9 (.inl rfl) ?cA ?c4 ?c5 ?c6 ?c7 hsm
      (case c1 => k_asm)
      (case c2 => exact List.append_assoc _ _ _ ▸ TabOk.drop Tq)
      (case c3 => exact List.append_assoc _ _ _ ▸ (by assumption))
      (case c4 => simp only [flat, List.length_cons, List.length_nil] at hi ⊢; omega)
      (case c5 => rw [← hds]; simp [bodyDs])
      (case c6 => rw [← hlo]; simpa [lostBody, lostAt] using hl0.symm)
      (case c7 => exact DatAll.append (D.mono fun p hp => List.mem_append_right _ hp) (.one (Dq.mono fun p hp => List.mem_append_left _ hp)))
      (case c8 => simp [flat]; omega)
      (case c9 => simp at hk1 ⊢; omega)
      (case cA => rw [← List.drop_drop, hwS, List.drop_left]; rfl)
  · intro i' ti' h' tk' vs n ds ps' ex Fl' Nl' sep S' o3 hvl hk1 hn hw' hi hds hlo D hsm
    have hT' := hT.mono (fun p hp => List.mem_append_right ex hp)
    have o1 := sep.off hoff
    have o2 := sep.offT hofT
    have hlen := hT.len
    obtain ⟨hx, hw''⟩ := drop_cons hw'
    have hlt := lt_of_get hx
    obtain ⟨hv, hxi⟩ := hsm x (.head _)
    by_cases hdep : 12 < dep
    · have hE1 := err i' (by rw [← hlo]; cases nst <;> simp [lostBody, hdep])
      refine' whl_turn (k := 0) ?hE ?_
      (case hE => first | passes_own | with_unfolding_all passes_own)
      k_steps
      refine WhlIf.yes hv ?_
      k_steps
    · refine' whl_turn (k := 0) ?hE ?_
      (case hE => first | passes_own | with_unfolding_all passes_own)
      k_steps
      refine WhlIf.yes hv ?_
      k_steps
      refine stop_to ?_
      rename News _ _ _ _ => Nq
      rename DatIn _ _ _ => Dq
      rename SepEx _ _ _ => Sq
      rename TabOk _ _ => Tq
      have Sq' := SepEx.less Sq
      refine' ih mm nst (i' + 1) _ _ _ (_ ++ [_]) _ (ds ++ [.tuple [.str x]]) _ (_ ++ ex) ?c1 (List.append_assoc _ _ _ ▸ Nq) (SepEx.app sep Sq') ?c2 ?c3 (by simp; omega) ?c9 hn hw'' ?c4 ?c5 ?c6 ?c7 (fun z hz => hsm z (.tail _ hz))
      (case c1 => k_asm)
      (case c2 => exact List.append_assoc _ _ _ ▸ TabOk.drop Tq)
      (case c3 => exact List.append_assoc _ _ _ ▸ (by assumption))
      (case c4 => simp only [List.length_cons] at hi; omega)
      (case c5 =>
        rw [← hds]
        cases nst <;> simp [bodyDs])
      (case c6 => rw [← hlo, lostBody_cons hdep])
      (case c7 => exact DatAll.append (D.mono fun p hp => List.mem_append_right _ hp) (.one (Dq.mono fun p hp => List.mem_append_left _ hp)))
      (case c9 => simp only [List.length_cons] at hk1; omega)



local macro_rules | `(tactic| walk_at "d_off") => `(tactic| first | assumption | (refine' SepEx.off ?ks ?ko; (case ks => assumption); (case ko => walk_at "d_off")) | (refine' SepEx.offT ?ks ?ko; (case ks => assumption); (case ko => walk_at "d_off")) | (refine' List.forall_mem_cons.mpr ⟨?ka, ?kb⟩; (case ka => k_ne); (case kb => walk_at "d_off")))
local macro_rules | `(tactic| walk_at "d_sub") => `(tactic| first | (refine' List.forall_mem_cons.mpr ⟨?ka, ?kb⟩; (case ka => k_mem); (case kb => walk_at "d_sub")) | (intro p hp; repeat (first | exact hp | exact List.mem_append_right _ hp | refine List.Mem.tail _ ?_ | refine List.mem_append_right _ ?_)))
local macro_rules | `(tactic| walk_at "call ref") => `(tactic| (k_here; k_dflt (first
  | (refine' choose_if ?B ?F ?X ?T ?hk ?N ?hd ?hu ?_; (case B => k_asm); (case F => k_asm); (case X => k_asm); (case T => k_asm); (case hk => first | exact rfl | assumption); (case N => first | k_asm | walk_at "d_news"); (case hd => k_room); (case hu => k_units); k_whole; intro h' tk' F' N'; (try dsimp only))
  | (refine' need_if ?B ?F ?X ?T ?hk ?N ?hd ?hu ?hT ?hx ?hne ?hoff ?_; (case B => k_asm); (case F => k_asm); (case X => k_asm); (case T => k_asm); (case hk => first | exact rfl | assumption); (case N => first | k_asm | walk_at "d_news"); (case hd => k_room); (case hu => k_units); (case hT => first | assumption | (refine' Toks.mono ?kt ?ku; (case kt => assumption); (case ku => walk_at "d_sub"))); (case hx => first | assumption | simpa using (by assumption)); (case hne => first | assumption | omega); (case hoff => walk_at "d_off"); k_whole; intro h' tk' ti' F' N'; (try dsimp only))
  | (refine' need_end ?B ?F ?X ?T ?hk ?N ?hd ?hu ?hT ?hx ?hne ?hoff ?_; (case B => k_asm); (case F => k_asm); (case X => k_asm); (case T => k_asm); (case hk => first | exact rfl | assumption); (case N => first | k_asm | walk_at "d_news"); (case hd => k_room); (case hu => k_units); (case hT => first | assumption | (refine' Toks.mono ?kt ?ku; (case kt => assumption); (case ku => walk_at "d_sub"))); (case hx => first | assumption | simpa using (by assumption)); (case hne => first | assumption | omega); (case hoff => walk_at "d_off"); k_whole; intro h' tk' ti' F' N'; (try dsimp only))
  | (refine' (‹BodyC _ _ _›) ?B ?F ?X ?T ?hk ?N ?hd ?hu ?hT ?hC ?hne ?hoff ?hofT ?hrT ?hdT ?hS ?hw ?hy ?_ ?err; (case B => k_asm); (case F => k_asm); (case X => k_asm); (case T => k_asm); (case hk => first | exact rfl | assumption); (case N => first | k_asm | walk_at "d_news"); (case hd => k_room); (case hu => k_units); (case hT => first | assumption | (refine' Toks.mono ?kt ?ku; (case kt => assumption); (case ku => walk_at "d_sub"))); (case hC => assumption); (case hne => first | assumption | omega); (case hoff => walk_at "d_off"); (case hofT => walk_at "d_off"); (case hrT => first | assumption | omega); (case hdT => first | assumption | omega); (case hS => first | assumption | exact .inr ⟨_, _, _, _, rfl, by k_mem, by assumption, by assumption⟩ | (refine' TabOk.mono ?kt ?ku; (case kt => assumption); (case ku => walk_at "d_sub"))); (case hw => first | assumption | simpa using (by assumption)); (case hy => assumption); (case err => intro j' hj'; walk_at "d_err"); intro hl0'; k_whole; intro v' h' tk' ti' ps' ex' F' N' sep' S' D'; (try dsimp only)))))
theorem stmt_c {w : World} {m₀ : List Str} {ms : List (List Str)} (hB : BodyC w m₀ ms) : StmtC w m₀ ms := by
  intro prog p loose mean mg mb A₀ base h₀ outer L m s dp un gd cn cs a ccd cl Q E rest rd rdd tl nd i ti t1 t2 t3 ws ps dep td tail B F X T hk N hd hu hT hC hne hoff hofT hrT hdT hS hw ret err
  obtain ⟨hx, hw'⟩ := drop_cons (show ws.drop i = Str.ofString "IF" :: (_ ++ tail) from hw)
  have hv : isVerb (Str.ofString "IF") = true := by decide +kernel
  by_cases hdep : 12 < dep
  · exact stmt_deep B F X T hk N (by omega) (by omega) hT hC hne hoff hofT hrT hdT hS hx hv hdep (err i (by simp [lostAt, hdep]))
  have hy : isVerb (Str.ofString "END-IF") = false := by decide +kernel
  have hwB : ws.drop (i + 1) = m₀ ++ (flat ms ++ Str.ofString "END-IF" :: tail) := by rw [hw']; simp
  have hxE : ws[i + 1 + m₀.length + (flat ms).length]? = some (Str.ofString "END-IF") := (drop_cons (r := tail) (by rw [← List.drop_drop, ← List.drop_drop, hwB, List.drop_left, List.drop_left])).1
  have hE1 : ErrO w base h₀ (envX cn cs L a ccd cl) outer L m rest (lostBody (dep + 1) (i + 1) m₀ ms) E s := fun j hj => err j (by simpa [lostAt, hdep] using hj)
  rw [show i + (flat (m₀ :: ms)).length = i + 1 + m₀.length + (flat ms).length + 1 by simp [flat]; omega] at ret
  obtain ⟨vs, n, hl, hlen, hlt, hall⟩ := hT.all
  obtain ⟨v, hv', tk, d, ta, t1', t2', t3', t4', t5', t6', t7', t8', n', rfl, hm1, hm2, hm3⟩ := hall i _ hx
  have hlen' : vs.length < 1000 := by omega
  rcases hS with rfl | ⟨c', oc', vs', tq, rfl, hc', hd', hv''⟩
  · refine wpAny_call ?_
    k_dflt k_enter
    k_steps
    rename SepEx _ _ _ => Sq
    rename TabOk _ _ => Tq
    rename DatIn _ _ _ => Dq
    refine' ret (by simpa [lostAt, hdep] using ‹lostBody _ _ _ _ = none›) _ _ _ _ _ (_ :: (_ ++ [_, _, _, _])) ?c1 ?c2 ?c3 ?c4 ?c5
    (case c1 => k_asm)
    (case c2 => rw [List.cons_append, List.append_assoc]; show News _ _ _ (_ :: _ :: _ :: _ :: (_ ++ _ :: _ :: _ :: _ :: rest)); walk_at "d_news")
    (case c3 =>
      refine List.forall_mem_cons.mpr ⟨⟨?_, ?_, fun q hq => Ne.symm (allLt_ne (‹_ ∧ _ ∧ _ ∧ AllLt _ (_ ++ _)›).2.2.2 q (List.mem_append_right _ (.tail _ (.tail _ (.tail _ (.tail _ (hq)))))))⟩, List.forall_mem_append.mpr ⟨Sq.less.less.less.less, ?_⟩⟩
      · k_ne
      · k_ne
      · walk_at "d_sep")
    (case c4 => rw [List.cons_append, List.append_assoc]; exact Tq.mono (fun p hp => .tail _ hp))
    (case c5 => exact .tuple (.head _) (.cons (.str _ _) (.cons (Dq.mono (fun p hp => .tail _ (List.mem_append_left _ hp))) .nil)))
  · refine wpAny_call ?_
    k_dflt k_enter
    k_steps
    rename SepEx _ _ _ => Sq
    rename TabOk _ _ => Tq
    rename DatIn _ _ _ => Dq
    refine' ret (by simpa [lostAt, hdep] using ‹lostBody _ _ _ _ = none›) _ _ _ _ _ (_ :: (_ ++ [_, _, _])) ?c1 ?c2 ?c3 ?c4 ?c5
    (case c1 => k_asm)
    (case c2 => rw [List.cons_append, List.append_assoc]; show News _ _ _ (_ :: _ :: _ :: _ :: (_ ++ _ :: _ :: _ :: rest)); walk_at "d_news")
    (case c3 =>
      refine List.forall_mem_cons.mpr ⟨⟨?_, ?_, fun q hq => Ne.symm (allLt_ne (‹_ ∧ _ ∧ _ ∧ AllLt _ (_ ++ _)›).2.2.2 q (List.mem_append_right _ (.tail _ (.tail _ (.tail _ (hq))))))⟩, List.forall_mem_append.mpr ⟨Sq.less.less.less, ?_⟩⟩
      · k_ne
      · k_ne
      · walk_at "d_sep")
    (case c4 => rw [List.cons_append, List.append_assoc]; exact Tq.mono (fun p hp => .tail _ hp))
    (case c5 => exact .tuple (.head _) (.cons (.str _ _) (.cons (Dq.mono (fun p hp => .tail _ (List.mem_append_left _ hp))) .nil)))

/-- statement_at for every nest of small statements -/
theorem stmt_all {w : World} : ∀ (ms : List (List Str)) (m₀ : List Str), (∀ x ∈ m₀, Sm x) → (∀ m ∈ ms, ∀ x ∈ m, Sm x) → StmtC w m₀ ms
  | [], m₀, h, _ => stmt_c (body_c h fun _ _ e => by cases e)
  | m1 :: ms, m₀, h, hs => stmt_c (body_c h fun m' ms' e => by cases e; exact stmt_all ms m1 (hs m1 (.head _)) fun m hm => hs m (.tail _ hm))


inductive StrsOf : List Value → List Str → Prop
  | nil : StrsOf [] []
  | cons {vs : List Value} {ws : List Str} (x : Str) (t : Tok) : StrsOf vs ws → StrsOf (Value.str x t :: vs) (x :: ws)
theorem StrsOf.get {vs : List Value} {ws : List Str} (h : StrsOf vs ws) : ∀ {q : Nat} {x : Str}, ws[q]? = some x → ∃ t, vs[q]? = some (.str x t) := by
  induction h with
  | nil => intro q x hq; cases q <;> cases hq
  | cons y t _ ih =>
    intro q x hq
    cases q with
    | zero => cases hq; exact ⟨t, rfl⟩
    | succ q => exact ih hq
/-- a def is left the usual way, or (after it caught something) by showing the outcome at once -/
def LeaveE (h₀ : Heap) (L : Addr) (m : Str → Option Value) (g : Heap) (R : Result → Shared → Prop) (v : Value) (s' : Shared) : Prop := LeaveK h₀ L m g R v s' ∨ R (.ok (.ret v)) s'
theorem code_defE {prog : Program} {w : World} {A₀ A : Around} {s : Shared} {base h₀ : Heap} {outer : List Env} {L : Addr} {m : Str → Option Value} {news : List (Addr × Obj)} {K : Frag} {p : Program} {loose : List Str} {mean : ExcName → Option Value} {mg mb : Str → Option Value}
    {env : Env} {R : Result → Shared → Prop} {name qual : Str} {params : Arguments} {body : List Stmt} {scope : Scope} {dV kV doc pm cdv ct oc : Value} {an od : Option Addr} {osl : Array (Option Value)} {f : Addr} {args : Args} {binds : List (Str × Value)}
    (B : Below A₀ base outer h₀) (F : Fr h₀ L s.heap m) (X₀ : K.In h₀) (N : News h₀ L s.heap news) (T : Top p loose mean mg mb h₀) (hA : A.frames = some (env :: outer)) (hf : env.frame = some L) (hke : env.scope.kind = .function)
    (ho : K.lookup f = some ⟨oc, od, .func (fnOf name qual params body scope dV kV doc pm an cdv ct), osl⟩) (hcd : codeIn K cdv qual = true) (hroom : A.depth < recursionLimit)
    (hbind : BindsTo s (fnOf name qual params body scope dV kV doc pm an cdv ct) args binds) (hkind : (binds.all fun y => scope.names.lookup y.1 == some .local || scope.names.lookup y.1 == some .cell) = true)
    (hnd : ((cellsFrom 0 scope.names []).map (·.1)).Nodup)
    (h : ∀ g L' h₁ tk cells, Fr h₀ L g m → Fr g L' h₁ (bindL (envOfC qual scope L' f cdv).kindOf binds fun _ => none) → News g L' h₁ (cells ++ news) →
      CellsAre (bindC (envOfC qual scope L' f cdv).kindOf binds fun _ => none) (cellsFrom (L' + 1) scope.names []) cells → Below A base (env :: outer) g → K.In g → Top p loose mean mg mb g → (∀ p ∈ news, p.1 < L') →
      wpAny (model prog w) (A.deeper (envOfC qual scope L' f cdv)) (execs body (envOfC qual scope L' f cdv))
        (fun fl s' => LeaveE h₀ L m g R (match fl with | .ret v => v | _ => .none) s')
        (fun e s' => wpAny (model prog w) (A.deeper (envOfC qual scope L' f cdv)) (leaving (envOfC qual scope L' f cdv) e) (fun _ s'' => R (.error e) s'') (fun e' s'' => R (.error e') s'') s')
        { s with heap := h₁, toks := tk })
    (hco : scope.isCoroutine = false) (hgen : scope.isGenerator = false) (hk : scope.kind = .function) : codeAny (model prog w) A (.call (.ref f) args) R s := by
  obtain ⟨FG, BG, st, lv⟩ := groundX (R := R) B F N hA hf hke
  refine codeAny_call_function hroom ((X₀.keeps F.keep) _ _ ho) rfl hco hgen rfl (codeRec_of (X₀.keeps F.keep) hcd) (hbind _ _ _ _ ?_)
  refine wpAny_newFunctionEnv_cells hk (kindsX hkind _) fun env' he s' x => ?_
  subst he
  refine ⟨(T.nolimit.keeps F.keep).keeps x.toInCall.keep, codeAny_func ?_⟩
  obtain ⟨h₁, tk, rfl, _⟩ := x.done
  have k := x.toInCall.keep
  obtain ⟨cells, NC, Y⟩ := Cl.news (h₀ := s.heap) (Nat.le_refl _) fun n c hm => ⟨x.cell n c (lookup_of_mem_nodup (cellsFrom_names scope.names 0 (s.heap.objs.size + 1) [] [] rfl ▸ hnd) hm), x.above n c hm⟩
  refine wpAny_mono (h _ s.heap.objs.size h₁ tk cells FG ⟨x.toInCall.ns, fun b o e => k b o (of_hideAll _ e), Nat.le_of_eq (hideAll_size _ _)⟩ (fun p hp => ?_) Y BG (X₀.keeps st) (T.keeps st) (fun p hp => Heap.lt_size (N p hp).1))
    (fun fl s' hl => hl.elim (lv _ _) id) fun _ _ y => y
  rcases List.mem_append.mp hp with hp | hp
  · have z := NC p hp
    refine ⟨z.1, z.2.1, ?_⟩
    cases q : (hideAll s.heap (news.map (·.1))).get? p.1 with
    | none => rfl
    | some o => have := of_hideAll _ q; rw [z.2.2] at this; cases this
  · exact ⟨k _ _ (N p hp).1, Nat.ne_of_lt (Heap.lt_size (N p hp).1), hideAll_none _ (List.mem_map_of_mem hp)⟩
/-- how statement_at answers at the head of the text ws: a datum and the place behind it, or a fault that names (c1, c2) -/
def OutC (w : World) (ws : List Str) (dep : Int) (o : Option Dat) (k : Nat) (c1 c2 : Int) : Prop :=
  ∀ {prog p : Program} {loose : List Str} {mean : ExcName → Option Value} {mg mb : Str → Option Value} {A₀ : Around} {base h₀ : Heap} {outer : List Env} {L : Addr} {m : Str → Option Value} {s : Shared}
  {dp un : Nat} {gd : Option (List Code)} {cn : Str} {cs : Scope} {a : Addr} {ccd : Value} {cl : List (Str × Addr)} {Q E : Value → Shared → Prop} {rest : List (Addr × Obj)}
  {rd rdd tl nd : Addr} {ti t1 t2 t3 : Tok} {ps : Array Value} {td : Tok}
  (B : Below A₀ base outer h₀) (F : Fr h₀ L s.heap m) (X : (hd.heap_1 w.params).In h₀) (T : Top p loose mean mg mb h₀) (hk : cs.kind = .function) (N : News h₀ L s.heap ((rd, instObj 283 rdd) :: (rdd, RD w tl nd 0 ti t1 t2 t3) :: (38, tabObj ps) :: rest)) (hd : dp + 350 < recursionLimit) (hu : un + 2600 < cLine) (hT : Toks w rest tl ws) (hC : CodeHd base 42 38) (hne : rd ≠ rdd) (hoff : ∀ p ∈ rest, p.1 ≠ rdd) (hofT : ∀ p ∈ rest, p.1 ≠ 38) (hrT : @LT.lt Nat _ 38 rd) (hdT : @LT.lt Nat _ 38 rdd) (hS : TabOk ps rest)
  (ret : ∀ d, o = some d → ∀ v h' tk' ti' ps' ex, Fr h₀ L h' m → News h₀ L h' ((rd, instObj 283 rdd) :: (rdd, RD w tl nd ((k : Nat) : Int) ti' t1 t2 t3) :: (38, tabObj ps') :: (ex ++ rest)) → SepEx ex rdd rest → TabOk ps' (ex ++ rest) →
      DatIn ex v (d) → Q v { s with heap := h', toks := tk' })
  (err : o = none → Err w base h₀ (envX cn cs L a ccd cl) outer L m rest c1 c2 E s),
  wpAny (model prog w) (ktrTop dp un gd cn cs L a ccd cl outer) (call (.ref 43) [.ref rd, .int dep td, .ref 320]) Q E s
theorem newsOut {h₀ h : Heap} {L : Addr} {a b c d e q : Addr × Obj} {ex rest : List (Addr × Obj)} (N : News h₀ L h (a :: b :: c :: d :: (ex ++ e :: q :: rest))) : News h₀ L h (b :: c :: q :: a :: d :: (ex ++ e :: rest)) :=
  newsSub N (by intro p hp; simp only [List.mem_cons, List.mem_append] at hp ⊢; grind)
theorem memMid {h₀ h : Heap} {L : Addr} {p : Addr × Obj} {r ex : List (Addr × Obj)} (N : News h₀ L h (p :: r)) : p ∈ ex ++ p :: r := List.mem_append_right _ (.head _)
theorem memMid3 {h₀ h : Heap} {L : Addr} {p q : Addr × Obj} {r ex : List (Addr × Obj)} (N : News h₀ L h (p :: q :: r)) : q ∈ ex ++ p :: q :: r := List.mem_append_right _ (.tail _ (.head _))
theorem allLt_get {d : Addr} {l : List (Addr × Obj)} {p : Addr × Obj} (h : AllLt d l) (m : p ∈ l) : @LT.lt Nat _ p.1 d := by
  induction l with
  | nil => exact nomatch m
  | cons q r ih =>
    rcases List.mem_cons.mp m with e | m
    · rw [e]; exact h.1
    · exact ih h.2 m
theorem getSnoc {ys : List Value} {y : Value} {i : Nat} (h : ys.length = i) : (ys ++ [y])[i]? = some y := by subst h; simp
theorem lenSnoc {ys : List Value} {y : Value} {i : Nat} (h : ys.length = i) : (ys ++ [y]).length = i + 1 := by subst h; simp
theorem memMid2 {h₀ h : Heap} {L : Addr} {p q x : Addr × Obj} {r ex : List (Addr × Obj)} (N : News h₀ L h (p :: q :: r)) (hx : x ∈ r) : x ∈ ex ++ p :: q :: r := List.mem_append_right _ (.tail _ (.tail _ hx))
theorem StrsOf.length {vs : List Value} {ws : List Str} (h : StrsOf vs ws) : vs.length = ws.length := by
  induction h with
  | nil => rfl
  | cons _ _ _ ih => simp [ih]
theorem cutAt_pos {n : Nat} {h : Heap} {b : Addr} (hb : @LT.lt Nat _ b n) : (⟨h.objs.extract 0 n, h.life⟩ : Heap).get? b = h.get? b := by
  unfold Heap.get?
  have e : ∀ (a : Array Obj) (b n : Nat), b < n → (a.extract 0 n)[b]? = a[b]? := fun a b n hb => by
    rw [Array.getElem?_extract]
    split
    · rw [Nat.zero_add]
    · rw [Array.getElem?_eq_none (by omega)]
  rw [show (⟨h.objs.extract 0 n, h.life⟩ : Heap).objs[b]? = h.objs[b]? from e h.objs b n hb]
theorem cutAt_of {n : Nat} {h : Heap} {b : Addr} {o : Obj} (e : (⟨h.objs.extract 0 n, h.life⟩ : Heap).get? b = some o) : h.get? b = some o := by
  have l := Heap.lt_size e
  have l' : @LT.lt Nat _ b n := by
    have : @LT.lt Nat _ b (h.objs.extract 0 n).size := l
    rw [Array.size_extract] at this
    omega
  rwa [cutAt_pos l'] at e
theorem funFrames_of {h h' base base' : Heap} : ∀ {l : List Env}, h.FunFrames base l → (∀ b ∈ l.filterMap (·.frame), base'.get? b = none ∧ ∃ o, h'.get? b = some o ∧ ∀ vs, o.data ≠ .fields vs) → h'.FunFrames base' l
  | [], _, _ => trivial
  | env :: r, ⟨hk, ⟨L, o, hf, _, _, _⟩, hr⟩, k => by
    have hm : L ∈ (env :: r).filterMap (·.frame) := List.mem_filterMap.mpr ⟨env, .head _, hf⟩
    obtain ⟨a, o', b, c⟩ := k L hm
    refine ⟨hk, ⟨L, o', hf, a, b, c⟩, funFrames_of hr fun b hb => k b ?_⟩
    rw [List.filterMap_cons, hf]
    exact .tail _ hb
/-- the ground of a frame that has caught an exception of its callee -/
theorem groundD {A₀ : Around} {base g G h Bh : Heap} {env : Env} {outer : List Env} {L e dx : Addr} {fl : Value} {m : Str → Option Value} {news : List (Addr × Obj)}
    (B : Below A₀ base outer g) (F : Fr g L G m) (U : G.UpToSlots h) (st : base.StaysIn Bh) (nw : ∀ q ∈ news, Bh.get? q.1 = some q.2 ∧ base.get? q.1 = none) (x : FlyD Bh (env :: outer) e dx fl h) (hf : env.frame = some L) :
    ∃ g' vs sl, Fr g' L h m ∧ Below A₀ base outer g' ∧ News g' L h ((e, { cls := .ref 82, dict := some dx, data := .fields vs, slots := sl }) :: news) ∧
      ∀ b ∈ outer.filterMap (·.frame), ∀ o, g.get? b = some o → ∃ sl, g'.get? b = some { o with slots := sl } := by
  obtain ⟨hkb, hen, hl, oe, vs, T, oT, ts, he, hc, hdx, hd, h1, hnT, hTe, hT, hdT, h3⟩ := x
  obtain ⟨c, d, dt, sl⟩ := oe
  dsimp only at hc hdx hd
  subst hc hdx hd
  have hLm : L ∈ (env :: outer).filterMap (·.frame) := List.mem_filterMap.mpr ⟨env, .head _, hf⟩
  have hbelow : ∀ {b : Addr} {o : Obj}, g.get? b = some o → @LT.lt Nat _ b L := fun hb => Nat.lt_of_lt_of_le (Heap.lt_size hb) F.above
  have hid : ∀ {b : Addr}, Bh.get? b = none → b ≠ e → b ∉ e :: news.map (·.1) := fun hb hne hm => by
    rcases List.mem_cons.mp hm with q | q
    · exact hne q
    · obtain ⟨p, hp, rfl⟩ := List.mem_map.mp q
      have := (nw p hp).1
      rw [hb] at this
      cases this
  have fr : ∀ b ∈ outer.filterMap (·.frame), ∀ o, g.get? b = some o → ∃ sl, (hideAll ⟨h.objs.extract 0 L, h.life⟩ (e :: news.map (·.1))).get? b = some { o with slots := sl } := fun b hb o ho => by
    obtain ⟨o', ho', hnf⟩ := (B.frames.mem hb).2
    rw [ho] at ho'
    cases ho'
    obtain ⟨sl, hs⟩ := U b o (F.keep b o ho) hnf
    have hb' : b ∈ (env :: outer).filterMap (·.frame) := by
      obtain ⟨en, h1, h2⟩ := List.mem_filterMap.mp hb
      exact List.mem_filterMap.mpr ⟨en, .tail _ h1, h2⟩
    obtain ⟨hn, o2, ho2, hnf2⟩ := hl.mem hb'
    refine ⟨sl, hideAll_get _ ((cutAt_pos (hbelow ho)).trans hs) (hid hn fun q => ?_)⟩
    rw [q, he] at ho2
    cases ho2
    exact hnf2 _ rfl
  refine ⟨hideAll ⟨h.objs.extract 0 L, h.life⟩ (e :: news.map (·.1)), vs, sl, ⟨U.ns F.ns, fun b o q => cutAt_of (of_hideAll _ q), ?_⟩, ⟨B.stack, fun b o q => ?_, funFrames_of hl.2.2 fun b hb => ?_⟩, fun q hq => ?_, fr⟩
  · rw [hideAll_size]
    show (h.objs.extract 0 L).size ≤ L
    rw [Array.size_extract]
    omega
  · have hB := st b o q
    refine hideAll_get _ ((cutAt_pos (hbelow (B.stays b o q))).trans (hkb b o hB)) fun hm => ?_
    rcases List.mem_cons.mp hm with z | z
    · rw [z, hen] at hB
      cases hB
    · obtain ⟨p, hp, rfl⟩ := List.mem_map.mp z
      have := (nw p hp).2
      rw [q] at this
      cases this
  · obtain ⟨hn, o, ho, hnf⟩ := B.frames.mem hb
    obtain ⟨sl, hs⟩ := fr b hb o ho
    exact ⟨hn, _, hs, hnf⟩
  · rcases List.mem_cons.mp hq with rfl | hq'
    · refine ⟨he, fun z => ?_, hideAll_none _ (.head _)⟩
      obtain ⟨_, o2, ho2, hnf2⟩ := hl.mem hLm
      dsimp only at z
      rw [← z, he] at ho2
      cases ho2
      exact hnf2 _ rfl
    · refine ⟨hkb _ _ (nw q hq').1, fun z => ?_, hideAll_none _ (.tail _ (List.mem_map_of_mem hq'))⟩
      have a := (hl.mem hLm).1
      rw [← z, (nw q hq').1] at a
      cases a
/-- what the caller has when a def that caught something is left -/
theorem backD {base g g' hh : Heap} {L L' : Addr} {m m' : Str → Option Value} {news : List (Addr × Obj)} (FG : Fr base L g m) (k : base.StaysIn g') (up : ∀ o, g.get? L = some o → ∃ sl, g'.get? L = some { o with slots := sl })
    (F' : Fr g' L' hh m') (N' : News g' L' hh news) : Fr base L hh m ∧ News base L hh news := by
  obtain ⟨oL, es, ep, hL, hd, r⟩ := FG.ns
  obtain ⟨sl, hs⟩ := up oL hL
  have hL' := F'.keep _ _ hs
  refine ⟨⟨⟨_, es, ep, hL', hd, r⟩, fun b o q => F'.keep _ _ (k b o q), FG.above⟩, fun q hq => ⟨(N' q hq).1, fun z => ?_, fresh_of_stays k (N' q hq).2.2⟩⟩
  have a := (N' q hq).2.2
  rw [z, hs] at a
  cases a
theorem tabCode_off {base h : Heap} {L : Addr} {news : List (Addr × Obj)} {ps : Array Value} (N : News base L h news) (h38 : (38, tabObj ps) ∈ news) (t : TabOk ps news) :
    ∃ ex, (∀ p ∈ ex, p ∈ news) ∧ (∀ p ∈ ex, p.1 ≠ 38) ∧ TabOk ps ex := by
  rcases t with t | ⟨c', oc, vs, t, e, hm, hd, hv⟩
  · exact ⟨[], fun _ h => (nomatch h), fun _ h => (nomatch h), .inl t⟩
  · refine ⟨[(c', oc)], fun p hp => List.mem_singleton.mp hp ▸ hm, fun p hp z => ?_, .inr ⟨c', oc, vs, t, e, .head _, hd, hv⟩⟩
    rw [List.mem_singleton.mp hp] at z
    dsimp only at z
    subst z
    have q := (N _ hm).1.symm.trans (N _ h38).1
    cases q
    cases hd
    subst e
    cases hv
local macro_rules | `(tactic| walk_at "call ref") => `(tactic| (k_here; k_dflt (refine' fault_nil ?B ?F ?X ?T ?hk ?N ?hd ?hu ?hT ?hx ?_; (case B => k_asm); (case F => k_asm); (case X => k_asm); (case T => k_asm); (case hk => first | exact rfl | assumption); (case N => first | k_asm | walk_at "d_news"); (case hd => k_room); (case hu => k_units); (case hT => first | assumption | (refine' Toks.mono ?kt ?ku; (case kt => assumption); (case ku => walk_at "d_sub"))); (case hx => assumption); k_whole; intro e' dx' ex' h' tk' t1' t2' ta' t7' t8' n' F' N' l1 l2 l3; (try dsimp only))))
section
variable {prog p : Program} {w : World} {loose : List Str} {mean : ExcName → Option Value} {mg mb : Str → Option Value} {A₀ : Around} {base h₀ : Heap} {outer : List Env} {L : Addr} {m : Str → Option Value} {s : Shared}
  {dp un : Nat} {gd : Option (List Code)} {cn : Str} {cs : Scope} {a : Addr} {ccd : Value} {cl : List (Str × Addr)} {Q E : Value → Shared → Prop} {rest : List (Addr × Obj)}
  {rd rdd tl nd : Addr} {i n : Nat} {ti t1 t2 t3 tw : Tok} {vs : List Value} {ws : List Str} {x : Str}
theorem stmt_nil {ps : Array Value} {dep : Int} {td : Tok} (B : Below A₀ base outer h₀) (F : Fr h₀ L s.heap m) (X : (hd.heap_1 w.params).In h₀) (T : Top p loose mean mg mb h₀) (hk : cs.kind = .function)
    (N : News h₀ L s.heap ((rd, instObj 283 rdd) :: (rdd, RD w tl nd i ti t1 t2 t3) :: rest)) (hd : dp + 130 < recursionLimit) (hu : un + 700 < cLine) (hT : Toks w rest tl ws) (h38 : (38, tabObj ps) ∈ rest) (hS : TabOk ps rest) (hws : ws = [])
    (err : Err w base h₀ (envX cn cs L a ccd cl) outer L m rest 0 0 E s) :
    wpAny (model prog w) (ktrTop dp un gd cn cs L a ccd cl outer) (call (.ref 43) [.ref rd, .int dep td, .ref 320]) Q E s := by
  have hx : ws[i]? = none := by simp [hws]
  refine wpAny_call ?_
  k_dflt k_enter
  k_steps
  refine' raisedHere err ?k2 ?k3 ?k4 ?k5 ?k6 ?k7 ?k8 ?k9 ?kA ?k0 rfl rfl ?kD
  (case k2 => assumption)
  (case k3 => assumption)
  (case k5 => assumption)
  (case k4 => assumption)
  (case k6 => assumption)
  (case k7 => assumption)
  (case k8 => exact (show AllLt _ ((_, excD _ _ _) :: _) from by assumption).1)
  (case k9 => k_mem)
  (case kA => walk_at "d_sub")
  (case k0 => refine' ⟨_, ?ka, TabOk.mono hS ?kb⟩; (case ka => k_mem); (case kb => walk_at "d_sub"))
  (case kD => exact fun h' => ⟨_, rfl⟩)
end
theorem out_nil {w : World} {dep : Int} {k : Nat} : OutC w [] dep none k 0 0 := by
  intro prog p loose mean mg mb A₀ base h₀ outer L m s dp un gd cn cs a ccd cl Q E rest rd rdd tl nd ti t1 t2 t3 ps td B F X T hk N hd hu hT hC hne hoff hofT hrT hdT hS ret err
  refine stmt_nil (i := 0) (rest := (38, tabObj ps) :: rest) B F X T hk N (by omega) (by omega) (hT.mono fun p hp => .tail _ hp) (.head _) (hS.mono fun p hp => .tail _ hp) rfl ?_
  exact fun G h' tk' e dx ta t1 t2 tw u1 u2 what n news FG U R m1 m2 sub h38 => err rfl G h' tk' e dx ta t1 t2 tw u1 u2 what n news FG U R m1 m2 (fun p hp => sub p (.tail _ hp)) h38
theorem out_odd {w : World} {dep : Int} {k : Nat} {x : Str} {ws : List Str} (hx : isVerb x = false) : OutC w (x :: ws) dep none k 2 5 := by
  intro prog p loose mean mg mb A₀ base h₀ outer L m s dp un gd cn cs a ccd cl Q E rest rd rdd tl nd ti t1 t2 t3 ps td B F X T hk N hd hu hT hC hne hoff hofT hrT hdT hS ret err
  refine stmt_noverb (i := 0) (x := x) (rest := (38, tabObj ps) :: rest) B F X T hk N (by omega) (by omega) (hT.mono fun p hp => .tail _ hp) (.head _) (hS.mono fun p hp => .tail _ hp) rfl hx ?_
  exact fun G h' tk' e dx ta t1 t2 tw u1 u2 what n news FG U R m1 m2 sub h38 => err rfl G h' tk' e dx ta t1 t2 tw u1 u2 what n news FG U R m1 m2 (fun p hp => sub p (.tail _ hp)) h38
theorem out_ok {w : World} {m₀ : List Str} {ms : List (List Str)} {tail : List Str} {dep : Int} {c1 c2 : Int} (hm : ∀ x ∈ m₀, Sm x) (hs : ∀ m ∈ ms, ∀ x ∈ m, Sm x) (hl : ms.length ≤ 14) (ho : lostAt dep 0 m₀ ms = none) :
    OutC w (flat (m₀ :: ms) ++ tail) dep (some (.tuple [.str (Str.ofString "IF"), .tuple (bodyDs m₀ ms)])) (flat (m₀ :: ms)).length c1 c2 := by
  intro prog p loose mean mg mb A₀ base h₀ outer L m s dp un gd cn cs a ccd cl Q E rest rd rdd tl nd ti t1 t2 t3 ps td B F X T hk N hd hu hT hC hne hoff hofT hrT hdT hS ret err
  refine stmt_all ms m₀ hm hs (i := 0) B F X T hk N (by omega) (by omega) hT hC hne hoff hofT hrT hdT hS rfl (fun _ => ?_) (fun j hj => absurd (ho.symm.trans hj) (by simp))
  rw [Nat.zero_add]
  exact ret _ rfl
theorem out_lost {w : World} {m₀ : List Str} {ms : List (List Str)} {tail : List Str} {dep : Int} {k j : Nat} (hm : ∀ x ∈ m₀, Sm x) (hs : ∀ m ∈ ms, ∀ x ∈ m, Sm x) (hl : ms.length ≤ 14) (ho : lostAt dep 0 m₀ ms = some j) :
    OutC w (flat (m₀ :: ms) ++ tail) dep none k 2 ((j : Int) + 5) := by
  intro prog p loose mean mg mb A₀ base h₀ outer L m s dp un gd cn cs a ccd cl Q E rest rd rdd tl nd ti t1 t2 t3 ps td B F X T hk N hd hu hT hC hne hoff hofT hrT hdT hS ret err
  refine stmt_all ms m₀ hm hs (i := 0) B F X T hk N (by omega) (by omega) hT hC hne hoff hofT hrT hdT hS rfl (fun h => absurd (ho.symm.trans h) (by simp)) (fun j' hj => ?_)
  rw [ho] at hj
  cases hj
  exact err rfl


theorem instAt_exc {h₀ h : Heap} {L x C dx : Addr} {news : List (Addr × Obj)} {od : Obj} {vs : Array Value} {sl : Array (Option Value)} (N : News h₀ L h news) (h1 : (x, (⟨.ref C, some dx, .fields vs, sl⟩ : Obj)) ∈ news) (h2 : (dx, od) ∈ news) :
    InstAt h x ⟨.ref C, some dx, .fields vs, sl⟩ C (some od) := ⟨(N _ h1).1, rfl, rfl, (N _ h2).1⟩
section
variable {prog : Program} {w : World} {A : Around} {E : Value → Shared → Prop} {s : Shared} {h₀ : Heap} {L : Addr} {m : Str → Option Value} {e : Addr} {ox : Obj} {es : List DictEntry} {n : Nat} {name : Str}
/-- a method of the own exception class, asked for at an exception that has no such name of its own -/
theorem exc_method {f : Addr} {pl : Sem Bool} {Q : Value × List Value → Shared → Prop} (F : Fr h₀ L s.heap m) (X₀ : (hd.heap_1 w.params).In h₀) (I : InstAt s.heap e ox 82 (some (dictOf es n)))
    (hf : findIn (hd.heap_1 w.params) (.ref 82) name = some (some (.ref f))) (ht : isFn (hd.heap_1 w.params) (.ref f) = true) (hl : getL name es = some none) (h : Q (.ref f, [.ref e]) s) :
    wpAny (model prog w) A (getMethod (.ref e) name pl) Q E s := by
  have X := X₀.keeps F.keep
  have a1 : Looks (model prog w) s.heap (typeLookup (.ref 82) "__getattribute__") (some (.builtin "BaseException.__getattribute__")) := looks_findIn X (by k_is)
  have a2 : Looks (model prog w) s.heap (typeLookup (.ref 82) "__getattr__") none := looks_findIn X (by k_is)
  have a3 := looks_findIn (M := model prog w) X hf
  have a4 := looks_typeIn (M := model prog w) X (beq_iff_eq.mp ht)
  have cn : Manifest.canonical "BaseException.__getattribute__" = "object.__getattribute__" := by decide +kernel
  unfold getMethod specialOf
  refine wpAny_bind (wpAny_bind (I.type.here (a1.here ?_)))
  dsimp only
  rw [cn, if_neg (by decide)]
  refine wpAny_bind (wpAny_bind (I.type.here (a2.here ?_)))
  refine wpAny_bind (wpAny_bind (I.type.here (a3.here (wpAny_bind (a4.here ?_)))))
  rw [if_neg (by decide +kernel)]
  refine wpAny_bind (wpAny_loadPart I.at_ ?_)
  have hd := I.dict
  rcases q : ox.dict with _ | dx
  · exact wpAny_bind (wpAny_rule (wpAny_pure h))
  · rw [q] at hd
    refine wpAny_bind (wpAny_bind (wpAny_loadPart hd ?_))
    rw [nsLook_of ((lookIn_dict name es n).trans hl)]
    exact wpAny_pure (wpAny_bind (wpAny_rule (wpAny_pure h)))
open PySem.Builtin PySem.Builtin.ObjectAttr in
/-- a name that the exception's own dict holds -/
theorem exc_attr {v : Value} {expr : Bool} {Q : Value → Shared → Prop} (F : Fr h₀ L s.heap m) (X₀ : (hd.heap_1 w.params).In h₀) (I : InstAt s.heap e ox 82 (some (dictOf es n)))
    (ha : findIn (hd.heap_1 w.params) (.ref 82) name = some none) (hl : getL name es = some (some v)) (hv : handedIn v = true) (h : Q v { s with toks := s.toks + 1 }) :
    wpAny (model prog w) A (getAttr (.ref e) name expr) Q E s := by
  have X := X₀.keeps F.keep
  obtain ⟨hh, g, d, t, os⟩ := s
  dsimp only at X I h
  have a0 := I.type (M := model prog w)
  have a1 : Looks (model prog w) hh (typeLookup (.ref 82) "__getattribute__") (some (.builtin "BaseException.__getattribute__")) := looks_findIn X (by k_is)
  have a2 : Looks (model prog w) hh (typeLookup (.ref 82) "__getattr__") none := looks_findIn X (by k_is)
  have a3 := looks_find (M := model prog w) X I (findObj_own (by k_is) ha rfl hl)
  have sub : Looks (model prog w) hh (isInstance (.ref e) (.type "BaseException")) true := I.type.andThen (looks_mroIn X (by k_is))
  unfold getAttr getAttrBy
  refine wpAny_bind (wpAny_mkText (wpAny_holding (wpAny_bind (a0.at (wpAny_bind (a1.at ?_))))))
  dsimp only
  rw [if_neg (by decide +kernel)]
  unfold getAttrByItsOwn hookBefore
  rw [if_pos (by decide +kernel)]
  refine wpAny_bind (a2.at ?_)
  refine wpAny_bind (wpAny_attempt (wpAny_holding ?_))
  unfold callGetattribute
  rw [if_neg (by cases expr <;> decide +kernel)]
  unfold boundAndCalled
  have FA := PySem.F.attr_Exception
  have bs : bindSpecial (.builtin "BaseException.__getattribute__") (.ref e) = pure (.builtin "BaseException.__getattribute__", [.ref e]) := FA.ga.bind (.ref e)
  rw [bs]
  refine wpAny_bind (wpAny_pure (wpAny_call ?_))
  have hk : builtinKind "BaseException.__getattribute__" = some .slot := by decide +kernel
  have hs : splitId "BaseException.__getattribute__" = some ("BaseException", "__getattribute__") := by decide +kernel
  have hao := PySem.F.args_bexc_ga (.ref e) (.str name t)
  show codeAny _ _ (.call (.builtin "BaseException.__getattribute__") ⟨[.ref e, .str name t], []⟩) _ _
  refine codeAny_call_builtin FA.ga.plain PySem.F.entry_bexc_ga ?_
  refine @check_slot (model prog w) _ _ ⟨hh, g, d, t + 1, os⟩ "BaseException.__getattribute__" "BaseException" "__getattribute__" (.ref e) [.str name t] [] _ hk hs sub hao ?_
  unfold Builtin.«object.__getattribute__»
  repeat (first | lk | wp_step)
  show wpAny _ _ (handedOut v) _ _ _
  rw [handedOut_of hv]
  exact wpAny_pure h
end
theorem outK {h₀ h : Heap} {L nd rd rdd D cA : Addr} {o1 o2 o3 o4 o5 o6 : Obj} {ex rest : List (Addr × Obj)} (N : News h₀ L h ((nd, o1) :: (rd, o2) :: (rdd, o3) :: (D, o4) :: (ex ++ (cA, o5) :: (38, o6) :: rest))) (hnd : nd ≠ 38) (hD : D ≠ 38) (hc : cA ≠ 38)
    (hex : ∀ p ∈ ex, @LT.lt Nat _ 38 p.1) (hr : ∀ p ∈ rest, p.1 ≠ 38) (h1 : nd ≠ rdd) (h2 : D ≠ rdd) (h3 : AllLt rdd (ex ++ (cA, o5) :: (38, o6) :: rest)) :
    ∃ exK, News h₀ L h ((rd, o2) :: (rdd, o3) :: (38, o6) :: (exK ++ rest)) ∧ (∀ p ∈ exK, p.1 ≠ 38) ∧ (∀ p ∈ exK ++ rest, p.1 ≠ rdd) ∧ (D, o4) ∈ exK ∧ (∀ p ∈ ex, p ∈ exK) := by
  refine ⟨(nd, o1) :: (D, o4) :: (ex ++ [(cA, o5)]), newsSub N (by intro p hp; simp only [List.mem_cons, List.mem_append, List.not_mem_nil, or_false, List.cons_append] at hp ⊢; grind), ?_, ?_, .tail _ (.head _), fun p hp => .tail _ (.tail _ (List.mem_append_left _ hp))⟩
  · refine List.forall_mem_cons.mpr ⟨hnd, List.forall_mem_cons.mpr ⟨hD, List.forall_mem_append.mpr ⟨fun p hp => Nat.ne_of_gt (hex p hp), fun p hp => ?_⟩⟩⟩
    rw [List.mem_singleton.mp hp]; exact hc
  · intro p hp
    rcases List.mem_append.mp hp with hp | hp
    · rcases List.mem_cons.mp hp with rfl | hp
      · exact h1
      rcases List.mem_cons.mp hp with rfl | hp
      · exact h2
      · exact Nat.ne_of_lt (allLt_get h3 (by
          rcases List.mem_append.mp hp with hp | hp
          · exact List.mem_append_left _ hp
          · rw [List.mem_singleton.mp hp]; exact List.mem_append_right _ (.head _)))
    · exact Nat.ne_of_lt (allLt_get h3 (List.mem_append_right _ (.tail _ (.tail _ hp))))
theorem off1_get {D : Addr} {l : List (Addr × Obj)} {p : Addr × Obj} (h : LCg.Off1 D l) (m : p ∈ l) : p.1 ≠ D := by
  induction l with
  | nil => exact nomatch m
  | cons q r ih =>
    rcases List.mem_cons.mp m with e | m
    · rw [e]; exact h.1
    · exact ih h.2 m
theorem finOk {base h : Heap} {L D : Addr} {v : Value} {d : Dat} {k : Int} {ti : Tok} {n : Nat} {a b : Addr × Obj} {ps : Array Value} {o : Obj} {ex exK rest : List (Addr × Obj)} (N : News base L h ((D, tupOf [v, .int k ti] n) :: a :: b :: (38, o) :: (ex ++ (exK ++ rest)))) (hD : D ≠ 38)
    (h1 : ∀ p ∈ ex, p.1 ≠ 38) (h2 : ∀ p ∈ exK, p.1 ≠ 38) (S : TabOk ps (ex ++ (exK ++ rest))) (hd : DatIn ex v d) :
    ∃ e, News base L h ((38, o) :: (e ++ rest)) ∧ (∀ p ∈ e, p.1 ≠ 38) ∧ TabOk ps (e ++ rest) ∧ DatIn e (.ref D) (.tuple [d, .int k]) := by
  refine ⟨(D, tupOf [v, .int k ti] n) :: (ex ++ exK), newsSub N (List.forall_mem_cons.mpr ⟨.tail _ (.tail _ (.tail _ (.head _))), ?_⟩), List.forall_mem_cons.mpr ⟨hD, List.forall_mem_append.mpr ⟨h1, h2⟩⟩, ?_, .tuple (.head _) (.cons (hd.mono fun p hp => .tail _ (List.mem_append_left _ hp)) (.cons (.int _ _) .nil))⟩
  · rw [List.cons_append, List.append_assoc]
    exact List.forall_mem_cons.mpr ⟨.head _, fun p hp => .tail _ (.tail _ (.tail _ (.tail _ hp)))⟩
  · rw [List.cons_append, List.append_assoc]
    exact S.mono fun p hp => .tail _ hp
local macro_rules | `(tactic| k_inst) => `(tactic| (refine' instAt_exc ?N ?h1 ?h2; (case N => k_asm); (case h1 => k_mem); (case h2 => k_mem)))
local macro_rules | `(tactic| walk_at "getMethod ref") => `(tactic| (k_here; k_dflt (refine' exc_method ?k1 ?k2 ?k3 ?k4 ?k5 ?k6 ?_; (case k1 => k_asm); (case k2 => k_asm); (case k3 => k_inst); (case k4 => k_is); (case k5 => k_is); (case k6 => k_get); k_whole)))
local macro_rules | `(tactic| walk_at "getAttr ref") => `(tactic| (k_here; k_dflt (refine' exc_attr ?k1 ?k2 ?k3 ?k4 ?k5 ?k6 ?_; (case k1 => k_asm); (case k2 => k_asm); (case k3 => k_inst); (case k4 => k_is); (case k5 => k_get); (case k6 => k_handed); k_whole)))
local macro_rules | `(tactic| walk_at "CompSrc") => `(tactic| (k_here; kcf_src; (try k_fmods); (try kcf_lens); k_dflt ((refine LCg.CompSrc.range (by rfl) (by k_asm) (by k_asm) (by assumption) (by first | exact small_one (by kcf_bnd) (by kcf_bnd) (by kcf_bnd) (by kcf_bnd) | decide) (by first | exact rangeSize_nat _ _ | rfl) (by first | exact Nat.le_of_ble_eq_true rfl | (rw [PySem.sizeLine_eq]; first | omega | ((simp only [List.size_toArray]); omega) | ((have hb9 := len_ints_list (by lay_of)); omega)) | size_fits) ?_; intro g'; refine stop_ ?_))))
local macro_rules | `(tactic| walk_at "CompEnd") => `(tactic| (refine stop_ ?_))
local macro_rules | `(tactic| walk_at "k_enterE") => `(tactic| (refine' code_defE ?k1 ?k2 ?k3 ?k4 ?k5 ?kA ?kF ?kK ?k6 ?k7 ?k8 ?k9 ?kB ?kD ?_ ?c2 ?c3 ?c4; (case kA => exact rfl); (case kF => exact rfl); (case kK => first | exact rfl | assumption); (case k1 => k_asm); (case k2 => k_asm); (case k3 => k_asm); (case k4 => k_asm); (case k5 => k_asm); (case k6 => k_is); (case k7 => k_is); (case k8 => k_room); (case k9 => first | exact BindsTo.of_eq rfl | exact binds_K (by k_in) rfl (by k_is) rfl rfl rfl | fail "k_enter: no rule for these arguments"); (case kB => exact rfl); (case kD => decide +kernel); (case c2 => exact rfl); (case c3 => exact rfl); (case c4 => exact rfl); k_whole; intro g' L' h' tk' cells' FG' F' N' Y' B' X' T' l1; (try k_lt l1); k_cells Y'; (try simp only [List.cons_append, List.nil_append] at N'); (try dsimp only); (try k_fold)))
local macro_rules | `(tactic| walk_at "LeaveE") => `(tactic| (unfold LeaveE; refine Or.inl ?_))
local macro_rules | `(tactic| walk_at "call ref") => `(tactic| ((with_reducible show wpAny _ _ (call (Value.ref 43) _) _ _ _); refine stop_ ?_))
section
variable {prog p : Program} {w : World} {loose : List Str} {mean : ExcName → Option Value} {mg mb : Str → Option Value} {A₀ : Around} {base h₀ : Heap} {outer : List Env} {L : Addr} {m : Str → Option Value} {s : Shared}
  {dp un : Nat} {gd : Option (List Code)} {cn : Str} {cs : Scope} {a : Addr} {ccd : Value} {cl : List (Str × Addr)} {Q E : Value → Shared → Prop} {rest : List (Addr × Obj)}
  {rd rdd tl nd : Addr} {i n : Nat} {ti t1 t2 t3 tw : Tok} {vs : List Value} {ws : List Str} {x : Str}
theorem heard {wl : Addr} {ps : Array Value} {dep : Int} {td : Tok} (B : Below A₀ base [] base) (F : Fr base L s.heap m) (X : (hd.heap_1 w.params).In base) (T : Top p loose mean mg mb base) (hk : cs.kind = .function)
    (N : News base L s.heap ((38, tabObj ps) :: rest)) (hd : dp + 400 < recursionLimit) (hu : un + 3000 < cLine) (hC : CodeHd base 42 38) (hS : TabOk ps rest) (hl : (wl, listOf vs.toArray n) ∈ rest) (hvs : StrsOf vs ws) (hlen : ws.length < 1000) (hofT : ∀ p ∈ rest, p.1 ≠ 38) {o : Option Dat} {k₀ : Nat} {c1 c2 : Int} (hO : OutC w ws dep o k₀ c1 c2)
    (ret : ∀ v h' tk' ps' ex, Fr base L h' m → News base L h' ((38, tabObj ps') :: (ex ++ rest)) → (∀ p ∈ ex, p.1 ≠ 38) → TabOk ps' (ex ++ rest) →
      DatIn ex v (match o with | some d => .tuple [d, .int k₀] | none => .tuple [.int c1, .int c2]) → Q v { s with heap := h', toks := tk' }) :
    wpAny (model prog w) (ktrTop dp un gd cn cs L a ccd cl []) (call (.ref 325) [.ref wl, .int dep td]) Q E s := by
  have hvl := hvs.length
  refine wpAny_call ?_
  k_dflt walk_at "k_enterE"
  rename Below _ _ _ _ => Bq
  rename Fr base L _ m => FGq
  k_steps
  refine stop_to ?_
  rename News _ _ _ _ => Nq
  have hgetW : ∀ (q : Nat) (x : Str), ws[q]? = some x → ∃ t, vs[q]? = some (.str x t) := fun q x hq => hvs.get hq
  refine' (?H : ∀ (j i : Nat) (ys : List Value) (ex : List (Addr × Obj)), i + j = ws.length → ys.length = i → (∀ (q : Nat) (x : Str), q < i → ws[q]? = some x → ∃ v, ys[q]? = some v ∧ TokAt w ex v x q) → (∀ p ∈ ex, @LT.lt Nat _ 38 p.1) →
    LCg.CompRest ?a1 ?a2 ?a3 ?a4 ?a5 ?a6 ?a7 ?a8 ?a9 ?aA ?aB ?aC ?aD ?aE ?aF j i ys (ex ++ (?cell :: (38, tabObj ps) :: rest))) _ 0 [] [] (by simp [hvl]) rfl (fun q _ h => absurd h (Nat.not_lt_zero _)) (fun _ h => nomatch h)
  intro j
  induction j with
  | zero =>
    intro i ys ex hi hy hall hex
    have m38 := memMid3 (ex := ex) Nq
    have mcl := memMid (ex := ex) Nq
    refine LCg.CompRest.zero ?_
    have hi' : i = ws.length := by omega
    subst hi'
    k_steps
    (try (refine wpAny_Try_except ?_; k_steps))
    refine stop_to ?_
    with_reducible rename News _ _ _ _ => Nz
    have lnd := ‹_ ∧ _ ∧ _ ∧ AllLt _ (ex ++ _)›
    have lrd := ‹_ ∧ AllLt _ (ex ++ _)›
    rename @LT.lt Nat _ _ _ => lq
    have g1 := allLt_get lrd.2 m38
    have g2 := allLt_get lnd.2.2.2 m38
    have g3 := off1_get ‹LCg.Off1 _ (ex ++ _)› m38
    have g4 := allLt_get lnd.2.2.2 mcl
    have g5 := (‹_ ∧ AllLt _ rest›).1
    dsimp only at g1 g2 g3
    obtain ⟨exK, Nz', off38, offR, memD, memX⟩ := outK Nz (Nat.ne_of_gt g2) (Ne.symm g3) (Nat.ne_of_gt (Nat.lt_succ_of_lt g5)) hex hofT (Nat.ne_of_gt lnd.2.1) (Nat.ne_of_lt lrd.1) lrd.2
    k_dflt refine' hO ?B ?F ?X ?T ?hk ?N ?hd ?hu ?hT ?hC ?hne ?hoff ?hofT ?hrT ?hdT ?hS ?ret ?err
    (case B => k_asm)
    (case F => k_asm)
    (case X => k_asm)
    (case T => k_asm)
    (case hk => first | exact rfl | assumption)
    (case N => exact Nz')
    (case hd => k_room)
    (case hu => k_units)
    (case hC => assumption)
    (case hT => exact ⟨ys, _, List.mem_append_left _ memD, hy, hlen, fun j x hj => let ⟨v, hv, ht⟩ := hall j x (lt_of_get hj) hj; ⟨v, hv, ht.mono fun p hp => List.mem_append_left _ (memX p hp)⟩⟩)
    (case hS => exact hS.mono fun p hp => List.mem_append_right _ hp)
    (case hne => exact Nat.ne_of_gt lq)
    (case hoff => exact offR)
    (case hofT => exact List.forall_mem_append.mpr ⟨off38, hofT⟩)
    (case hrT => exact Nat.lt_trans g1 lq)
    (case hdT => exact g1)
    (case ret =>
      intro d hd' v h' tk' ti' ps' ex2 F' N' sep S' D'
      subst hd'
      clear Nz Nz'
      k_steps
      rename Fr base L _ m => kF
      rename News base L _ _ => kN
      have lT := ‹_ ∧ _ ∧ _ ∧ AllLt _ (ex2 ++ _)›
      obtain ⟨exF, n1, n2, n3, n4⟩ := finOk kN (Nat.ne_of_gt lT.2.2.1) (fun p hp => (sep p hp).2.1) off38 S' D'
      exact ret _ _ _ ps' exF kF n1 n2 n3 n4)
    (case err =>
      intro ho
      subst ho
      intro G h' tk' e dx ta t1 t2 tw u1 u2 what n' news FG' U R m1 m2 sub h38
      obtain ⟨Bh, st, nw, fly⟩ := R
      dsimp only
      refine noteD_next (Around.frames_deeper Bq.stack) rfl fly fun h₁ x1 x2 => ?_
      dsimp only
      refine landD (to := none) x1 fun h₂ y1 y2 => ?_
      obtain ⟨g₂, vs₂, sl₂, F₂, B₂, N₂, up₂⟩ := groundD Bq FG' (U.trans (x2.trans y2)) st nw y1 rfl
      have X₂ := X.keeps B₂.stays
      have T₂ := T.keeps B₂.stays
      refine wpAny_handleBy_cons (codeAny_handlers_test ?_) (by intro q; cases q)
      k_steps
      refine wpAny_excMatches_sub_self (F₂.keep _ _ (X₂ 82 _ (by k_is))) (N₂ _ (.head _)).1 rfl (by decide +kernel) (codeAny_handlers_suite_as ?_)
      refine landD (to := none) y1 fun h₃ z1 z2 => ?_
      clear F₂ B₂ N₂ up₂ X₂ T₂
      obtain ⟨g₃, vs₃, sl₃, F₃, B₃, N₃, up₃⟩ := groundD Bq FG' (U.trans (x2.trans (y2.trans z2))) st nw z1 rfl
      have X₃ := X.keeps B₃.stays
      have T₃ := T.keeps B₃.stays
      obtain ⟨ps', m38, tok⟩ := h38
      obtain ⟨exT, hsT, hoT, tokT⟩ := tabCode_off (newsSub N₃ fun p hp => .tail _ hp) m38 tok
      have N₄ : News g₃ _ h₃ ((e, { cls := .ref 82, dict := some dx, data := .fields vs₃, slots := sl₃ }) :: (dx, exBook w t1 t2 tw what ta) :: (ta, tupOf [.int c1 u1, .int c2 u2] n') :: (38, tabObj ps') :: (exT ++ rest)) := newsSub N₃ (by
        refine List.forall_mem_cons.mpr ⟨.head _, List.forall_mem_cons.mpr ⟨.tail _ m1, List.forall_mem_cons.mpr ⟨.tail _ m2, List.forall_mem_cons.mpr ⟨.tail _ m38, fun p hp => .tail _ ?_⟩⟩⟩⟩
        rcases List.mem_append.mp hp with hp | hp
        · exact hsT p hp
        · exact sub p (List.mem_append_right _ hp))
      clear N₃ fly x1 y1 z1
      have ta38 : ta ≠ 38 := fun z => by
        have q := (nw _ m2).1
        have q' := (nw _ m38).1
        dsimp only at q q'
        rw [z, q'] at q
        cases q
      k_steps
      rename Fr g₃ _ _ _ => Fz
      rename News g₃ _ _ _ => Nz2
      refine wpAny_nameGoes (by rfl) Fz.ns (by rfl) fun h₇ m₇ hn hsb => ?_
      obtain ⟨FB, NB⟩ := backD FGq B₃.stays (fun o ho => up₃ _ (.head _) o ho) (Fz.set hn hsb) (Nz2.set hsb)
      refine Or.inr ?_
      refine' ret (.ref ta) h₇ _ ps' ((ta, tupOf [.int c1 u1, .int c2 u2] n') :: exT) FB ?c1 (List.forall_mem_cons.mpr ⟨ta38, hoT⟩) (tokT.mono fun p hp => .tail _ (List.mem_append_left _ hp)) (.tuple (.head _) (.cons (.int _ _) (.cons (.int _ _) .nil)))
      (case c1 => show News _ _ _ (_ :: _ :: (exT ++ rest)); refine newsSub NB ?_; walk_at "d_sub"))
  | succ j ih =>
    intro i ys ex hi hy hall hex
    refine LCg.CompRest.succ ?_
    intro v I oI C oC D m₂ h tk E' hv hC' hx' F' N' off ne
    obtain ⟨t9, hv⟩ := hv
    rw [Int.zero_add] at hv
    subst hv
    obtain ⟨x, hx⟩ : ∃ x, ws[i]? = some x := ⟨ws[i]'(by omega), List.getElem?_eq_getElem (by omega)⟩
    obtain ⟨t8, hvi⟩ := hgetW i x hx
    have hcell := memMid (ex := ex) Nq
    have hl' := memMid2 (ex := ex) Nq hl
    have hm38 := memMid3 (ex := ex) Nq
    have hlt : vs.length < 1000 := by omega
    k_steps
    refine stop_to ?_
    with_reducible rename News _ _ _ _ => Nz
    with_reducible rename Fr _ _ _ _ => Fz
    have h38 := allLt_get (‹_ ∧ _ ∧ _ ∧ AllLt _ (ex ++ _)›).2.2.2 hm38
    (try dsimp only at h38)
    refine' LCg.CompEnd.intro Fz Nz ((_, instObj 110 _) :: (_, dictOf _ 4) :: (_, tupOf [_, _] _) :: (ex ++ (_ :: (38, tabObj ps) :: rest))) ?sub ?off trivial ?r
    (case sub => walk_at "d_sub")
    (case off =>
      refine ⟨⟨by k_ne, by k_ne, by k_ne⟩, ⟨by k_ne, by k_ne, by k_ne⟩, ⟨by k_ne, by k_ne, by k_ne⟩, off⟩)
    (case r =>
      refine' ih (i + 1) _ ([_, _, _] ++ ex) (by omega) (lenSnoc hy) ?tok ?hex
      (case hex =>
        refine List.forall_mem_cons.mpr ⟨?_, List.forall_mem_cons.mpr ⟨?_, List.forall_mem_cons.mpr ⟨?_, hex⟩⟩⟩ <;> (dsimp only; omega))
      (case tok =>
        intro q z hq hz
        by_cases hqi : q = i
        · subst hqi
          rw [hx] at hz
          cases hz
          refine ⟨_, getSnoc hy, ?_⟩
          exact ⟨_, _, _, _, _, _, _, _, _, _, _, _, rfl, .head _, .tail _ (.head _), .tail _ (.tail _ (.head _))⟩
        · obtain ⟨v, hv, ht⟩ := hall q z (by omega) hz
          refine ⟨v, by rw [List.getElem?_append_left (by omega)]; exact hv, ht.mono fun p hp => .tail _ (.tail _ (.tail _ hp))⟩))
end

end


local macro_rules | `(tactic| k_mem) => `(tactic| assumption)
local macro_rules | `(tactic| walk_at "call builtin:len") => `(tactic| (k_here; (with_reducible show wpAny _ _ (call (Value.builtin "len") [Value.ref _]) _ _ _); (refine' lenN ?k1 ?k2 ?k3 ?_; (case k1 => k_asm); (case k2 => k_mem); (case k3 => omega)); intro t' tk'; (try dsimp only)))
local macro_rules | `(tactic| walk_at "subscriptTail") => `(tactic| (k_here; (with_reducible show wpAny _ _ (subscriptTail _ _ (Value.ref _) (Value.int _ _)) _ _ _); (with_unfolding_all refine' itemN ?k1 ?k2 ?k3 ?k4 ?k5 ?_ ?k6; (case k1 => k_asm); (case k2 => k_mem); (case k3 => omega); (case k4 => omega); (case k5 => first | with_reducible assumption | (simp only [Int.add_zero, Int.toNat_natCast]; assumption)); (case k6 => with_unfolding_all rfl); k_whole)))
local macro_rules | `(tactic| k_units) => `(tactic| ((have hcL9 := cLine_is); (simp only [units_in1, units_deeper, Around.mark_units, ktrTop]); omega))
local macro_rules | `(tactic| k_room) => `(tactic| ((have hrL9 : recursionLimit = 1000 := rfl); (simp only [depth_mark, depth_under_make, depth_under_kw, depth_in1, depth_deeper, ktrTop]); omega))
local macro_rules | `(tactic| k_enter) => `(tactic| first
  | (refine' code_def ?k1 ?k2 ?k3 ?k4 ?k5 ?kA ?kF ?kK ?k6 ?k7 ?k8 ?k9 ?kB ?_ ?c2 ?c3 ?c4 ?c5; (case kA => exact rfl); (case kF => exact rfl); (case kK => first | exact rfl | assumption); (case k1 => k_asm); (case k2 => k_asm); (case k3 => k_asm); (case k4 => k_asm); (case k5 => k_asm); (case k6 => k_is); (case k7 => k_is); (case k8 => k_room); (case k9 => first | exact BindsTo.of_eq rfl | exact binds_K (by k_in) rfl (by k_is) rfl rfl rfl | fail "k_enter: no rule for these arguments"); (case c5 => decide); (case kB => exact locs rfl); (case c2 => exact rfl); (case c3 => exact rfl); (case c4 => exact rfl); k_whole; intro g' L' h' FG' F' N' B' X' T'; (try dsimp only); (try k_fold))
  | (refine' code_defC ?k1 ?k2 ?k3 ?k4 ?k5 ?kA ?kF ?kK ?k6 ?k7 ?k8 ?k9 ?kB ?kD ?_ ?c2 ?c3 ?c4; (case kA => exact rfl); (case kF => exact rfl); (case kK => first | exact rfl | assumption); (case k1 => k_asm); (case k2 => k_asm); (case k3 => k_asm); (case k4 => k_asm); (case k5 => k_asm); (case k6 => k_is); (case k7 => k_is); (case k8 => k_room); (case k9 => first | exact BindsTo.of_eq rfl | exact binds_K (by k_in) rfl (by k_is) rfl rfl rfl | fail "k_enter: no rule for these arguments"); (case kB => exact rfl); (case kD => decide +kernel); (case c2 => exact rfl); (case c3 => exact rfl); (case c4 => exact rfl); k_whole; intro g' L' h' tk' cells' FG' F' N' Y' B' X' T' l1; (try k_lt l1); k_cells Y'; (try simp only [List.cons_append, List.nil_append] at N'); (try dsimp only); (try k_fold)))
local macro_rules | `(tactic| walk_at "d_sub") => `(tactic| first | (refine' List.forall_mem_cons.mpr ⟨?ka, ?kb⟩; (case ka => k_mem); (case kb => walk_at "d_sub")) | (intro p hp; repeat (first | exact hp | refine List.Mem.tail _ ?_)))
local macro_rules | `(tactic| walk_at "d_sub") => `(tactic| first | (refine' List.forall_mem_cons.mpr ⟨?ka, ?kb⟩; (case ka => k_mem); (case kb => walk_at "d_sub")) | (intro p hp; repeat (first | exact hp | exact List.mem_append_right _ hp | refine List.Mem.tail _ ?_ | refine List.mem_append_right _ ?_)))
local macro_rules | `(tactic| walk_at "d_pick") => `(tactic| first | exact Pick.head _ | (refine' Pick.tail _ ?kc; (case kc => walk_at "d_pick")) | (refine' Pick.app _ ?kc; (case kc => walk_at "d_pick")))
local macro_rules | `(tactic| walk_at "d_bring") => `(tactic| first | exact Brings.nil _ | (refine' Brings.cons ?ka ?kb; (case ka => walk_at "d_pick"); (case kb => walk_at "d_bring")))
local macro_rules | `(tactic| walk_at "d_news") => `(tactic| (refine' newsBring ?ka ?kb; (case ka => assumption); (case kb => walk_at "d_bring")))
local macro_rules | `(tactic| walk_at "d_off") => `(tactic| first | assumption | (refine' List.forall_mem_cons.mpr ⟨?ka, ?kb⟩; (case ka => k_ne); (case kb => walk_at "d_off")))
local macro_rules | `(tactic| k_all) => `(tactic| (refine allLt_ne ?_; first | assumption | exact (‹_ ∧ AllLt _ _›).2 | exact (‹_ ∧ _ ∧ AllLt _ _›).2.2 | exact (‹_ ∧ _ ∧ _ ∧ AllLt _ _›).2.2.2 | exact (‹_ ∧ _ ∧ _ ∧ _ ∧ AllLt _ _›).2.2.2.2 | exact (‹_ ∧ _ ∧ _ ∧ _ ∧ _ ∧ AllLt _ _›).2.2.2.2.2))
local macro_rules | `(tactic| k_all) => `(tactic| walk_at "d_off")
local macro_rules | `(tactic| k_all) => `(tactic| assumption)
section
variable {prog p : Program} {w : World} {loose : List Str} {mean : ExcName → Option Value} {mg mb : Str → Option Value} {A₀ : Around} {base h₀ : Heap} {outer : List Env} {L : Addr} {m : Str → Option Value} {s : Shared}
  {dp un : Nat} {gd : Option (List Code)} {cn : Str} {cs : Scope} {a : Addr} {ccd : Value} {cl_ : List (Str × Addr)} {Q E : Value → Shared → Prop} {rest : List (Addr × Obj)}
  {rd rdd tl nd : Addr} {i n : Nat} {ti t1 t2 t3 tw : Tok} {vs : List Value} {ws : List Str} {x : Str}
theorem draw_c {src cl : Addr} {n nc : Nat} {at_ lim : Int} {ta tl : Tok} {ns : List Int} (B : Below A₀ base outer h₀) (F : Fr h₀ L s.heap m) (X : (hd.heap_1 w.params).In h₀) (T : Top p loose mean mg mb h₀) (hk : cs.kind = .function)
    (N : News h₀ L s.heap ((src, listOf #[.ref cl, .int at_ ta] n) :: rest)) (hd : dp + 100 < recursionLimit) (hu : un + 500 < cLine) (hcl : (cl, listOf vs.toArray nc) ∈ rest) (hvs : IntsAre vs ns) (hns : 0 < ns.length) (hn60 : ns.length ≤ 60) (h0 : 0 ≤ at_) (h1 : at_ < 10000) (hl0 : 0 < lim) (hl1 : lim < 100) (hoff : ∀ p ∈ rest, p.1 ≠ src)
    (ret : ∀ r tr ta' h' tk', 0 ≤ r → r < lim → Fr h₀ L h' m → News h₀ L h' ((src, listOf #[.ref cl, .int (at_ + 1) ta'] n) :: rest) → Q (.int r tr) { s with heap := h', toks := tk' }) :
    wpAny (model prog w) (ktrTop dp un gd cn cs L a ccd cl_ outer) (call (.ref 294) [.ref src, .int lim tl]) Q E s := by
  have hvl : vs.length = ns.length := hvs.length
  refine wpAny_call ?_
  k_dflt k_enter
  k_steps
  exact ret _ _ _ _ _ (Int.fmod_nonneg_of_pos _ hl0) (Int.fmod_lt_of_pos _ hl0) (by k_asm) (by k_asm)
end


theorem off1_of {D : Addr} : ∀ {l : List (Addr × Obj)}, (∀ p ∈ l, p.1 ≠ D) → LCg.Off1 D l
  | [], _ => trivial
  | q :: r, h => ⟨h q (.head _), off1_of fun p hp => h p (.tail _ hp)⟩
section
variable {prog : Program} {w : World} {A : Around} {E : Value → Shared → Prop} {s : Shared} {h₀ : Heap} {L : Addr} {news : List (Addr × Obj)}
theorem truthyNil {l : Addr} {n : Nat} {Q : Bool → Shared → Prop} (N : News h₀ L s.heap news) (hm : (l, listOf ([] : List Value).toArray n) ∈ news) (h : ∀ tk, Q false { s with toks := tk }) : wpAny (model prog w) A (truthy (.ref l)) Q E s :=
  truthyN N hm (by decide) (by simpa using h)
theorem truthyCons {l : Addr} {v : Value} {vs : List Value} {n : Nat} {Q : Bool → Shared → Prop} (N : News h₀ L s.heap news) (hm : (l, listOf (v :: vs).toArray n) ∈ news) (hz : ((v :: vs).length : Int) < 2 ^ 63) (h : ∀ tk, Q true { s with toks := tk }) : wpAny (model prog w) A (truthy (.ref l)) Q E s :=
  truthyN N hm hz (by simpa using h)
end
local macro_rules | `(tactic| walk_at "exec Assign cons ListComp") => `(tactic| walk_at "exec Assign")
local macro_rules | `(tactic| walk_at "eval ListComp") => `(tactic| (k_here; k_dflt (refine LCg.ListComp_U (F₀ := by k_asm) (by with_unfolding_all rfl) (by decide) (by rfl) (by decide) (by rfl) ?_)))
local macro_rules | `(tactic| walk_at "CompSrc") => `(tactic| (refine stop_ ?_))
local macro_rules | `(tactic| walk_at "CompEnd") => `(tactic| (refine stop_ ?_))
local macro_rules | `(tactic| walk_at "truthy ref") => `(tactic| (k_here; (with_reducible show wpAny _ _ (truthy (Value.ref _)) _ _ _); k_dflt (refine' truthyNil ?k1 ?k2 ?_; (case k1 => k_asm); (case k2 => k_mem)); (intro tk'; (try dsimp only); (try rw [if_neg Bool.false_ne_true]))))
local macro_rules | `(tactic| walk_at "truthy ref") => `(tactic| (k_here; (with_reducible show wpAny _ _ (truthy (Value.ref _)) _ _ _); k_dflt (refine' truthyCons ?k1 ?k2 ?k3 ?_; (case k1 => k_asm); (case k2 => k_mem); (case k3 => simp only [List.length_cons] at *; omega)); (intro tk'; (try dsimp only); (try rw [if_pos rfl]))))
section
variable {prog p : Program} {w : World} {loose : List Str} {mean : ExcName → Option Value} {mg mb : Str → Option Value} {A₀ : Around} {base h₀ : Heap} {outer : List Env} {L : Addr} {m : Str → Option Value} {s : Shared}
  {dp un : Nat} {gd : Option (List Code)} {cn : Str} {cs : Scope} {a : Addr} {ccd : Value} {cl_ : List (Str × Addr)} {Q E : Value → Shared → Prop} {rest : List (Addr × Obj)}
  {rd rdd tl nd : Addr} {i n : Nat} {ti t1 t2 t3 tw : Tok} {vs : List Value} {ws : List Str} {x : Str}
theorem source_c {sl : Addr} {svs : List Value} {sns : List Int} (B : Below A₀ base outer h₀) (F : Fr h₀ L s.heap m) (X : (hd.heap_1 w.params).In h₀) (T : Top p loose mean mg mb h₀) (hk : cs.kind = .function)
    (N : News h₀ L s.heap rest) (hd : dp + 100 < recursionLimit) (hu : un + 500 < cLine) (hl : h₀.IsList sl svs.toArray) (hi : IntsAre svs sns) (hlen : ¬ ((63 : Nat) : Int) < (sns.length : Int))
    (ret : ∀ src cl n nc vs ns ta h' tk', IntsAre vs ns → 0 < ns.length → ns.length ≤ 60 → Fr h₀ L h' m → News h₀ L h' ((src, listOf #[.ref cl, .int 0 ta] n) :: (cl, listOf vs.toArray nc) :: rest) → LCg.Off1 src ((cl, listOf vs.toArray nc) :: rest) → LCg.Off1 cl rest → Q (.ref src) { s with heap := h', toks := tk' }) :
    wpAny (model prog w) (ktrTop dp un gd cn cs L a ccd cl_ outer) (call (.ref 299) [.ref sl]) Q E s := by
  refine wpAny_call ?_
  k_dflt k_enter
  rename Fr h₀ L _ m => FG
  have hl2 := hl.at fun o e => FG.keep sl o e
  k_steps
  refine stop_to ?_
  with_reducible rename Fr _ _ _ _ => Fq
  rename News _ _ _ _ => Nq
  rename IntsAre _ (List.take 60 _) => Iq
  have hlen2 : (List.take 60 sns).length ≤ 60 := by rw [List.length_take]; omega
  refine LCg.CompSrc.ledger rfl Fq Nq (.head _) (by rw [sizeLine_eq, List.size_toArray, Iq.length]; omega) fun g => ?_
  refine' (?H : ∀ (j i : Nat) (ys : List Value) (ms : List Int), i + j = (List.take 60 sns).length → IntsAre ys ms → ms.length = i → LCg.CompRest ?a1 ?a2 ?a3 ?a4 ?a5 ?a6 ?a7 ?a8 ?a9 ?aA ?aB ?aC ?aD ?aE ?aF j i ys ?nw) _ 0 [] [] (by rw [List.size_toArray, Iq.length]; omega) .nil rfl
  intro j
  induction j with
  | zero =>
    intro i ys ms hi hy hm
    refine LCg.CompRest.zero ?_
    have hyl := hy.length
    rcases ys with _ | ⟨y, ys⟩
    · k_steps
      rename News h₀ L _ _ => kN
      have a1 := ‹_ ∧ _ ∧ _ ∧ AllLt _ rest›
      have a2 := ‹_ ∧ _ ∧ AllLt _ rest›
      refine' ret _ _ _ _ [.int 0 _] [0] _ _ _ (.cons _ _ .nil) (by decide) (by decide) ?kF ?kN ?k1 ?k2
      (case kF => k_asm)
      (case kN =>
        refine newsSub kN (List.forall_mem_cons.mpr ⟨?_, List.forall_mem_cons.mpr ⟨?_, ?_⟩⟩)
        · exact .head _
        · refine List.Mem.tail _ ?_; exact .head _
        · exact fun p hp => .tail _ (.tail _ (.tail _ (.tail _ hp))))
      (case k1 => exact off1_of (allLt_ne (l := _ :: rest) ⟨a1.1, a1.2.2.2⟩))
      (case k2 => exact off1_of (allLt_ne a2.2.2))
    · k_steps
      rename News h₀ L _ _ => kN
      have a2 := ‹_ ∧ _ ∧ AllLt _ rest›
      have o1 := ‹_ ∧ LCg.Off1 _ _›
      refine' ret _ _ _ _ _ _ _ _ _ hy ?k3 ?k4 ?kF ?kN ?k1 ?k2
      (case kF => k_asm)
      (case kN =>
        refine newsSub kN (List.forall_mem_cons.mpr ⟨?_, List.forall_mem_cons.mpr ⟨?_, ?_⟩⟩)
        · exact .head _
        · refine List.Mem.tail _ ?_; exact .head _
        · exact fun p hp => .tail _ (.tail _ (.tail _ hp)))
      (case k3 => simp only [List.length_cons] at hyl; omega)
      (case k4 => omega)
      (case k1 => exact off1_of (allLt_ne (l := _ :: rest) ⟨a2.1, a2.2.2⟩))
      (case k2 => exact o1.2)
  | succ j ih =>
    intro i ys ms hi hy hm
    refine LCg.CompRest.succ ?_
    intro v I oI C oC D m₂ h tk E' hv hC' hx' F' N' off ne
    obtain ⟨k, t9, rfl, hk9⟩ := Iq.at i v (by simpa using hv)
    k_steps
    refine stop_to ?_
    with_reducible rename News _ _ _ _ => Nz
    with_reducible rename Fr _ _ _ _ => Fz
    refine' LCg.CompEnd.intro Fz Nz ?nn ?sub ?off ?S ?r
    (case r => exact ih (i + 1) _ (ms ++ [k]) (by omega) (hy.append (.cons _ _ .nil)) (by simp [hm]))
    (case sub => walk_at "d_sub")
    (case off => exact ⟨off.1, off.2⟩)
    (case S => exact .inr ⟨_, .head _, rfl, _, rfl⟩)
end


abbrev strLost : Str := Str.ofString "lost"
abbrev strLevel : Str := Str.ofString "level"
/-- the frame of the law's loops: what they store, and the rest -/
abbrev cf (l v : Option Value) (m₀ : Str → Option Value) : Str → Option Value := fun y => if y = Str.ofString "lost" then l else if y = Str.ofString "level" then v else m₀ y
theorem cf_fr {h₀ h : Heap} {L : Addr} {m : Str → Option Value} {l v : Option Value} (F : Fr h₀ L h m) (h1 : m (Str.ofString "lost") = l) (h2 : m (Str.ofString "level") = v) : Fr h₀ L h (cf l v m) := by
  have e : cf l v m = m := by
    funext y
    simp only [cf]
    split
    · rename_i q; rw [q]; exact h1.symm
    · split
      · rename_i q; rw [q]; exact h2.symm
      · rfl
  rw [e]; exact F
theorem top_to {prog : Program} {w : World} {α : Type} {cn : Str} {cs : Scope} {L a : Addr} {ccd : Value} {cl : List (Str × Addr)} {x : Sem α} {Q : α → Shared → Prop} {E : Value → Shared → Prop} {s : Shared}
    (h : ∀ dp un, dp + 450 < recursionLimit → un + 3100 < cLine → wpAny (model prog w) (ktrTop dp un (some []) cn cs L a ccd cl []) x Q E s) : wpAny (model prog w) (callerA.deeper (envX cn cs L a ccd cl)) x Q E s :=
  h (1 + claimMargin + 1) 7 (by decide) (by rw [cLine_is]; decide)
/-- the small statements of the levels, each a list in the ledger -/
inductive ManyIn (news : List (Addr × Obj)) : List Value → List (List Str) → Prop
  | nil : ManyIn news [] []
  | cons {a : Addr} {vs : List Value} {n : Nat} {us : List Value} {m : List Str} {ms : List (List Str)} : (a, listOf vs.toArray n) ∈ news → StrsOf vs m → ManyIn news us ms → ManyIn news (.ref a :: us) (m :: ms)
theorem ManyIn.mono {news news' : List (Addr × Obj)} {us : List Value} {ms : List (List Str)} (h : ManyIn news us ms) (s : ∀ p ∈ news, p ∈ news') : ManyIn news' us ms := by
  induction h with
  | nil => exact .nil
  | cons a b _ ih => exact .cons (s _ a) b ih
theorem ManyIn.snoc {news : List (Addr × Obj)} {us : List Value} {ms : List (List Str)} {a : Addr} {vs : List Value} {n : Nat} {m : List Str} (h : ManyIn news us ms) (hm : (a, listOf vs.toArray n) ∈ news) (hs : StrsOf vs m) : ManyIn news (us ++ [.ref a]) (ms ++ [m]) := by
  induction h with
  | nil => exact .cons hm hs .nil
  | cons a b _ ih => exact .cons a b ih
theorem ManyIn.length {news : List (Addr × Obj)} {us : List Value} {ms : List (List Str)} (h : ManyIn news us ms) : us.length = ms.length := by
  induction h with
  | nil => rfl
  | cons _ _ _ ih => simp [ih]
theorem ManyIn.get {news : List (Addr × Obj)} {us : List Value} {ms : List (List Str)} (h : ManyIn news us ms) : ∀ {i : Nat} {m : List Str}, ms[i]? = some m → ∃ a vs n, us[i]? = some (.ref a) ∧ (a, listOf vs.toArray n) ∈ news ∧ StrsOf vs m := by
  induction h with
  | nil => intro i m hi; cases i <;> cases hi
  | cons a b _ ih =>
    intro i m hi
    cases i with
    | zero => cases hi; exact ⟨_, _, _, rfl, a, b⟩
    | succ i => exact ih hi
theorem StrsOf.append {vs us : List Value} {x y : List Str} (h : StrsOf vs x) (k : StrsOf us y) : StrsOf (vs ++ us) (x ++ y) := by
  induction h with
  | nil => exact k
  | cons z t _ ih => exact .cons z t ih
/-- the words ahead of the closing ones -/
def pre : List (List Str) → List Str
  | [] => []
  | m :: ms => Str.ofString "IF" :: (m ++ pre ms)
theorem pre_snoc (ms : List (List Str)) (m : List Str) : pre (ms ++ [m]) = pre ms ++ [Str.ofString "IF"] ++ m := by
  induction ms with
  | nil => simp [pre]
  | cons a r ih => simp only [List.cons_append, pre, ih]; simp
theorem pre_len : ∀ (ms : List (List Str)), (∀ m ∈ ms, m.length ≤ 2 ∧ ∀ x ∈ m, Sm x) → (pre ms).length ≤ 3 * ms.length
  | [], _ => Nat.le_refl _
  | m :: ms, h => by
    have := pre_len ms fun m hm => h m (.tail _ hm)
    have := (h m (.head _)).1
    simp only [pre, List.length_cons, List.length_append]
    omega
/-- what the law's first loop makes of lost -/
def lostStep (d : Int) (i : Nat) (m : List Str) (o : Option Nat) : Option Nat := match o with
  | some j => some j
  | none => if 12 < d then some i else if m ≠ [] ∧ 12 < d + 1 then some (i + 1) else none
def lostR (d : Int) (i : Nat) (o : Option Nat) : List (List Str) → Option Nat
  | [] => o
  | m :: ms => lostR (d + 1) (i + 1 + m.length) (lostStep d i m o) ms
theorem lostR_snoc (m : List Str) : ∀ (ms : List (List Str)) (d : Int) (i : Nat) (o : Option Nat), lostR d i o (ms ++ [m]) = lostStep (d + ms.length) (i + (pre ms).length) m (lostR d i o ms)
  | [], d, i, o => by simp [lostR, pre]
  | a :: r, d, i, o => by
    simp only [List.cons_append, lostR, lostR_snoc m r, pre, List.length_cons, List.length_append]
    congr 1
    · omega
    · omega
theorem lostR_some (j : Nat) : ∀ (ms : List (List Str)) (d : Int) (i : Nat), lostR d i (some j) ms = some j
  | [], _, _ => rfl
  | _ :: r, _, _ => lostR_some j r _ _
theorem lostR_at : ∀ (ms : List (List Str)) (m : List Str) (d : Int) (i : Nat), lostR d i none (m :: ms) = lostAt d i m ms
  | [], m, d, i => by
    simp only [lostR, lostStep, lostAt, lostBody]
  | m' :: ms, m, d, i => by
    have ih := lostR_at ms m' (d + 1) (i + 1 + m.length)
    show lostR (d + 1) (i + 1 + m.length) (lostStep d i m none) (m' :: ms) = _
    simp only [lostStep, lostAt, lostBody]
    split
    · exact lostR_some _ _ _ _
    · split
      · exact lostR_some _ _ _ _
      · rw [ih, lostAt]
def LostV (o : Option Nat) (v : Value) : Prop := match o with
  | none => v = .none
  | some j => ∃ t, v = .int (j : Int) t
theorem small_nat {h : Heap} {r : Addr} {x : Int} {t u v : Tok} (_ : IsRange h r 0 x 1 t u v) (h0 : 0 ≤ x) (h1 : x < 3) :
    ∃ c : Nat, Builtin.Range.rangeSize 0 x 1 = (c : Int) ∧ Builtin.Range.small 0 x 1 = true ∧ c ≤ 2 :=
  ⟨(x - 0).toNat, rangeSize_nat _ _, small_one (by omega) (by omega) (by omega) (by omega), by omega⟩
theorem count_nat {h : Heap} {r : Addr} {x : Int} {t u v : Tok} (_ : IsRange h r 0 (1 + x) 1 t u v) (h0 : 0 ≤ x) (h1 : x < 15) :
    ∃ c : Nat, Builtin.Range.rangeSize 0 (1 + x) 1 = (c : Int) ∧ Builtin.Range.small 0 (1 + x) 1 = true ∧ 1 + x = (c : Int) ∧ 1 ≤ c ∧ c ≤ 15 :=
  ⟨(1 + x - 0).toNat, rangeSize_nat _ _, small_one (by omega) (by omega) (by omega) (by omega), by omega, by omega, by omega⟩
section
variable {prog : Program} {w : World} {A : Around} {E : Value → Shared → Prop} {s : Shared} {h₀ : Heap} {L : Addr} {news : List (Addr × Obj)}
theorem itemTup {value slice : PySem.Expr} {l : Addr} {vs : List Value} {n : Nat} {k : Int} {u : Tok} {Q : Value → Shared → Prop} (P : Value → Prop) (N : News h₀ L s.heap news) (hm : (l, tupOf vs n) ∈ news)
    (h0 : 0 ≤ k) (h1 : k < (vs.length : Int)) (hfit : k < 2 ^ 63) (hP : ∀ v ∈ vs, P v) (h : ∀ v, P v → Q v s)
    (hs : subscripted slice false (.ref l) (.int k u) = operate [.ref l, .int k u] (getItem (.ref l) (.int k u)) := by with_unfolding_all rfl) :
    wpAny (model prog w) A (subscriptTail value slice (.ref l) (.int k u)) Q E s := by
  have ht := News.isTup N hm
  have hlt : k.toNat < vs.length := by omega
  have hn : k < ((vs.toArray.size : Nat) : Int) := by rw [List.size_toArray]; exact h1
  exact tail_any ht.typeIs slot_tuple_getitem.lookup (getItem_tuple ht (by omega) hfit (seqIndex_of h0 hn) (x := vs[k.toNat]) (by simp [hlt]) (h _ (hP _ (List.getElem_mem hlt)))) hs
def DepthV (v : Value) : Prop := ∃ d t, v = .int d t ∧ 0 ≤ d ∧ d ≤ 13
def SmallV (v : Value) : Prop := ∃ x t, v = .str x t ∧ Sm x
def OddV (v : Value) : Prop := ∃ x t, v = .str x t ∧ isVerb x = false
end
section
variable {prog : Program} {w : World} {A : Around} {E : Value → Shared → Prop} {s : Shared} {h₀ : Heap} {L : Addr} {m : Str → Option Value} {news : List (Addr × Obj)}
theorem itemLast {value slice : PySem.Expr} {l : Addr} {vs : List Value} {v : Value} {n : Nat} {k : Int} {u : Tok} {Q : Value → Shared → Prop} (hk : k = -1) (N : News h₀ L s.heap news) (hm : (l, listOf (vs ++ [v]).toArray n) ∈ news) (h : Q v s)
    (hs : subscripted slice false (.ref l) (.int k u) = operate [.ref l, .int k u] (getItem (.ref l) (.int k u)) := by with_unfolding_all rfl) :
    wpAny (model prog w) A (subscriptTail value slice (.ref l) (.int k u)) Q E s := by
  have hl := News.isList N hm
  refine tail_any hl.typeIs slot_list_getitem.lookup (wpAny_getItem_list_neg hl (by omega) ?_ (by omega) ?_ h) hs
  · rw [List.size_toArray, List.length_append, List.length_singleton]; omega
  · have e : (k + (((vs ++ [v]).toArray.size : Nat) : Int)).toNat = vs.length := by rw [List.size_toArray, List.length_append, List.length_singleton]; omega
    rw [e]
    simp
theorem itemAt {value slice : PySem.Expr} {l : Addr} {vs : List Value} {v : Value} {n : Nat} {k : Int} {j : Nat} {u : Tok} {Q : Value → Shared → Prop} (hk : k = (j : Int)) (hj : j < 10000) (N : News h₀ L s.heap news) (hm : (l, listOf vs.toArray n) ∈ news) (hv : vs[j]? = some v) (h : Q v s)
    (hs : subscripted slice false (.ref l) (.int k u) = operate [.ref l, .int k u] (getItem (.ref l) (.int k u)) := by with_unfolding_all rfl) :
    wpAny (model prog w) A (subscriptTail value slice (.ref l) (.int k u)) Q E s :=
  itemN N hm (by omega) (by omega) (by rw [show k.toNat = j by omega]; exact hv) h hs
theorem extendN {l b : Addr} {vs us : List Value} {n n2 : Nat} {Q : Value → Shared → Prop} (F : Fr h₀ L s.heap m) (N : News h₀ L s.heap ((l, listOf vs.toArray n) :: news)) (hb : (b, listOf us.toArray n2) ∈ news) (hoff : ∀ p ∈ news, p.1 ≠ l) (hz : vs.length + us.length ≤ 10000)
    (h : ∀ h' n', Fr h₀ L h' m → News h₀ L h' ((l, listOf (vs ++ us).toArray n') :: news) → Q .none { s with heap := h' }) : wpAny (model prog w) A (call (.builtin "list.extend") [.ref l, .ref b]) Q E s := by
  have hd : ¬(!vs.toArray.isEmpty && Builtin.List.listTooLong (vs.toArray.size + us.toArray.size)) = true := by
    simp only [Builtin.List.listTooLong, List.size_toArray, Bool.and_eq_true, not_and]
    intro _ q
    have := of_decide_eq_true q
    rw [sizeLine_eq] at this
    omega
  rcases us with _ | ⟨u, us⟩
  · exact kxn_extend F N (.tail _ hb) rfl (Upd.head hoff) hd (by rw [sizeLine_eq]; simp; omega) (by rw [sizeLine_eq]; simp; omega) fun h' F' N' => h h' n F' (by simpa using N')
  · exact kl_extend (l := vs ++ u :: us) F N (.tail _ hb) (by simp) (by simp) (Upd.head hoff) hd (by rw [sizeLine_eq]; simp; omega) (by rw [sizeLine_eq]; simp at hz ⊢; omega) fun h' F' N' => h h' (n + 1) F' N'
theorem mulN {l : Addr} {v : Value} {n : Nat} {x : Int} {u : Tok} {Q : Value → Shared → Prop} (F : Fr h₀ L s.heap m) (N : News h₀ L s.heap news) (hm : (l, listOf [v].toArray n) ∈ news) (h0 : 0 ≤ x) (h1 : x ≤ 100)
    (h : ∀ D h', Fr h₀ L h' m → News h₀ L h' ((D, listOf (List.replicate x.toNat v).toArray 0) :: news) → AllLt D news → Q (.ref D) { s with heap := h' }) : wpAny (model prog w) A (binaryOp .Mult (.ref l) (.int x u)) Q E s :=
  KMa.mul F N (News.isList N hm) (by omega) (by omega) (by simp; omega) (by simp) fun D h' F' N' lt => h D h' F' N' (allLt_of lt)
theorem addL {a b : Addr} {vs us : List Value} {n n2 : Nat} {Q : Value → Shared → Prop} (F : Fr h₀ L s.heap m) (N : News h₀ L s.heap news) (ha : (a, listOf vs.toArray n) ∈ news) (hb : (b, listOf us.toArray n2) ∈ news) (hz : vs.length + us.length ≤ 10000)
    (h : ∀ D h', Fr h₀ L h' m → News h₀ L h' ((D, listOf (vs ++ us).toArray 0) :: news) → AllLt D news → Q (.ref D) { s with heap := h' }) : wpAny (model prog w) A (binaryOp .Add (.ref a) (.ref b)) Q E s :=
  kmk_add_lit F N (News.isList N ha) (News.isList N hb) rfl (fun D h' F' N' lt => h D h' F' N' (allLt_of lt)) (by rw [sizeLine_eq]; simpa using (show vs.length + us.length ≤ _ by omega))
/-- two tuples put together: a new one, or one of the two -/
theorem addTD {t b : Addr} {ds es : List Dat} {led : List (Addr × Obj)} {Q : Value → Shared → Prop} (F : Fr h₀ L s.heap m) (N : News h₀ L s.heap news) (sub : ∀ p ∈ led, p ∈ news) (ht : DatIn led (.ref t) (.tuple ds)) (hb : DatIn led (.ref b) (.tuple es)) (hz : ds.length + es.length ≤ 10000)
    (h : ∀ v ex h', Fr h₀ L h' m → News h₀ L h' (ex ++ news) → (∀ p ∈ ex, p.2.cls = .type "tuple") → DatIn (ex ++ led) v (.tuple (ds ++ es)) → Q v { s with heap := h' }) : wpAny (model prog w) A (binaryOp .Add (.ref t) (.ref b)) Q E s := by
  cases ht with
  | @tuple _ vs n _ hmt hvs =>
    cases hb with
    | @tuple _ us n2 _ hmb hus =>
      have lv := hvs.length
      have lu := hus.length
      have T := News.isTup N (sub _ hmt)
      have U := News.isTup N (sub _ hmb)
      rcases vs with _ | ⟨v, vs⟩
      · cases hvs
        exact kde_addT0 F N T U rfl (by simp; omega) (h _ [] _ F N (fun _ h => nomatch h) (.tuple hmb hus))
      · rcases us with _ | ⟨u, us⟩
        · cases hus
          rw [List.append_nil] at h
          exact kde_addT1 F N T U (by simp) rfl (by simp at lv ⊢; omega) (h _ [] _ F N (fun _ h => nomatch h) (.tuple hmt hvs))
        · refine kde_addT (zs := (v :: vs) ++ (u :: us)) F N T U (by simp) (by simp) (by simp at lv lu ⊢; omega) rfl fun D h' F' N' lt => ?_
          refine h (.ref D) [(D, _)] h' F' N' (fun p hp => ?_) (.tuple (n := 0) (.head _) ((hvs.mono fun p hp => .tail _ hp).append (hus.mono fun p hp => .tail _ hp)))
          rw [List.mem_singleton.mp hp]
end
theorem cf_lev {V l : Option Value} {v : Option Value} {M : Str → Option Value} : (fun y => if y = Str.ofString "level" then V else cf l v M y) = cf l V M := by
  funext y
  by_cases h1 : y = Str.ofString "lost"
  · have h2 : ¬ y = Str.ofString "level" := by rw [h1]; decide
    simp only [cf, if_pos h1, if_neg h2]
  · by_cases h2 : y = Str.ofString "level"
    · simp only [cf, if_neg h1, if_pos h2]
    · simp only [cf, if_neg h1, if_neg h2]
theorem cf_lost {x V l : Option Value} {v : Option Value} {M : Str → Option Value} : (fun y => if y = Str.ofString "lost" then x else if y = Str.ofString "level" then V else cf l v M y) = cf x V M := by
  funext y
  by_cases h1 : y = Str.ofString "lost"
  · simp only [cf, if_pos h1]
  · by_cases h2 : y = Str.ofString "level"
    · simp only [cf, if_neg h1, if_pos h2]
    · simp only [cf, if_neg h1, if_neg h2]
abbrev df (l v : Option Value) (m₀ : Str → Option Value) : Str → Option Value := fun y => if y = Str.ofString "due" then l else if y = Str.ofString "level" then v else m₀ y
theorem df_fr {h₀ h : Heap} {L : Addr} {m : Str → Option Value} {l v : Option Value} (F : Fr h₀ L h m) (h1 : m (Str.ofString "due") = l) (h2 : m (Str.ofString "level") = v) : Fr h₀ L h (df l v m) := by
  have e : df l v m = m := by
    funext y
    simp only [df]
    split
    · rename_i q; rw [q]; exact h1.symm
    · split
      · rename_i q; rw [q]; exact h2.symm
      · rfl
  rw [e]; exact F
theorem df_due {x V l : Option Value} {v : Option Value} {M : Str → Option Value} : (fun y => if y = Str.ofString "due" then x else if y = Str.ofString "level" then V else df l v M y) = df x V M := by
  funext y
  by_cases h1 : y = Str.ofString "due"
  · simp only [df, if_pos h1]
  · by_cases h2 : y = Str.ofString "level"
    · simp only [df, if_neg h1, if_pos h2]
    · simp only [df, if_neg h1, if_neg h2]
theorem KrsRest.frame {prog : Program} {w : World} {A : Around} {E : Value → Shared → Prop} {h₀ : Heap} {env : Env} {x : Str} {body : List Stmt} {Q : Flow → Shared → Prop} {s : Shared} {I : Addr} {a c : Int} {n k i : Nat} {m m' : Str → Option Value} {news : List (Addr × Obj)}
    (e : m' = m) (h : KrsRest prog w A E h₀ env x body Q s I a c n k i m news) : KrsRest prog w A E h₀ env x body Q s I a c n k i m' news := e ▸ h
/-- what the second loop makes of the levels that it has gone through -/
def dueD : List (List Str) → List Dat
  | [] => []
  | m :: ms => bodyDs m ms
theorem dueD_last (m : List Str) : dueD [m] = m.map (fun x => .tuple [.str x]) ++ [] := by simp [dueD, bodyDs]
theorem dueD_more (m m' : List Str) (ms : List (List Str)) : dueD (m :: m' :: ms) = m.map (fun x => .tuple [.str x]) ++ [.tuple [.str (Str.ofString "IF"), .tuple (dueD (m' :: ms))]] := rfl
def isTup (p : Addr × Obj) : Prop := p.2.cls = .type "tuple"
theorem tupOff {h₀ h : Heap} {L : Addr} {l : List (Addr × Obj)} {b : Addr} {o : Obj} {ex : List (Addr × Obj)} (N : News h₀ L h l) (hb : (b, o) ∈ l) (ho : o.cls ≠ .type "tuple") (hs : ∀ p ∈ ex, p ∈ l) (ht : ∀ p ∈ ex, isTup p) : ∀ p ∈ ex, p.1 ≠ b := by
  intro p hp z
  have e := (N p (hs p hp)).1
  rw [z, (N _ hb).1] at e
  cases e
  exact ho (ht p hp)
theorem down_nat {h : Heap} {r : Addr} {x : Int} {c : Nat} {t u v : Tok} (_ : IsRange h r (1 + x - 1) (-1) (-1) t u v) (hc : 1 + x = (c : Int)) (h15 : c ≤ 15) :
    Builtin.Range.rangeSize (1 + x - 1) (-1) (-1) = (c : Int) ∧ Builtin.Range.small (1 + x - 1) (-1) (-1) = true :=
  ⟨by rw [rangeSize_downNat]; omega, small_down (by omega) (by omega) (by omega) (by omega)⟩
theorem memOf {h₀ h : Heap} {L : Addr} {l : List (Addr × Obj)} {p : Addr × Obj} (_ : News h₀ L h l) (m : p ∈ l) : p ∈ l := m
theorem RangeRest.frame {prog : Program} {w : World} {A : Around} {E : Value → Shared → Prop} {h₀ : Heap} {env : Env} {x : Str} {body : List Stmt} {Q : Flow → Shared → Prop} {s : Shared} {I : Addr} {a : Int} {n k i : Nat} {m m' : Str → Option Value} {news : List (Addr × Obj)}
    (e : m' = m) (h : RangeRest prog w A E h₀ env x body Q s I a n k i m news) : RangeRest prog w A E h₀ env x body Q s I a n k i m' news := e ▸ h
section
variable {prog : Program} {w : World} {A : Around} {E : Value → Shared → Prop} {s : Shared} {h₀ : Heap} {L : Addr} {news : List (Addr × Obj)}
theorem eqvD {a b : Value} {d : Dat} {n : Nat} (N : News h₀ L s.heap news) (ha : DatIn news a d) (hb : DatIn news b d) (hd : kqdOk n d = true) (hn : n ≤ 64) :
    ∃ as bs, Reads s.heap a (kqdP d) as ∧ Reads s.heap b (kqdP d) bs ∧ SeqAt.shaped (kqdP d) = true ∧ PyData.eqv (kqdP d) (kqdP d) = true := by
  obtain ⟨as, ra⟩ := kqd_in N n ha hd
  obtain ⟨bs, rb⟩ := kqd_in N n hb hd
  have la := kqd_lay n d hd
  refine ⟨as, bs, ra, rb, ?_, (kqd_eqv n d d n hd hd).mpr rfl⟩
  unfold SeqAt.shaped
  rw [la.1, Bool.true_and]
  exact decide_eq_true (Nat.le_trans la.2 hn)
theorem eqD {a b : Value} {d e : Dat} {n : Nat} {Q : Value → Shared → Prop} (N : News h₀ L s.heap news) (ha : DatIn news a d) (hb : DatIn news b e) (q : d = e) (hd : kqdOk n d = true) (hn : n ≤ 64) (hu : A.units + 64 < cLine) (h : Q (.bool true) s) : wpAny (model prog w) A (compareOp .Eq a b) Q E s := by
  subst q
  obtain ⟨as, bs, ra, rb, hs, hv⟩ := eqvD N ha hb hd hn
  exact eq_dataH ra rb hs hs hu (by rw [hv]; exact h)
theorem neD {a b : Value} {d e : Dat} {n : Nat} {Q : Value → Shared → Prop} (N : News h₀ L s.heap news) (ha : DatIn news a d) (hb : DatIn news b e) (q : d = e) (hd : kqdOk n d = true) (hn : n ≤ 64) (hu : A.units + 64 < cLine) (h : Q (.bool false) s) : wpAny (model prog w) A (compareOp .NotEq a b) Q E s := by
  subst q
  obtain ⟨as, bs, ra, rb, hs, hv⟩ := eqvD N ha hb hd hn
  exact ne_dataH ra rb hs hs hu (by rw [hv]; exact h)
end
theorem appFlip {h₀ h : Heap} {L : Addr} {a : Addr × Obj} {ex rest : List (Addr × Obj)} (N : News h₀ L h (a :: (ex ++ rest))) : News h₀ L h (a :: (rest ++ ex)) :=
  newsSub N (List.forall_mem_cons.mpr ⟨.head _, fun _ hp => .tail _ ((List.mem_append.mp hp).elim (List.mem_append_right _) (List.mem_append_left _))⟩)
theorem verb_ok {x : Str} (h : isVerb x = true) : PyData.strOk x = true := by
  obtain ⟨y, hy, e⟩ := List.any_eq_true.mp h
  have : verbs.all PyData.strOk = true := by decide +kernel
  have e' : y = x := eq_of_beq e
  exact e' ▸ List.all_eq_true.mp this y hy
theorem body_ok : ∀ (ms : List (List Str)) (m : List Str) (n : Nat), 2 * ms.length + 1 ≤ n → (∀ x ∈ m, Sm x) → (∀ m ∈ ms, ∀ x ∈ m, Sm x) → (bodyDs m ms).all (kqdOk n) = true
  | [], m, n, hn, hm, _ => by
    obtain ⟨k, rfl⟩ : ∃ k, n = k + 1 := ⟨n - 1, by omega⟩
    rw [bodyDs, List.all_eq_true]
    intro d hd
    obtain ⟨x, hx, rfl⟩ := List.mem_map.mp hd
    simp only [kqdOk, List.all_cons, List.all_nil, Bool.and_true]
    exact verb_ok (hm x hx).1
  | m' :: ms, m, n, hn, hm, hs => by
    obtain ⟨k, rfl⟩ : ∃ k, n = k + 2 := ⟨n - 2, by simp at hn; omega⟩
    have ih := body_ok ms m' k (by simp at hn; omega) (hs m' (.head _)) fun m hm => hs m (.tail _ hm)
    rw [bodyDs, List.all_append, Bool.and_eq_true]
    constructor
    · rw [List.all_eq_true]
      intro d hd
      obtain ⟨x, hx, rfl⟩ := List.mem_map.mp hd
      simp only [kqdOk, List.all_cons, List.all_nil, Bool.and_true]
      exact verb_ok (hm x hx).1
    · simp only [kqdOk, List.all_cons, List.all_nil, Bool.and_true, Bool.and_eq_true]
      exact ⟨by decide +kernel, ih⟩
theorem flat_pre : ∀ ms : List (List Str), flat ms = pre ms ++ List.replicate ms.length (Str.ofString "END-IF")
  | [] => rfl
  | m :: ms => by
    rw [flat, flat_pre ms, pre, List.length_cons]
    rw [List.replicate_succ']
    simp
theorem strsRep (t : Tok) (x : Str) : ∀ n : Nat, StrsOf (List.replicate n (.str x t)) (List.replicate n x)
  | 0 => .nil
  | n + 1 => .cons x t (strsRep t x n)
theorem tabCode {base h : Heap} {L : Addr} {news : List (Addr × Obj)} {ps : Array Value} (_ : News base L h news) (t : TabOk ps news) : ∃ ex, (∀ p ∈ ex, p ∈ news) ∧ (∀ p ∈ ex, (∃ vs, p.2.data = .fields vs) ∧ p.2 ≠ tabObj ps) ∧ TabOk ps ex := by
  rcases t with t | ⟨c', oc, vs, t, e, hm, hd, hv⟩
  · exact ⟨[], fun _ h => (nomatch h), fun _ h => (nomatch h), .inl t⟩
  · refine ⟨[(c', oc)], fun p hp => List.mem_singleton.mp hp ▸ hm, fun p hp => List.mem_singleton.mp hp ▸ ⟨⟨vs, hd⟩, fun q => ?_⟩, .inr ⟨c', oc, vs, t, e, .head _, hd, hv⟩⟩
    dsimp only at q
    subst q
    cases hd
    subst e
    cases hv
theorem codeOff {h₀ h : Heap} {L : Addr} {l : List (Addr × Obj)} {ps : Array Value} {ex : List (Addr × Obj)} (N : News h₀ L h l) (hb : (38, tabObj ps) ∈ l) (hs : ∀ p ∈ ex, p ∈ l) (ht : ∀ p ∈ ex, (∃ vs, p.2.data = .fields vs) ∧ p.2 ≠ tabObj ps) : ∀ p ∈ ex, p.1 ≠ 38 := by
  intro p hp z
  have e := (N p (hs p hp)).1
  rw [z, (N _ hb).1] at e
  exact (ht p hp).2 (Option.some.inj e).symm
theorem objOff {h₀ h : Heap} {L : Addr} {l : List (Addr × Obj)} {a b : Addr} {o o' : Obj} (N : News h₀ L h l) (hb : (b, o) ∈ l) (hm : (a, o') ∈ l) (ho : o'.cls ≠ o.cls) : a ≠ b := by
  intro z
  have e := (N _ hm).1
  dsimp only at e
  rw [z, (N _ hb).1] at e
  exact ho (congrArg Obj.cls (Option.some.inj e)).symm
theorem sixth {h₀ h : Heap} {L : Addr} {a b c d e x : Addr × Obj} {r : List (Addr × Obj)} (_ : News h₀ L h (a :: b :: c :: d :: e :: x :: r)) : ∃ z, z = x := ⟨x, rfl⟩
theorem wlOf {h₀ h : Heap} {L : Addr} {a : Addr × Obj} {b : Addr} {ws : List Value} {v : Value} {k n : Nat} {r : List (Addr × Obj)} (_ : News h₀ L h (a :: (b, listOf (ws ++ List.replicate k v).toArray n) :: r)) : ∃ z W c, z = b ∧ W = ws ++ List.replicate k v ∧ c = n := ⟨_, _, _, rfl, rfl, rfl⟩
theorem fieldsOff {ps : Array Value} {h₀ h : Heap} {L : Addr} {l : List (Addr × Obj)} {b : Addr} {o : Obj} {ex : List (Addr × Obj)} (N : News h₀ L h l) (hb : (b, o) ∈ l) (ho : ∀ vs, o.data ≠ .fields vs) (hs : ∀ p ∈ ex, p ∈ l) (ht : ∀ p ∈ ex, (∃ vs, p.2.data = .fields vs) ∧ p.2 ≠ tabObj ps) : ∀ p ∈ ex, p.1 ≠ b := by
  intro p hp z
  have e := (N p (hs p hp)).1
  rw [z, (N _ hb).1] at e
  cases e
  obtain ⟨⟨vs, q⟩, _⟩ := ht p hp
  exact ho vs q
section
variable {prog : Program} {w : World} {A : Around} {E : Value → Shared → Prop} {s : Shared} {h₀ : Heap} {L : Addr} {m : Str → Option Value}
theorem dueStep {T b : Addr} {ys us : List Value} {n n2 : Nat} {ds es : List Dat} {exB exC r all : List (Addr × Obj)} {Q : Value → Shared → Prop} (F : Fr h₀ L s.heap m) (N : News h₀ L s.heap all) (hT : (T, tupOf ys n) ∈ all) (hb : (b, tupOf us n2) ∈ all) (sC : ∀ p ∈ exC, p ∈ all) (sB : ∀ p ∈ exB, p ∈ all) (sr : ∀ p ∈ r, p ∈ all)
    (hB : DatAll exB ys ds) (hC : DatAll exC us es) (tB : ∀ p ∈ exB, isTup p) (tC : ∀ p ∈ exC, isTup p) (hz : ds.length + es.length ≤ 10000)
    (h : ∀ v ex h', Fr h₀ L h' m → News h₀ L h' (ex ++ r) → (∀ p ∈ ex, isTup p) → DatIn ex v (.tuple (ds ++ es)) → Q v { s with heap := h' }) : wpAny (model prog w) A (binaryOp .Add (.ref T) (.ref b)) Q E s := by
  have sl : ∀ p ∈ (T, tupOf ys n) :: (b, tupOf us n2) :: (exB ++ exC), p ∈ all := List.forall_mem_cons.mpr ⟨hT, List.forall_mem_cons.mpr ⟨hb, List.forall_mem_append.mpr ⟨sB, sC⟩⟩⟩
  refine addTD F N sl (.tuple (.head _) (hB.mono fun p hp => .tail _ (.tail _ (List.mem_append_left _ hp)))) (.tuple (.tail _ (.head _)) (hC.mono fun p hp => .tail _ (.tail _ (List.mem_append_right _ hp)))) hz fun v ex h' F' N' t' D' => ?_
  refine h v (ex ++ ((T, tupOf ys n) :: (b, tupOf us n2) :: (exB ++ exC))) h' F' (newsSub N' fun p hp => ?_) (List.forall_mem_append.mpr ⟨t', List.forall_mem_cons.mpr ⟨rfl, List.forall_mem_cons.mpr ⟨rfl, List.forall_mem_append.mpr ⟨tB, tC⟩⟩⟩⟩) D'
  rcases List.mem_append.mp hp with hp | hp
  · rcases List.mem_append.mp hp with hp | hp
    · exact List.mem_append_left _ hp
    · exact List.mem_append_right _ (sl p hp)
  · exact List.mem_append_right _ (sr p hp)
theorem dueStep0 {T b : Addr} {ys : List Value} {n n2 : Nat} {ds : List Dat} {exB exT r : List (Addr × Obj)} {Q : Value → Shared → Prop} (F : Fr h₀ L s.heap m) (N : News h₀ L s.heap ((b, tupOf [] n2) :: (T, tupOf ys n) :: r)) (sB : ∀ p ∈ exB, p ∈ r)
    (hB : DatAll exB ys ds) (tB : ∀ p ∈ exB, isTup p) (hz : ds.length ≤ 10000)
    (h : ∀ v ex h', Fr h₀ L h' m → News h₀ L h' (ex ++ r) → (∀ p ∈ ex, isTup p) → DatIn ex v (.tuple (ds ++ [])) → Q v { s with heap := h' }) : wpAny (model prog w) A (binaryOp .Add (.ref T) (.ref b)) Q E s :=
  dueStep (exC := []) F N (.tail _ (.head _)) (.head _) (fun _ h => nomatch h) (fun p hp => .tail _ (.tail _ (sB p hp))) (fun p hp => .tail _ (.tail _ hp)) hB .nil tB (fun _ h => nomatch h) (by simpa using hz) h
theorem dueStep1 {T b b2 : Addr} {ys : List Value} {dv : Value} {tI : Tok} {n n2 n3 : Nat} {ds es : List Dat} {exB exT r : List (Addr × Obj)} {Q : Value → Shared → Prop} (F : Fr h₀ L s.heap m) (N : News h₀ L s.heap ((b, tupOf [.ref b2] n2) :: (b2, tupOf [.str (Str.ofString "IF") tI, dv] n3) :: (T, tupOf ys n) :: r)) (sB : ∀ p ∈ exB, p ∈ r) (sT : ∀ p ∈ exT, p ∈ r)
    (hB : DatAll exB ys ds) (tB : ∀ p ∈ exB, isTup p) (tT : ∀ p ∈ exT, isTup p) (hd : DatIn exT dv (.tuple es)) (hz : ds.length ≤ 9000)
    (h : ∀ v ex h', Fr h₀ L h' m → News h₀ L h' (ex ++ r) → (∀ p ∈ ex, isTup p) → DatIn ex v (.tuple (ds ++ [.tuple [.str (Str.ofString "IF"), .tuple es]])) → Q v { s with heap := h' }) : wpAny (model prog w) A (binaryOp .Add (.ref T) (.ref b)) Q E s :=
  dueStep (exC := (b2, tupOf [.str (Str.ofString "IF") tI, dv] n3) :: exT) F N (.tail _ (.tail _ (.head _))) (.head _) (List.forall_mem_cons.mpr ⟨.tail _ (.head _), fun p hp => .tail _ (.tail _ (.tail _ (sT p hp)))⟩) (fun p hp => .tail _ (.tail _ (.tail _ (sB p hp)))) (fun p hp => .tail _ (.tail _ (.tail _ hp))) hB
    (.cons (.tuple (.head _) (.cons (.str _ _) (.cons (hd.mono fun p hp => .tail _ hp) .nil))) .nil) tB (List.forall_mem_cons.mpr ⟨rfl, tT⟩) (by simp; omega) h
end
local macro_rules | `(tactic| walk_at "subscriptTail") => `(tactic| (k_here; (with_reducible show wpAny _ _ (subscriptTail _ _ (Value.ref _) (Value.int _ _)) _ _ _); k_dflt (refine' itemLast ?k ?N ?m ?_; (case k => with_unfolding_all rfl); (case N => k_asm); (case m => k_mem); k_whole)))
local macro_rules | `(tactic| walk_at "call builtin:list.extend") => `(tactic| (k_here; (with_reducible show wpAny _ _ (call (Value.builtin "list.extend") [Value.ref _, Value.ref _]) _ _ _); k_dflt (refine' extendN ?k1 ?k2 ?kb ?k3 ?k4 ?_; (case k1 => k_asm); (case k2 => first | k_asm | walk_at "d_news"); (case kb => k_mem); (case k3 => walk_at "d_off"); (case k4 => (try simp only [List.length_append, List.length_cons, List.length_nil, List.length_replicate]); omega); k_whole); intro h' n' F' N'; (try dsimp only)))
local macro_rules | `(tactic| walk_at "binaryOp Mult ref int") => `(tactic| (k_here; (with_reducible show wpAny _ _ (binaryOp Operator.Mult (Value.ref _) (Value.int _ _)) _ _ _); k_dflt (refine' mulN ?k1 ?k2 ?k3 ?k4 ?k5 ?_; (case k1 => k_asm); (case k2 => k_asm); (case k3 => k_mem); (case k4 => omega); (case k5 => omega); k_whole); intro D' h' F' N' l1; (try simp only [AllLt] at l1); (try dsimp only)))
local macro_rules | `(tactic| walk_at "binaryOp Add ref ref") => `(tactic| (k_here; (with_reducible show wpAny _ _ (binaryOp Operator.Add (Value.ref _) (Value.ref _)) _ _ _); k_dflt (refine' addL ?k1 ?k2 ?k3 ?k4 ?k5 ?_; (case k1 => k_asm); (case k2 => k_asm); (case k3 => k_mem); (case k4 => k_mem); (case k5 => (try simp only [List.length_append, List.length_cons, List.length_nil, List.length_replicate]); omega); k_whole); intro D' h' F' N' l1; (try simp only [AllLt] at l1); (try dsimp only)))
local macro_rules | `(tactic| walk_at "UnrEnd") => `(tactic| (refine stop_ ?_))
local macro_rules | `(tactic| walk_at "call builtin:len") => `(tactic| (k_here; (with_reducible show wpAny _ _ (call (Value.builtin "len") [Value.ref _]) _ _ _); k_dflt (refine' lenN ?k1 ?k2 ?k3 ?_; (case k1 => k_asm); (case k2 => k_mem); (case k3 => omega)); intro t' tk'; (try dsimp only)))
local macro_rules | `(tactic| walk_at "call builtin:list.append") => `(tactic| (k_here; (with_reducible show wpAny _ _ (call (Value.builtin "list.append") [Value.ref _, _]) _ _ _); k_dflt (refine' appendN ?k1 ?k2 ?k3 ?k4 ?_; (case k1 => k_asm); (case k2 => first | k_asm | walk_at "d_news"); (case k3 => walk_at "d_off"); (case k4 => omega); k_whole); intro h' F' N'; (try dsimp only)))
local macro_rules | `(tactic| walk_at "subscriptTail") => do
  let zdv := Lean.mkIdent `zdv; let zdep := Lean.mkIdent `zdep; let zdt := Lean.mkIdent `zdt; let zd0 := Lean.mkIdent `zd0; let zd1 := Lean.mkIdent `zd1; let zx := Lean.mkIdent `zx; let zxt := Lean.mkIdent `zxt; let zx0 := Lean.mkIdent `zx0
  `(tactic| (k_here; (with_reducible show wpAny _ _ (subscriptTail _ _ (Value.ref _) (Value.int _ _)) _ _ _); k_dflt (first
  | (refine' itemTup DepthV ?N ?m ?h0 ?h1 ?hf ?hP ?_; (case N => k_asm); (case m => k_mem); (case h0 => omega); (case h1 => show _ < (((_ : Nat) : Int)); simp only [List.length_cons, List.length_nil]; omega); (case hf => omega); (case hP => repeat' (first | exact List.forall_mem_nil _ | refine List.forall_mem_cons.mpr ⟨⟨_, _, rfl, by decide, by decide⟩, ?_⟩)); k_whole; intro zdv hv'; obtain ⟨$zdep, $zdt, hv9, $zd0, $zd1⟩ := hv'; subst hv9; (try dsimp only))
  | (refine' itemTup SmallV ?N ?m ?h0 ?h1 ?hf ?hP ?_; (case N => k_asm); (case m => k_mem); (case h0 => omega); (case h1 => show _ < (((_ : Nat) : Int)); simp only [List.length_cons, List.length_nil]; omega); (case hf => omega); (case hP => repeat' (first | exact List.forall_mem_nil _ | refine List.forall_mem_cons.mpr ⟨⟨_, _, rfl, by decide +kernel, by decide +kernel⟩, ?_⟩)); k_whole; intro zxv hv'; obtain ⟨$zx, $zxt, hv9, $zx0⟩ := hv'; subst hv9; (try dsimp only))
  | (refine' itemTup OddV ?N ?m ?h0 ?h1 ?hf ?hP ?_; (case N => k_asm); (case m => k_mem); (case h0 => omega); (case h1 => show _ < (((_ : Nat) : Int)); simp only [List.length_cons, List.length_nil]; omega); (case hf => omega); (case hP => repeat' (first | exact List.forall_mem_nil _ | refine List.forall_mem_cons.mpr ⟨⟨_, _, rfl, by decide +kernel⟩, ?_⟩)); k_whole; intro zxv hv'; obtain ⟨$zx, $zxt, hv9, $zx0⟩ := hv'; subst hv9; (try dsimp only)))))
local macro_rules | `(tactic| walk_at "d_off") => `(tactic| exact List.forall_mem_nil _)
local macro_rules | `(tactic| k_units) => `(tactic| first | decide | (rw [cLine_is]; decide) | ((try simp only [units_in1, units_deeper, Around.mark_units, ktrTop]); omega))
local macro_rules | `(tactic| k_room) => `(tactic| first | decide | ((try simp only [depth_mark, depth_under_make, depth_under_kw, depth_in1, depth_deeper, ktrTop]); omega))
local macro_rules | `(tactic| walk_at "call ref") => `(tactic| (k_here; k_dflt (refine' draw_c ?B ?F ?X ?T ?hk ?N ?hd ?hu ?hcl ?hvs ?hns ?hn60 ?h0 ?h1 ?hl0 ?hl1 ?hoff ?_; (case B => k_asm); (case F => k_asm); (case X => k_asm); (case T => k_asm); (case hk => first | exact rfl | assumption); (case N => first | k_asm | walk_at "d_news"); (case hd => k_room); (case hu => k_units); (case hcl => k_mem); (case hvs => assumption); (case hns => assumption); (case hn60 => assumption); (case h0 => omega); (case h1 => omega); (case hl0 => decide); (case hl1 => decide); (case hoff => walk_at "d_off"); k_whole; intro r' tr' ta' h' tk' r0 r1 F' N'; (try dsimp only))))
set_option hygiene false in
local macro_rules | `(tactic| walk_at "call ref") => `(tactic| (k_here; k_dflt (refine' source_c ?B ?F ?X ?T ?hk ?N ?hd ?hu ?hl ?hi ?hlen ?_; (case B => k_asm); (case F => k_asm); (case X => k_asm); (case T => k_asm); (case hk => first | exact rfl | assumption); (case N => first | k_asm | walk_at "d_news"); (case hd => k_room); (case hu => k_units); (case hl => assumption); (case hi => assumption); (case hlen => assumption); k_whole; intro zsrc zcl zn znc zvs zns zta zh ztk hI' hp' hq' F' N' o1' o2'; (try simp only [LCg.Off1] at o1' o2'); (try dsimp only))))
local macro_rules | `(tactic| walk_at "pyIter ref") => `(tactic| (k_here; (with_reducible show wpAny _ _ (pyIter (Value.ref _)) (fun it s₂ => LoopAtV _ _ _ _ _ _ _ _ _ it s₂) _ _); refine stop_ ?_))
local macro_rules | `(tactic| walk_at "exec For Name Call cons nil") => `(tactic| (k_here; (rename Fr _ _ _ _ => lF'); (with_unfolding_all refine' For_invVF lF' ?k1 ?k2 ?_; (case k1 => exact rfl); (case k2 => exact rfl); k_whole)))


structure Keep (P : Prop) : Prop where
  out : P
/-- lost behind the first test of a turn -/
def lostA (d : Int) (i : Nat) : Option Nat → Option Nat
  | some j => some j
  | none => if 12 < d then some i else none
theorem lostStep_keep {d : Int} {i : Nat} {m : List Str} {o : Option Nat} (h : m = [] ∨ ¬ 12 < d + 1) : lostStep d i m o = lostA d i o := by
  cases o with
  | some j => rfl
  | none =>
    simp only [lostStep, lostA]
    split
    · rfl
    · rw [if_neg]
      rintro ⟨q, r⟩
      exact h.elim q fun n => n r
theorem lostStep_set {d : Int} {i : Nat} {m : List Str} {o : Option Nat} (h : lostA d i o = none) (q : m ≠ []) (r : 12 < d + 1) : lostStep d i m o = some (i + 1) := by
  cases o with
  | some j => cases h
  | none =>
    simp only [lostStep, lostA] at h ⊢
    split at h
    · cases h
    · rename_i n
      rw [if_neg n, if_pos ⟨q, r⟩]
theorem lostStep_some {d : Int} {i j : Nat} {m : List Str} {o : Option Nat} (h : lostA d i o = some j) : lostStep d i m o = some j := by
  cases o with
  | some j => exact h
  | none =>
    simp only [lostStep, lostA] at h ⊢
    split at h
    · rename_i n
      rw [if_pos n]; exact h
    · cases h
theorem frLev {h₀ h : Heap} {L : Addr} {l V v : Option Value} {M : Str → Option Value} (F : Fr h₀ L h (fun y => if y = Str.ofString "level" then V else cf l v M y)) : Fr h₀ L h (cf l V M) := cf_lev (V := V) (l := l) (v := v) (M := M) ▸ F
theorem frLost {h₀ h : Heap} {L : Addr} {x l V v : Option Value} {M : Str → Option Value} (F : Fr h₀ L h (fun y => if y = Str.ofString "lost" then x else if y = Str.ofString "level" then V else cf l v M y)) : Fr h₀ L h (cf x V M) := cf_lost (x := x) (V := V) (l := l) (v := v) (M := M) ▸ F
theorem cf_set {x l v : Option Value} {M : Str → Option Value} : (fun y => if y = Str.ofString "lost" then x else cf l v M y) = cf x v M := by
  funext y
  by_cases h1 : y = Str.ofString "lost"
  · simp only [cf, if_pos h1]
  · simp only [cf, if_neg h1]
theorem tailM {b h : Heap} {L : Addr} {n1 n2 n3 n4 n5 : Str} {v1 v2 v3 v4 v5 : Option Value} {m0 : Str → Option Value} (F : Fr b L h fun y => if y = n1 then v1 else if y = n2 then v2 else if y = n3 then v3 else if y = n4 then v4 else if y = n5 then v5 else m0 y) (hl : m0 (Str.ofString "level") = none) :
    ∃ m1 : Str → Option Value, m1 (Str.ofString "level") = none ∧ Fr b L h fun y => if y = n1 then v1 else if y = n2 then v2 else if y = n3 then v3 else if y = n4 then v4 else if y = n5 then v5 else m1 y := ⟨m0, hl, F⟩
theorem joinA {b hp : Heap} {L : Addr} {l v V : Option Value} {M : Str → Option Value} {led : List (Addr × Obj)} {Md : Model} {A : Around} {α : Type} {x : Sem α} {Q : α → Shared → Prop} {E : Value → Shared → Prop} {g : Array GenState} {dr : Drawn} {os : OsState} {P : Prop}
    (d : Int) (n : Nat) (o : Option Nat) (_ : News b L hp led) (_ : Fr b L hp (fun y => if y = Str.ofString "level" then V else cf l v M y))
    (h1 : Keep (∀ (ol : Option Nat) (lv1 : Value) (hh : Heap) (tkk : Nat), ol = lostA d n o → LostV ol lv1 → Fr b L hh (cf (some lv1) V M) → News b L hh led → wpAny Md A x Q E ⟨hh, g, dr, tkk, os⟩) → P)
    (h2 : ∀ (ol : Option Nat) (lv1 : Value) (hh : Heap) (tkk : Nat), ol = lostA d n o → LostV ol lv1 → Fr b L hh (cf (some lv1) V M) → News b L hh led → wpAny Md A x Q E ⟨hh, g, dr, tkk, os⟩) : P := h1 ⟨h2⟩
set_option hygiene false in
local macro_rules | `(tactic| walk_at "d_off") => `(tactic| (refine List.forall_mem_cons.mpr ⟨Nat.ne_of_gt (And.left ‹@LT.lt Nat _ zsrc _ ∧ _›), ?_⟩; assumption))
local macro_rules | `(tactic| walk_at "call ref") => `(tactic| (k_here; k_dflt (refine' draw_c ?B ?F ?X ?T ?hk ?N ?hd ?hu ?hcl ?hvs ?hns ?hn60 ?h0 ?h1 ?hl0 ?hl1 ?hoff ?_; (case B => k_asm); (case F => k_asm); (case X => k_asm); (case T => k_asm); (case hk => first | exact rfl | assumption); (case N => first | k_asm | walk_at "d_news"); (case hd => k_room); (case hu => k_units); (case hcl => k_mem); (case hvs => assumption); (case hns => assumption); (case hn60 => assumption); (case h0 => first | assumption | omega); (case h1 => first | assumption | omega); (case hl0 => decide); (case hl1 => decide); (case hoff => walk_at "d_off"); k_whole; intro r' tr' ta' h' tk' r0 r1 F' N'; (try dsimp only))))
local macro_rules | `(tactic| walk_at "call builtin:len") => `(tactic| (k_here; (with_reducible show wpAny _ _ (call (Value.builtin "len") [Value.ref _]) _ _ _); k_dflt (refine' lenN ?k1 ?k2 ?k3 ?_; (case k1 => k_asm); (case k2 => k_mem); (case k3 => (try simp only [List.length_append, List.length_replicate, List.length_cons, List.length_nil]); omega)); intro t' tk'; (try dsimp only)))
local macro_rules | `(tactic| walk_at "subscriptTail") => `(tactic| (k_here; (with_reducible show wpAny _ _ (subscriptTail _ _ (Value.ref _) (Value.int _ _)) _ _ _); k_dflt (refine' itemAt ?k ?j ?N ?m ?v ?_; (case v => assumption); (case k => rfl); (case j => assumption); (case N => k_asm); (case m => k_mem); k_whole)))
local macro_rules | `(tactic| walk_at "call type:tuple") => `(tactic| (k_here; k_dflt (refine' tupN ?k1 ?k2 ?k3 ?k4 ?_; (case k1 => k_asm); (case k2 => k_asm); (case k3 => k_mem); (case k4 => omega); k_whole); intro D' h' F' N' l1; (try simp only [AllLt] at l1); (try dsimp only)))
local macro_rules | `(tactic| walk_at "binaryOp Add ref ref") => `(tactic| (k_here; (with_reducible show wpAny _ _ (binaryOp Operator.Add (Value.ref _) (Value.ref _)) _ _ _); first
  | (k_dflt (refine' addL ?k1 ?k2 ?k3 ?k4 ?k5 ?_; (case k1 => k_asm); (case k2 => k_asm); (case k3 => k_mem); (case k4 => k_mem); (case k5 => (try simp only [List.length_append, List.length_cons, List.length_nil, List.length_replicate]); omega); k_whole); intro D' h' F' N' l1; (try simp only [AllLt] at l1); (try dsimp only))
  | (refine stop_ ?_)))
local macro_rules | `(tactic| walk_at "call ref") => `(tactic| ((with_reducible show wpAny _ _ (call (Value.ref 325) _) _ _ _); refine stop_ ?_))
local macro_rules | `(tactic| walk_at "compareOp NotEq ref ref") => `(tactic| (refine stop_ ?_))
local macro_rules | `(tactic| walk_at "compareOp Eq ref ref") => `(tactic| (refine stop_ ?_))
local macro_rules | `(tactic| walk_at "subscriptTail") => do
  let zx := Lean.mkIdent `zx; let zxt := Lean.mkIdent `zxt; let zx0 := Lean.mkIdent `zx0
  `(tactic| (k_here; (with_reducible show wpAny _ _ (subscriptTail _ _ (Value.ref _) (Value.int _ _)) _ _ _); k_dflt (refine' itemTup OddV ?N ?m ?h0 ?h1 ?hf ?hP ?_; (case N => k_asm); (case m => k_mem); (case h0 => assumption); (case h1 => show _ < (5 : Int); assumption); (case hf => exact Int.lt_trans (show _ < (5 : Int) by assumption) (by decide)); (case hP => repeat' (first | exact List.forall_mem_nil _ | refine List.forall_mem_cons.mpr ⟨⟨_, _, rfl, by decide +kernel⟩, ?_⟩)); k_whole; intro zxv hv'; obtain ⟨$zx, $zxt, hv9, $zx0⟩ := hv'; subst hv9; (try dsimp only))))
-- ODDFAST
local macro_rules | `(tactic| walk_at "d_pr") => `(tactic| first | assumption | exact (‹_ ∧ _›).1 | exact (‹_ ∧ _ ∧ _›).2.1 | exact (‹_ ∧ _ ∧ _ ∧ _›).2.2.1 | exact (‹_ ∧ _ ∧ _ ∧ _ ∧ _›).2.2.2.1 | exact (‹_ ∧ _ ∧ _ ∧ _ ∧ _ ∧ _›).2.2.2.2.1 | exact (‹_ ∧ _ ∧ _ ∧ _ ∧ _ ∧ _ ∧ _›).2.2.2.2.2.1 | exact (‹_ ∧ _ ∧ _ ∧ _ ∧ _ ∧ _ ∧ _ ∧ _›).2.2.2.2.2.2.1 | exact (‹_ ∧ _ ∧ _ ∧ _ ∧ _ ∧ _ ∧ _ ∧ _ ∧ _›).2.2.2.2.2.2.2.1 | exact (‹_ ∧ _ ∧ _ ∧ _ ∧ _ ∧ _ ∧ _ ∧ _ ∧ _ ∧ _›).2.2.2.2.2.2.2.2.1 | exact (‹_ ∧ _›).2 | exact (‹_ ∧ _ ∧ _›).2.2 | exact (‹_ ∧ _ ∧ _ ∧ _›).2.2.2 | exact (‹_ ∧ _ ∧ _ ∧ _ ∧ _›).2.2.2.2 | exact (‹_ ∧ _ ∧ _ ∧ _ ∧ _ ∧ _›).2.2.2.2.2 | exact (‹_ ∧ _ ∧ _ ∧ _ ∧ _ ∧ _ ∧ _›).2.2.2.2.2.2 | exact (‹_ ∧ _ ∧ _ ∧ _ ∧ _ ∧ _ ∧ _ ∧ _›).2.2.2.2.2.2.2 | exact (‹_ ∧ _ ∧ _ ∧ _ ∧ _ ∧ _ ∧ _ ∧ _ ∧ _›).2.2.2.2.2.2.2.2)
local macro_rules | `(tactic| k_ne) => `(tactic| (refine neN ?_; (try dsimp only); first | assumption | (refine Ne.symm ?_; assumption) | (refine Nat.ne_of_lt ?_; walk_at "d_pr") | (refine Nat.ne_of_gt ?_; walk_at "d_pr") | walk_at "d_pr" | (refine Ne.symm ?_; walk_at "d_pr")))
local macro_rules | `(tactic| k_qdec) => `(tactic| decide +kernel)
local macro_rules | `(tactic| walk_at "d_split") => `(tactic| (repeat (with_reducible rename _ ∧ _ => zqq; obtain ⟨zqa, zqb⟩ := zqq)))
local macro_rules | `(tactic| walk_at "d_off") => `(tactic| first | (refine' List.forall_mem_cons.mpr ⟨?a, ?b⟩; (case a => k_ne); (case b => assumption)) | fail "d_off")
local macro_rules | `(tactic| walk_at "d_clear") => `(tactic| (
  (repeat (with_reducible rename Fr _ _ _ _ => zzq; clear zzq)); (repeat (with_reducible rename News _ _ _ _ => zzq; clear zzq)); (repeat (with_reducible rename IsRange _ _ _ _ _ _ _ _ => zzq; clear zzq))
  (try (with_reducible rename Heap.CodeRec _ _ _ => zzq; clear zzq)); (try (with_reducible rename Dflts _ _ _ _ _ _ => zzq; clear zzq)); (try (with_reducible rename CellsAre _ _ _ => zzq; clear zzq))
  (try (with_reducible rename _ = Data.cell (bindC _ _ _ _) => zzq; clear zzq)); (try (with_reducible rename Hook.says _ _ _ => zzq; clear zzq))))
noncomputable def G1 : { P : Prop // Keep P → PySem.Challenge.rw_pc0130_01.Holds } := by
  refine' ⟨_, fun hK1 => hd _⟩
  rotate_left
  · k_go0
    (all_goals try k_fold)
    k_steps
    refine stop_to ?_
    with_reducible rename Fr _ _ _ _ => Fq
    with_reducible rename News _ _ _ _ => Nq
    with_reducible rename IsRange _ _ _ _ _ _ _ _ => Rq
    obtain ⟨zcell, hzc⟩ := sixth Nq
    obtain ⟨m1, hm1, Fq9⟩ := tailM Fq rfl
    have Fq2 := cf_fr Fq9 (l := some .none) (v := none) rfl hm1
    obtain ⟨c, hcn, hcs, hcx, hc1, hc15⟩ := count_nat Rq (by assumption) (by assumption)
    refine iter_rangeUnr rfl Rq hcs hcn Fq2 Nq fun I hI => ?_
    have hI2 := allLt_of hI
    simp only [AllLt] at hI2
    refine' (?H : ∀ (k i : Nat) (o : Option Nat) (lv : Value) (lev : Option Value) (at_ : Int) (ta : Tok) (ms : List (List Str)) (wvs mvs : List Value) (nw nm : Nat) (exM : List (Addr × Obj)),
      i + k = c → ms.length = i → 0 ≤ at_ → at_ ≤ 2 + 3 * i → StrsOf wvs (pre ms) → ManyIn exM mvs ms → (∀ m ∈ ms, m.length ≤ 2 ∧ ∀ x ∈ m, Sm x) → LostV o lv → o = lostR zdep 0 none ms →
      (∀ p ∈ exM, p.1 ≠ ?ml) → (∀ p ∈ exM, p.1 ≠ ?wl) → (∀ p ∈ exM, p.1 ≠ zsrc) → (∀ p ∈ exM, p.1 ≠ I) → (∀ p ∈ exM, p.1 ≠ 38) →
      RangeRest ?a1 ?a2 ?a3 ?a4 ?a5 ?a6 ?a7 ?a8 ?a9 ?aA I ?aB ?aC k i (cf (some lv) lev ?M) ((?ml, listOf mvs.toArray nm) :: (?wl, listOf wvs.toArray nw) :: (zsrc, listOf #[.ref zcl, .int at_ ta] zn) :: ?d1 :: ?d2 :: ?d3 :: (38, tabObj #[]) :: exM))
      c 0 none .none none _ _ [] [] [] 0 0 [] (by omega) rfl (by decide) (by decide) .nil .nil (fun _ h => nomatch h) rfl rfl (fun _ h => nomatch h) (fun _ h => nomatch h) (fun _ h => nomatch h) (fun _ h => nomatch h) (fun _ h => nomatch h)
    clear hI
    walk_at "d_clear"
    revert o1' o2'
    walk_at "d_split"
    intro o1' o2'
    (repeat (rename_i x; revert x))
    (try revert I); (try revert hc15); (try revert hc1); (try revert c); (try revert zcell); (try revert tk); (try revert zd1); (try revert zd0)
    (try revert zdt); (try revert zdep); (try revert hq'); (try revert hp'); (try revert hI'); (try revert ztk); (try revert zh); (try revert zta)
    (try revert zns); (try revert zvs); (try revert znc); (try revert zn); (try revert zcl); (try revert zsrc); (try revert hm1); (try revert m1)
    exact hK1.out




noncomputable def G2 : { PQ : Prop × Prop // Keep PQ.1 → Keep PQ.2 → G1.1 } := by
  refine' ⟨(_, _), fun hKZ hKS => _⟩
  rotate_left 2
  · intro m1 hm1 zsrc zcl zn znc zvs zns zta zh ztk hI' hp' hq' zdep zdt zd0 zd1 tk zcell c hc1 hc15 I _ _ _ hT8 hT9 codeHd o1' o2' _ _ _ _ _ _ _ _ _ _ _ _ _ _ _ _ _ _ _ _ _ _ _ _ _ _ lifted _ _ _ _ _ _ _ _ _ _ _ _ _ _ _ _ _ _ hzc _ _ _ hcn hcs hcx _ _ _ _ _ _ _ _ _ _ _ _ _ _ _ _ _ _ _ _ _ _ _ _ _ _ _ _ _ _ _ _ _ _ _ _ _ _ _ _ _ _ _ _ _ _ _ _ _ _ _ _ _ _ _ _ k
    induction k with
    | zero =>
      (repeat (rename_i x; revert x))
      (try revert hcx)
      (try revert hcs)
      (try revert hcn)
      (try revert hzc)
      (try revert lifted)
      (try revert o2')
      (try revert o1')
      (try revert codeHd)
      (try revert hT9)
      (try revert hT8)
      (try revert I)
      (try revert hc15)
      (try revert hc1)
      (try revert c)
      (try revert zcell)
      (try revert tk)
      (try revert zd1)
      (try revert zd0)
      (try revert zdt)
      (try revert zdep)
      (try revert hq')
      (try revert hp')
      (try revert hI')
      (try revert ztk)
      (try revert zh)
      (try revert zta)
      (try revert zns)
      (try revert zvs)
      (try revert znc)
      (try revert zn)
      (try revert zcl)
      (try revert zsrc)
      (try revert hm1)
      (try revert m1)
      exact hKZ.out
    | succ k ih =>
      (repeat (rename_i x; revert x))
      (try revert ih)
      (try revert k)
      (try revert hcx)
      (try revert hcs)
      (try revert hcn)
      (try revert hzc)
      (try revert lifted)
      (try revert o2')
      (try revert o1')
      (try revert codeHd)
      (try revert hT9)
      (try revert hT8)
      (try revert I)
      (try revert hc15)
      (try revert hc1)
      (try revert c)
      (try revert zcell)
      (try revert tk)
      (try revert zd1)
      (try revert zd0)
      (try revert zdt)
      (try revert zdep)
      (try revert hq')
      (try revert hp')
      (try revert hI')
      (try revert ztk)
      (try revert zh)
      (try revert zta)
      (try revert zns)
      (try revert zvs)
      (try revert znc)
      (try revert zn)
      (try revert zcl)
      (try revert zsrc)
      (try revert hm1)
      (try revert m1)
      exact hKS.out




section
local macro_rules | `(tactic| walk_at "exec Expr") => `(tactic| (refine stop_ ?_))
noncomputable def G3 : { P : Prop // Keep P → G2.1.2 } := by
  refine' ⟨_, fun hk1 => _⟩
  rotate_left
  · intro m1 hm1 zsrc zcl zn znc zvs zns zta zh ztk hI' hp' hq' zdep zdt zd0 zd1 tk zcell c hc1 hc15 I k _ _ _ hT8 hT9 codeHd o1' o2' _ _ _ _ _ _ _ _ _ _ _ _ _ _ _ _ _ _ _ _ _ _ _ _ _ _ lifted _ _ _ _ _ _ _ _ _ _ _ _ _ _ _ _ _ _ hzc _ _ _ hcn hcs hcx _ _ _ _ _ _ _ _ _ _ _ _ _ _ _ _ _ _ _ _ _ _ _ _ _ _ _ _ _ ih _ _ _ _ _ _ _ _ _ _ _ _ _ _ _ _ _ _ _ _ _ _ _ _ _ _ _
    intro i o lv lev at_ ta ms wvs mvs nw nm exM hik hms hat hat2 hwv hmv hsm hlv hlo of1 of2 of3 of4 of5
    refine RangeRest.succ ?_
    intro t h tk F N
    have hwl := hwv.length
    have hml := hmv.length
    have hpl := pre_len ms hsm
    refine' joinA (zdep + (i : Int)) (pre ms).length o N F ?hm7 ?hb7
    (case hm7 =>
      intro HB
      rcases o with _ | j
      · cases hlv
        by_cases hdl : 12 < zdep + ((0 : Int) + (i : Int))
        · k_steps
          refine stop_to ?_
          with_reducible rename Fr _ _ _ _ => Fe
          with_reducible rename News _ _ _ _ => Ne
          exact HB.out (some (pre ms).length) (.int (wvs.length : Int) _) _ _ (by rw [lostA, if_pos (by omega)]) ⟨_, by rw [hwl]⟩ (frLost Fe) Ne
        · k_steps
          refine stop_to ?_
          with_reducible rename Fr _ _ _ _ => Fe
          with_reducible rename News _ _ _ _ => Ne
          exact HB.out none .none _ _ (by rw [lostA, if_neg (by omega)]) rfl (frLev Fe) Ne
      · obtain ⟨tj, rfl⟩ := hlv
        by_cases hdl : 12 < zdep + ((0 : Int) + (i : Int))
        · k_steps
          refine stop_to ?_
          with_reducible rename Fr _ _ _ _ => Fe
          with_reducible rename News _ _ _ _ => Ne
          exact HB.out (some j) (.int (j : Int) tj) _ _ rfl ⟨_, rfl⟩ (frLev Fe) Ne
        · k_steps
          refine stop_to ?_
          with_reducible rename Fr _ _ _ _ => Fe
          with_reducible rename News _ _ _ _ => Ne
          exact HB.out (some j) (.int (j : Int) tj) _ _ rfl ⟨_, rfl⟩ (frLev Fe) Ne)
    case hb7 =>
    intro ol lv1 hh tkk hol hlv1 Fa Na
    clear hlv F N
    (repeat (rename_i x; revert x))
    (try revert Na); (try revert Fa); (try revert hlv1); (try revert hol); (try revert tkk); (try revert hh); (try revert lv1); (try revert ol)
    (try revert h); (try revert tk); (try revert hpl); (try revert hml); (try revert hwl); (try revert t); (try revert of5); (try revert of4)
    (try revert of3); (try revert of2); (try revert of1); (try revert hlo); (try revert hsm); (try revert hmv); (try revert hwv); (try revert hat2)
    (try revert hat); (try revert hms); (try revert hik); (try revert exM); (try revert nm); (try revert nw); (try revert mvs); (try revert wvs)
    (try revert ms); (try revert ta); (try revert at_); (try revert lev); (try revert lv); (try revert o); (try revert i); (try revert ih)
    (try revert k); (try revert Rq); (try revert Fq2); (try revert Nq); (try revert Fq); (try revert hI2); (try revert hI); (try revert hcx)
    (try revert hcs); (try revert hcn); (try revert hzc); (try revert lifted); (try revert o2'); (try revert o1'); (try revert codeHd); (try revert hT9)
    (try revert hT8); (try revert I); (try revert hc15); (try revert hc1); (try revert c); (try revert zcell); (try revert zd1); (try revert zd0)
    (try revert zdt); (try revert zdep); (try revert hq'); (try revert hp'); (try revert hI'); (try revert ztk); (try revert zh); (try revert zta)
    (try revert zns); (try revert zvs); (try revert znc); (try revert zn); (try revert zcl); (try revert zsrc); (try revert hm1); (try revert m1)
    exact hk1.out
end




noncomputable def G4 : { Q : Prop × Prop × Prop × Prop // Keep Q.1 → Keep Q.2.1 → Keep Q.2.2.1 → Keep Q.2.2.2 → G3.1 } := by
  refine' ⟨(_, _, _, _), fun hC1 hC2 hC3 hC4 => _⟩
  rotate_left 4
  · intro m1 hm1 zsrc zcl zn znc zvs zns zta zh ztk hI' hp' hq' zdep zdt zd0 zd1 zcell c hc1 hc15 I k i o lv lev at_ ta ms wvs mvs nw nm exM hik hms hat hat2 hwv hmv hsm hlo of3 of4 of5 t hwl hml hpl tk h ol lv1 hh tkk hol hlv1 _ _ _ _ hT8 hT9 codeHd o1' o2' _ _ _ _ _ _ _ _ _ _ _ _ _ _ _ _ _ _ _ _ _ _ _ _ _ _ lifted _ _ _ _ _ _ _ _ _ _ _ _ _ _ _ _ _ _ hzc _ _ _ hcn hcs hcx _ _ _ _ _ _ _ _ _ _ _ _ _ _ _ _ _ _ _ _ of2 _ _ _ _ of1 Fa Na _ _ _ _ _ ih _ _ _ _ _ _ _ _ _ _ _ _ _ _ _ _ _ _ _ _ _ _ _ _ _ _ _
    k_steps
    refine stop_to ?_
    with_reducible rename Fr _ _ _ _ => Fc
    with_reducible rename News _ _ _ _ => Nc
    with_reducible rename IsRange _ _ _ _ _ _ _ _ => Rc
    obtain ⟨rr, hrn, hrs, hr2⟩ := small_nat Rc (by assumption) (by assumption)
    refine' LCg.CompSrc.range (news := (zsrc, listOf #[.ref zcl, .int _ _] zn) :: _) rfl Fc ?Ncx1 Rc hrs hrn ?hzx1 ?hcx1
    (case Ncx1 => walk_at "d_news")
    (case hzx1 => rw [sizeLine_eq]; omega)
    intro g
    refine' (?H2x1 : ∀ (j q : Nat) (ys : List Value) (mm : List Str) (at2 : Int) (ta2 : Tok), (∀ p ∈ (?rstx1 : List (Addr × Obj)), p.1 ≠ zsrc) → q + j = rr → ys.length = q → StrsOf ys mm → (∀ x ∈ mm, Sm x) → 0 ≤ at2 → at2 ≤ 3 + 3 * i + q →
      LCg.CompRest ?b1x1 ?b2x1 ?b3x1 ?b4x1 ?b5x1 ?b6x1 ?b7x1 ?b8x1 ?b9x1 ?bAx1 ?bBx1 ?bCx1 ?bDx1 ?bEx1 ?bFx1 j q ys ((zsrc, listOf #[.ref zcl, .int at2 ta2] zn) :: ?rstx1)) _ 0 [] [] _ _ ?hzzx1 (by omega) rfl .nil (fun _ h => nomatch h) (by omega) (by omega)
    (case hzzx1 => walk_at "d_off")
    intro j
    induction j with
    | zero =>
      intro q ys mm at2 ta2 hrst hq hy hym hmm ha2 ha3
      refine LCg.CompRest.zero ?_
      have hyl := hym.length
      rcases ys with _ | ⟨y, ys⟩
      · have hmn : mm = [] := by
          cases hym
          rfl
        have hy2 : 0 = q := hy
        walk_at "d_clear"
        revert o1' o2'
        walk_at "d_split"
        intro o1' o2'
        (repeat (rename_i x; revert x))
        (try revert tj); (try revert j); (try revert hd2); (try revert hy2); (try revert hmn); (try revert y); (try revert hyl); (try revert ha3)
        (try revert ha2); (try revert hmm); (try revert hym); (try revert hy); (try revert hq); (try revert hrst); (try revert ta2); (try revert at2)
        (try revert mm); (try revert ys); (try revert q); (try revert g); (try revert hr2); (try revert hrs); (try revert hrn); (try revert rr)
        (try revert Rc); (try revert Nc); (try revert Fc); (try revert ih); (try revert Na); (try revert Fa); (try revert of1); (try revert of2)
        (try revert hcx); (try revert hcs); (try revert hcn); (try revert hzc); (try revert lifted); (try revert o2'); (try revert o1'); (try revert codeHd)
        (try revert hT9); (try revert hT8); (try revert hlv1); (try revert hol); (try revert tkk); (try revert hh); (try revert lv1); (try revert ol)
        (try revert h); (try revert tk); (try revert hpl); (try revert hml); (try revert hwl); (try revert t); (try revert of5); (try revert of4)
        (try revert of3); (try revert hlo); (try revert hsm); (try revert hmv); (try revert hwv); (try revert hat2); (try revert hat); (try revert hms)
        (try revert hik); (try revert exM); (try revert nm); (try revert nw); (try revert mvs); (try revert wvs); (try revert ms); (try revert ta)
        (try revert at_); (try revert lev); (try revert lv); (try revert o); (try revert i); (try revert k); (try revert I); (try revert hc15)
        (try revert hc1); (try revert c); (try revert zcell); (try revert zd1); (try revert zd0); (try revert zdt); (try revert zdep); (try revert hq')
        (try revert hp'); (try revert hI'); (try revert ztk); (try revert zh); (try revert zta); (try revert zns); (try revert zvs); (try revert znc)
        (try revert zn); (try revert zcl); (try revert zsrc); (try revert hm1); (try revert m1)
        exact hC1.out
      · have hmn : mm ≠ [] := by
          intro q
          rw [q] at hyl
          cases hyl
        have hy2 : ys.length + 1 = q := hy
        by_cases hd2 : 12 < zdep + ((0 : Int) + (i : Int)) + 1
        · rcases ol with _ | j
          · cases hlv1
            walk_at "d_clear"
            revert o1' o2'
            walk_at "d_split"
            intro o1' o2'
            (repeat (rename_i x; revert x))
            (try revert tj); (try revert j); (try revert hd2); (try revert hy2); (try revert hmn); (try revert y); (try revert hyl); (try revert ha3)
            (try revert ha2); (try revert hmm); (try revert hym); (try revert hy); (try revert hq); (try revert hrst); (try revert ta2); (try revert at2)
            (try revert mm); (try revert ys); (try revert q); (try revert g); (try revert hr2); (try revert hrs); (try revert hrn); (try revert rr)
            (try revert Rc); (try revert Nc); (try revert Fc); (try revert ih); (try revert Na); (try revert Fa); (try revert of1); (try revert of2)
            (try revert hcx); (try revert hcs); (try revert hcn); (try revert hzc); (try revert lifted); (try revert o2'); (try revert o1'); (try revert codeHd)
            (try revert hT9); (try revert hT8); (try revert hlv1); (try revert hol); (try revert tkk); (try revert hh); (try revert lv1); (try revert ol)
            (try revert h); (try revert tk); (try revert hpl); (try revert hml); (try revert hwl); (try revert t); (try revert of5); (try revert of4)
            (try revert of3); (try revert hlo); (try revert hsm); (try revert hmv); (try revert hwv); (try revert hat2); (try revert hat); (try revert hms)
            (try revert hik); (try revert exM); (try revert nm); (try revert nw); (try revert mvs); (try revert wvs); (try revert ms); (try revert ta)
            (try revert at_); (try revert lev); (try revert lv); (try revert o); (try revert i); (try revert k); (try revert I); (try revert hc15)
            (try revert hc1); (try revert c); (try revert zcell); (try revert zd1); (try revert zd0); (try revert zdt); (try revert zdep); (try revert hq')
            (try revert hp'); (try revert hI'); (try revert ztk); (try revert zh); (try revert zta); (try revert zns); (try revert zvs); (try revert znc)
            (try revert zn); (try revert zcl); (try revert zsrc); (try revert hm1); (try revert m1)
            exact hC3.out
          · obtain ⟨tj, rfl⟩ := hlv1
            walk_at "d_clear"
            revert o1' o2'
            walk_at "d_split"
            intro o1' o2'
            (repeat (rename_i x; revert x))
            (try revert tj); (try revert j); (try revert hd2); (try revert hy2); (try revert hmn); (try revert y); (try revert hyl); (try revert ha3)
            (try revert ha2); (try revert hmm); (try revert hym); (try revert hy); (try revert hq); (try revert hrst); (try revert ta2); (try revert at2)
            (try revert mm); (try revert ys); (try revert q); (try revert g); (try revert hr2); (try revert hrs); (try revert hrn); (try revert rr)
            (try revert Rc); (try revert Nc); (try revert Fc); (try revert ih); (try revert Na); (try revert Fa); (try revert of1); (try revert of2)
            (try revert hcx); (try revert hcs); (try revert hcn); (try revert hzc); (try revert lifted); (try revert o2'); (try revert o1'); (try revert codeHd)
            (try revert hT9); (try revert hT8); (try revert hlv1); (try revert hol); (try revert tkk); (try revert hh); (try revert lv1); (try revert ol)
            (try revert h); (try revert tk); (try revert hpl); (try revert hml); (try revert hwl); (try revert t); (try revert of5); (try revert of4)
            (try revert of3); (try revert hlo); (try revert hsm); (try revert hmv); (try revert hwv); (try revert hat2); (try revert hat); (try revert hms)
            (try revert hik); (try revert exM); (try revert nm); (try revert nw); (try revert mvs); (try revert wvs); (try revert ms); (try revert ta)
            (try revert at_); (try revert lev); (try revert lv); (try revert o); (try revert i); (try revert k); (try revert I); (try revert hc15)
            (try revert hc1); (try revert c); (try revert zcell); (try revert zd1); (try revert zd0); (try revert zdt); (try revert zdep); (try revert hq')
            (try revert hp'); (try revert hI'); (try revert ztk); (try revert zh); (try revert zta); (try revert zns); (try revert zvs); (try revert znc)
            (try revert zn); (try revert zcl); (try revert zsrc); (try revert hm1); (try revert m1)
            exact hC4.out
        · skip
          walk_at "d_clear"
          revert o1' o2'
          walk_at "d_split"
          intro o1' o2'
          (repeat (rename_i x; revert x))
          (try revert tj); (try revert j); (try revert hd2); (try revert hy2); (try revert hmn); (try revert y); (try revert hyl); (try revert ha3)
          (try revert ha2); (try revert hmm); (try revert hym); (try revert hy); (try revert hq); (try revert hrst); (try revert ta2); (try revert at2)
          (try revert mm); (try revert ys); (try revert q); (try revert g); (try revert hr2); (try revert hrs); (try revert hrn); (try revert rr)
          (try revert Rc); (try revert Nc); (try revert Fc); (try revert ih); (try revert Na); (try revert Fa); (try revert of1); (try revert of2)
          (try revert hcx); (try revert hcs); (try revert hcn); (try revert hzc); (try revert lifted); (try revert o2'); (try revert o1'); (try revert codeHd)
          (try revert hT9); (try revert hT8); (try revert hlv1); (try revert hol); (try revert tkk); (try revert hh); (try revert lv1); (try revert ol)
          (try revert h); (try revert tk); (try revert hpl); (try revert hml); (try revert hwl); (try revert t); (try revert of5); (try revert of4)
          (try revert of3); (try revert hlo); (try revert hsm); (try revert hmv); (try revert hwv); (try revert hat2); (try revert hat); (try revert hms)
          (try revert hik); (try revert exM); (try revert nm); (try revert nw); (try revert mvs); (try revert wvs); (try revert ms); (try revert ta)
          (try revert at_); (try revert lev); (try revert lv); (try revert o); (try revert i); (try revert k); (try revert I); (try revert hc15)
          (try revert hc1); (try revert c); (try revert zcell); (try revert zd1); (try revert zd0); (try revert zdt); (try revert zdep); (try revert hq')
          (try revert hp'); (try revert hI'); (try revert ztk); (try revert zh); (try revert zta); (try revert zns); (try revert zvs); (try revert znc)
          (try revert zn); (try revert zcl); (try revert zsrc); (try revert hm1); (try revert m1)
          exact hC2.out
    | succ j ih2 =>
      intro q ys mm at2 ta2 hrst hq hy hym hmm ha2 ha3
      refine LCg.CompRest.succ ?_
      intro v I2 oI C oC D m₂ h tk E' hv hC' hx' F' N' off ne
      obtain ⟨t9, hv⟩ := hv
      subst hv
      have hz3 : ∀ p ∈ (I2, oI) :: (C, oC) :: (D, LCg.lst ys) :: _, p.1 ≠ zsrc := List.forall_mem_cons.mpr ⟨Ne.symm off.1.1, List.forall_mem_cons.mpr ⟨Ne.symm off.1.2.1, List.forall_mem_cons.mpr ⟨Ne.symm off.1.2.2, hrst⟩⟩⟩
      k_steps
      refine stop_to ?_
      with_reducible rename News _ _ _ _ => Nz
      with_reducible rename Fr _ _ _ _ => Fz
      refine' LCg.CompEnd.intro Fz Nz ?nnx1 ?subx1 ?offx1 ?Sx1 (ih2 (q + 1) (ys ++ [.str zx zxt]) (mm ++ [zx]) _ _ hrst ?w1x1 ?w2x1 ?w3x1 ?w4x1 ?w5x1 ?w6x1)
      (case subx1 => walk_at "d_sub")
      (case Sx1 => trivial)
      (case w1x1 => omega)
      (case w2x1 => exact lenSnoc hy)
      (case w3x1 => exact hym.append (.cons _ _ .nil))
      (case w4x1 => exact List.forall_mem_append.mpr ⟨hmm, List.forall_mem_cons.mpr ⟨zx0, fun _ h => nomatch h⟩⟩)
      (case w5x1 => omega)
      (case w6x1 => omega)
      (case offx1 => exact ⟨off.1, off.2⟩)




theorem C1 : G4.1.1 := by
  intro m1 hm1 zsrc zcl zn znc zvs zns zta zh ztk hI' hp' hq' zdep zdt zd0 zd1 zcell c hc1 hc15 I k i o lv lev at_ ta ms wvs mvs nw nm exM hik hms hat hat2 hwv hmv hsm hlo of3 of4 of5 t hwl hml hpl tk h ol lv1 hh tkk hol hlv1 rr hr2 g q mm at2 ta2 hq hy hym hmm ha2 ha3 hyl hmn hy2 _ _ _ _ _ hT8 hT9 codeHd o1' o2' _ _ _ _ _ _ _ _ _ _ _ _ _ _ _ _ _ _ _ _ _ _ _ _ _ _ lifted _ _ _ _ _ _ _ _ _ _ _ _ _ _ _ _ _ _ hzc _ _ _ hcn hcs hcx _ _ _ _ _ _ _ _ _ _ _ _ _ _ _ _ _ _ _ _ of2 _ _ _ _ of1 hrst _ _ _ _ _ ih _ _ _ _ _ _ _ _ _ _ _ _ _ _ _ _ _ _ _ _ _ _ _ _ _ _ _ _ _ hrn hrs _ _ _ _ _ _ _ _ _ _ _ _
  k_steps
  refine stop_to ?_
  with_reducible rename Fr _ _ _ _ => Fe
  with_reducible rename News _ _ _ _ => Ne
  refine' UnrEnd.intro Fe Ne ?nnx2 ?subx2 ?offx2 (RangeRest.frame ?fex2 (ih (i + 1) ol lv1 (some (.int (0 + (i : Int)) t)) _ _ (ms ++ [mm]) _ (mvs ++ [.ref ?ddx2]) _ _ ((?ddx2, LCg.lst []) :: exM) ?i1x2 ?i2x2 ?i3x2 ?i4x2 ?i5x2 ?i6x2 ?i7x2 ?i8x2 ?i9x2 ?iAx2 ?iBx2 ?iCx2 ?iDx2 ?iEx2))
  (case subx2 => walk_at "d_sub")
  (case fex2 => first | exact rfl | exact cf_set)
  (case i5x2 => rw [pre_snoc]; exact (hwv.append (.cons _ _ .nil)).append hym)
  (case i6x2 => exact (hmv.mono fun p hp => .tail _ hp).snoc (.head _) hym)
  (case i1x2 => omega)
  (case i2x2 => rw [List.length_append, hms]; rfl)
  (case i3x2 => omega)
  (case i4x2 => simp only [List.length_cons, List.length_nil] at hyl hy; omega)
  (case i7x2 => exact List.forall_mem_append.mpr ⟨hsm, List.forall_mem_cons.mpr ⟨⟨by simp only [List.length_cons, List.length_nil] at hyl hy; omega, hmm⟩, fun _ h => nomatch h⟩⟩)
  (case i8x2 => assumption)
  (case i9x2 => rw [lostR_snoc, ← hlo, hms]; rw [Nat.zero_add]; exact hol.trans (lostStep_keep (.inl hmn)).symm)
  (case offx2 => walk_at "d_off")
  (case iAx2 => refine List.forall_mem_cons.mpr ⟨?_, by assumption⟩; k_ne)
  (case iBx2 => refine List.forall_mem_cons.mpr ⟨?_, by assumption⟩; k_ne)
  (case iCx2 => refine List.forall_mem_cons.mpr ⟨?_, by assumption⟩; k_ne)
  (case iDx2 => refine List.forall_mem_cons.mpr ⟨?_, by assumption⟩; k_ne)
  (case iEx2 => refine List.forall_mem_cons.mpr ⟨?_, by assumption⟩; k_ne)




theorem C2 : G4.1.2.1 := by
  intro m1 hm1 zsrc zcl zn znc zvs zns zta zh ztk hI' hp' hq' zdep zdt zd0 zd1 zcell c hc1 hc15 I k i o lv lev at_ ta ms wvs mvs nw nm exM hik hms hat hat2 hwv hmv hsm hlo of3 of4 of5 t hwl hml hpl tk h ol lv1 hh tkk hol hlv1 rr hr2 g q ys mm at2 ta2 hq hmm ha2 ha3 y hy hym hyl hmn hy2 hd2 _ _ _ _ _ hT8 hT9 codeHd o1' o2' _ _ _ _ _ _ _ _ _ _ _ _ _ _ _ _ _ _ _ _ _ _ _ _ _ _ lifted _ _ _ _ _ _ _ _ _ _ _ _ _ _ _ _ _ _ hzc _ _ _ hcn hcs hcx _ _ _ _ _ _ _ _ _ _ _ _ _ _ _ _ _ _ _ _ of2 _ _ _ _ of1 hrst _ _ _ _ _ ih _ _ _ _ _ _ _ _ _ _ _ _ _ _ _ _ _ _ _ _ _ _ _ _ _ _ _ _ _ hrn hrs _ _ _ _ _ _ _ _ _ _ _ _
  k_steps
  refine stop_to ?_
  with_reducible rename Fr _ _ _ _ => Fe
  with_reducible rename News _ _ _ _ => Ne
  refine' UnrEnd.intro Fe Ne ?nnx3 ?subx3 ?offx3 (RangeRest.frame ?fex3 (ih (i + 1) ol lv1 (some (.int (0 + (i : Int)) t)) _ _ (ms ++ [mm]) _ (mvs ++ [.ref ?ddx3]) _ _ ((?ddx3, LCg.lst (y :: ys)) :: exM) ?i1x3 ?i2x3 ?i3x3 ?i4x3 ?i5x3 ?i6x3 ?i7x3 ?i8x3 ?i9x3 ?iAx3 ?iBx3 ?iCx3 ?iDx3 ?iEx3))
  (case subx3 => walk_at "d_sub")
  (case fex3 => first | exact rfl | exact cf_set)
  (case i5x3 => rw [pre_snoc]; exact (hwv.append (.cons _ _ .nil)).append hym)
  (case i6x3 => exact (hmv.mono fun p hp => .tail _ hp).snoc (.head _) hym)
  (case i1x3 => omega)
  (case i2x3 => rw [List.length_append, hms]; rfl)
  (case i3x3 => omega)
  (case i4x3 => simp only [List.length_cons, List.length_nil] at hyl hy; omega)
  (case i7x3 => exact List.forall_mem_append.mpr ⟨hsm, List.forall_mem_cons.mpr ⟨⟨by simp only [List.length_cons, List.length_nil] at hyl hy; omega, hmm⟩, fun _ h => nomatch h⟩⟩)
  (case i8x3 => assumption)
  (case i9x3 => rw [lostR_snoc, ← hlo, hms]; rw [Nat.zero_add]; exact hol.trans (lostStep_keep (.inr (by omega))).symm)
  (case offx3 => walk_at "d_off")
  (case iAx3 => refine List.forall_mem_cons.mpr ⟨?_, by assumption⟩; k_ne)
  (case iBx3 => refine List.forall_mem_cons.mpr ⟨?_, by assumption⟩; k_ne)
  (case iCx3 => refine List.forall_mem_cons.mpr ⟨?_, by assumption⟩; k_ne)
  (case iDx3 => refine List.forall_mem_cons.mpr ⟨?_, by assumption⟩; k_ne)
  (case iEx3 => refine List.forall_mem_cons.mpr ⟨?_, by assumption⟩; k_ne)




theorem C3 : G4.1.2.2.1 := by
  intro m1 hm1 zsrc zcl zn znc zvs zns zta zh ztk hI' hp' hq' zdep zdt zd0 zd1 zcell c hc1 hc15 I k i o lv lev at_ ta ms wvs mvs nw nm exM hik hms hat hat2 hwv hmv hsm hlo of3 of4 of5 t hwl hml hpl tk h hh tkk hol rr hr2 g q ys mm at2 ta2 hq hmm ha2 ha3 y hy hym hyl hmn hy2 hd2 _ _ _ _ _ hT8 hT9 codeHd o1' o2' _ _ _ _ _ _ _ _ _ _ _ _ _ _ _ _ _ _ _ _ _ _ _ _ _ _ lifted _ _ _ _ _ _ _ _ _ _ _ _ _ _ _ _ _ _ hzc _ _ _ hcn hcs hcx _ _ _ _ _ _ _ _ _ _ _ _ _ _ _ _ _ _ _ _ of2 _ _ _ _ of1 hrst _ _ _ _ _ ih _ _ _ _ _ _ _ _ _ _ _ _ _ _ _ _ _ _ _ _ _ _ _ _ _ _ _ _ _ hrn hrs _ _ _ _ _ _ _ _ _ _ _ _
  k_steps
  refine stop_to ?_
  with_reducible rename Fr _ _ _ _ => Fe
  with_reducible rename News _ _ _ _ => Ne
  refine' UnrEnd.intro Fe Ne ?nnx4 ?subx4 ?offx4 (RangeRest.frame ?fex4 (ih (i + 1) (some ((pre ms).length + 1)) (.int ((wvs ++ [_]).length : Int) _) (some (.int (0 + (i : Int)) t)) _ _ (ms ++ [mm]) _ (mvs ++ [.ref ?ddx4]) _ _ ((?ddx4, LCg.lst (y :: ys)) :: exM) ?i1x4 ?i2x4 ?i3x4 ?i4x4 ?i5x4 ?i6x4 ?i7x4 ?i8x4 ?i9x4 ?iAx4 ?iBx4 ?iCx4 ?iDx4 ?iEx4))
  (case subx4 => walk_at "d_sub")
  (case fex4 => first | exact rfl | exact cf_set)
  (case i5x4 => rw [pre_snoc]; exact (hwv.append (.cons _ _ .nil)).append hym)
  (case i6x4 => exact (hmv.mono fun p hp => .tail _ hp).snoc (.head _) hym)
  (case i1x4 => omega)
  (case i2x4 => rw [List.length_append, hms]; rfl)
  (case i3x4 => omega)
  (case i4x4 => simp only [List.length_cons, List.length_nil] at hyl hy; omega)
  (case i7x4 => exact List.forall_mem_append.mpr ⟨hsm, List.forall_mem_cons.mpr ⟨⟨by simp only [List.length_cons, List.length_nil] at hyl hy; omega, hmm⟩, fun _ h => nomatch h⟩⟩)
  (case i8x4 => exact ⟨_, by rw [List.length_append, hwl]; rfl⟩)
  (case i9x4 => rw [lostR_snoc, ← hlo, hms]; rw [Nat.zero_add, lostStep_set hol.symm hmn (by omega)])
  (case offx4 => walk_at "d_off")
  (case iAx4 => refine List.forall_mem_cons.mpr ⟨?_, by assumption⟩; k_ne)
  (case iBx4 => refine List.forall_mem_cons.mpr ⟨?_, by assumption⟩; k_ne)
  (case iCx4 => refine List.forall_mem_cons.mpr ⟨?_, by assumption⟩; k_ne)
  (case iDx4 => refine List.forall_mem_cons.mpr ⟨?_, by assumption⟩; k_ne)
  (case iEx4 => refine List.forall_mem_cons.mpr ⟨?_, by assumption⟩; k_ne)




theorem C4 : G4.1.2.2.2 := by
  intro m1 hm1 zsrc zcl zn znc zvs zns zta zh ztk hI' hp' hq' zdep zdt zd0 zd1 zcell c hc1 hc15 I k i o lv lev at_ ta ms wvs mvs nw nm exM hik hms hat hat2 hwv hmv hsm hlo of3 of4 of5 t hwl hml hpl tk h hh tkk rr hr2 g q ys mm at2 ta2 hq hmm ha2 ha3 y hy hym hyl hmn hy2 hd2 j hol tj _ _ _ _ _ hT8 hT9 codeHd o1' o2' _ _ _ _ _ _ _ _ _ _ _ _ _ _ _ _ _ _ _ _ _ _ _ _ _ _ lifted _ _ _ _ _ _ _ _ _ _ _ _ _ _ _ _ _ _ hzc _ _ _ hcn hcs hcx _ _ _ _ _ _ _ _ _ _ _ _ _ _ _ _ _ _ _ _ of2 _ _ _ _ of1 hrst _ _ _ _ _ ih _ _ _ _ _ _ _ _ _ _ _ _ _ _ _ _ _ _ _ _ _ _ _ _ _ _ _ _ _ hrn hrs _ _ _ _ _ _ _ _ _ _ _ _
  k_steps
  refine stop_to ?_
  with_reducible rename Fr _ _ _ _ => Fe
  with_reducible rename News _ _ _ _ => Ne
  refine' UnrEnd.intro Fe Ne ?nnx5 ?subx5 ?offx5 (RangeRest.frame ?fex5 (ih (i + 1) (some j) (.int (j : Int) tj) (some (.int (0 + (i : Int)) t)) _ _ (ms ++ [mm]) _ (mvs ++ [.ref ?ddx5]) _ _ ((?ddx5, LCg.lst (y :: ys)) :: exM) ?i1x5 ?i2x5 ?i3x5 ?i4x5 ?i5x5 ?i6x5 ?i7x5 ?i8x5 ?i9x5 ?iAx5 ?iBx5 ?iCx5 ?iDx5 ?iEx5))
  (case subx5 => walk_at "d_sub")
  (case fex5 => first | exact rfl | exact cf_set)
  (case i5x5 => rw [pre_snoc]; exact (hwv.append (.cons _ _ .nil)).append hym)
  (case i6x5 => exact (hmv.mono fun p hp => .tail _ hp).snoc (.head _) hym)
  (case i1x5 => omega)
  (case i2x5 => rw [List.length_append, hms]; rfl)
  (case i3x5 => omega)
  (case i4x5 => simp only [List.length_cons, List.length_nil] at hyl hy; omega)
  (case i7x5 => exact List.forall_mem_append.mpr ⟨hsm, List.forall_mem_cons.mpr ⟨⟨by simp only [List.length_cons, List.length_nil] at hyl hy; omega, hmm⟩, fun _ h => nomatch h⟩⟩)
  (case i8x5 => exact ⟨_, rfl⟩)
  (case i9x5 => rw [lostR_snoc, ← hlo, hms]; rw [Nat.zero_add, lostStep_some hol.symm])
  (case offx5 => walk_at "d_off")
  (case iAx5 => refine List.forall_mem_cons.mpr ⟨?_, by assumption⟩; k_ne)
  (case iBx5 => refine List.forall_mem_cons.mpr ⟨?_, by assumption⟩; k_ne)
  (case iCx5 => refine List.forall_mem_cons.mpr ⟨?_, by assumption⟩; k_ne)
  (case iDx5 => refine List.forall_mem_cons.mpr ⟨?_, by assumption⟩; k_ne)
  (case iEx5 => refine List.forall_mem_cons.mpr ⟨?_, by assumption⟩; k_ne)




noncomputable def G5 : { P : Prop // Keep P → G2.1.1 } := by
  refine' ⟨_, fun hk1 => _⟩
  rotate_left
  · intro m1 hm1 zsrc zcl zn znc zvs zns zta zh ztk hI' hp' hq' zdep zdt zd0 zd1 tk zcell c hc1 hc15 I _ _ _ hT8 hT9 codeHd o1' o2' _ _ _ _ _ _ _ _ _ _ _ _ _ _ _ _ _ _ _ _ _ _ _ _ _ _ lifted _ _ _ _ _ _ _ _ _ _ _ _ _ _ _ _ _ _ hzc _ _ _ hcn hcs hcx _ _ _ _ _ _ _ _ _ _ _ _ _ _ _ _ _ _ _ _ _ _ _ _ _ _ _ _ _ _ _ _ _ _ _ _ _ _ _ _ _ _ _ _ _ _ _ _ _ _ _ _ _ _ _ _
    intro i o lv lev at_ ta ms wvs mvs nw nm exM hik hms hat hat2 hwv hmv hsm hlv hlo of1 of2 of3 of4 of5
    refine RangeRest.zero ?_
    intro h tk F N
    have hwl := hwv.length
    have hml := hmv.length
    have hpl := pre_len ms hsm
    have hmc : ms.length = c := by omega
    have hat4 : at_ < 10000 := by omega
    k_steps
    refine stop_to ?_
    with_reducible rename Fr _ _ _ _ => Fq5
    with_reducible rename News _ _ _ _ => Nq5
    with_reducible rename IsRange _ _ _ _ _ _ _ _ => Rq5
    obtain ⟨zwl, zW, znw, hzwl, hzW, hznw⟩ := wlOf Nq5
    have hz38 : zcell.1 ≠ 38 := by rw [hzc]; k_ne
    have Fq6 := df_fr Fq5 rfl rfl
    obtain ⟨hdn, hds⟩ := down_nat Rq5 hcx hc15
    refine' krs_iter rfl Rq5 hds hdn Fq6 (news := (_, listOf (wvs ++ List.replicate _ _).toArray _) :: (_, listOf mvs.toArray nm) :: (zsrc, listOf #[.ref zcl, .int at_ ta] zn) :: (zcl, listOf zvs.toArray znc) :: zcell :: (38, tabObj #[]) :: (_, { cls := .type "tuple", data := .seq #[] }) :: exM) ?sub7 fun I7 hI7 => ?_
    (case sub7 => exact newsSub Nq5 (by rw [hzc]; walk_at "d_sub"))
    have hI8 := allLt_of hI7
    simp only [AllLt] at hI8
    refine' (?H7 : ∀ (k i : Nat) (dv : Value) (lev : Option Value) (exT : List (Addr × Obj)),
      i + k = c → (∀ p ∈ exT, isTup p) → DatIn exT dv (.tuple (dueD (ms.drop (c - i)))) →
      KrsRest ?a11 ?a12 ?a13 ?a14 ?a15 ?a16 ?a17 ?a18 ?a19 ?a1A I7 ?a1B ?a1C ?a1D k i (df (some dv) lev ?M7) (?e1 :: ?e2 :: ?e3 :: ?e4 :: ?e5 :: (38, tabObj #[]) :: (exT ++ exM)))
      c 0 _ _ [(_, { cls := .type "tuple", data := .seq #[] })] (by omega) (List.forall_mem_cons.mpr ⟨rfl, fun _ h => nomatch h⟩) (by rw [show ms.drop (c - 0) = [] from List.drop_eq_nil_of_le (by omega)]; exact .tuple (vs := []) (.head _) .nil)
    clear hI7
    walk_at "d_clear"
    revert o1' o2' hI8
    walk_at "d_split"
    intro o1' o2' hI8
    (repeat (rename_i x; revert x))
    (try revert hI8); (try revert hI7); (try revert I7); (try revert hds); (try revert hdn); (try revert Fq6); (try revert hz38); (try revert hznw)
    (try revert hzW); (try revert hzwl); (try revert znw); (try revert zW); (try revert zwl); (try revert Rq5); (try revert Nq5); (try revert Fq5)
    (try revert hat4); (try revert hmc); (try revert hpl); (try revert hml); (try revert hwl); (try revert N); (try revert F); (try revert h)
    (try revert t); (try revert of5); (try revert of4); (try revert of3); (try revert of2); (try revert of1); (try revert hlo); (try revert hlv)
    (try revert hsm); (try revert hmv); (try revert hwv); (try revert hat2); (try revert hat); (try revert hms); (try revert hik); (try revert exM)
    (try revert nm); (try revert nw); (try revert mvs); (try revert wvs); (try revert ms); (try revert ta); (try revert at_); (try revert lev)
    (try revert lv); (try revert o); (try revert i); (try revert Rq); (try revert Fq2); (try revert Nq); (try revert Fq); (try revert hI2)
    (try revert hI); (try revert hcx); (try revert hcs); (try revert hcn); (try revert hzc); (try revert lifted); (try revert o2'); (try revert o1')
    (try revert codeHd); (try revert hT9); (try revert hT8); (try revert I); (try revert hc15); (try revert hc1); (try revert c); (try revert zcell)
    (try revert tk); (try revert zd1); (try revert zd0); (try revert zdt); (try revert zdep); (try revert hq'); (try revert hp'); (try revert hI')
    (try revert ztk); (try revert zh); (try revert zta); (try revert zns); (try revert zvs); (try revert znc); (try revert zn); (try revert zcl)
    (try revert zsrc); (try revert hm1); (try revert m1)
    exact hk1.out




noncomputable def G6 : { PQ : Prop × Prop // Keep PQ.1 → Keep PQ.2 → G5.1 } := by
  refine' ⟨(_, _), fun hKZ hKS => _⟩
  rotate_left 2
  · intro m1 hm1 zsrc zcl zn znc zvs zns zta zh ztk hI' hp' hq' zdep zdt zd0 zd1 tk zcell c hc1 hc15 I i o lv lev at_ ta ms wvs mvs nw nm exM hik hms hat hat2 hwv hmv hsm hlv hlo of3 of4 of5 h hwl hml hpl hmc hat4 zwl zW znw hz38 I7 _ _ _ _ hT8 hT9 codeHd o1' o2' _ _ _ _ _ _ _ _ _ _ _ _ _ _ _ _ _ _ _ _ _ _ _ _ _ _ lifted _ _ _ _ _ _ _ _ _ _ _ _ _ _ _ _ _ _ hzc _ _ _ hcn hcs hcx hdn hds _ _ _ _ _ _ _ _ _ _ _ _ _ _ _ _ _ _ _ _ of2 hzwl _ _ _ _ of1 _ _ _ _ _ _ _ _ _ _ _ _ _ _ _ _ _ _ _ _ _ _ _ _ _ _ _ _ _ _ _ _ _ hzW _ _ _ _ _ _ hznw _ _ hI8 _ _ _ _ _ _ _ _ _ _ _ _ _ _ _ _ _ _ _ _ _ _ _ _ _ _ _ _ _ _ _ _ _ _ _ k
    induction k with
    | zero =>
      (repeat (rename_i x; revert x))
      (try revert hI8); (try revert hznw); (try revert hzW); (try revert of1); (try revert hzwl); (try revert of2); (try revert hds); (try revert hdn)
      (try revert hcx); (try revert hcs); (try revert hcn); (try revert hzc); (try revert lifted); (try revert o2'); (try revert o1'); (try revert codeHd)
      (try revert hT9); (try revert hT8); (try revert I7); (try revert hz38); (try revert znw); (try revert zW); (try revert zwl); (try revert hat4)
      (try revert hmc); (try revert hpl); (try revert hml); (try revert hwl); (try revert h); (try revert of5); (try revert of4); (try revert of3)
      (try revert hlo); (try revert hlv); (try revert hsm); (try revert hmv); (try revert hwv); (try revert hat2); (try revert hat); (try revert hms)
      (try revert hik); (try revert exM); (try revert nm); (try revert nw); (try revert mvs); (try revert wvs); (try revert ms); (try revert ta)
      (try revert at_); (try revert lev); (try revert lv); (try revert o); (try revert i); (try revert I); (try revert hc15); (try revert hc1)
      (try revert c); (try revert zcell); (try revert tk); (try revert zd1); (try revert zd0); (try revert zdt); (try revert zdep); (try revert hq')
      (try revert hp'); (try revert hI'); (try revert ztk); (try revert zh); (try revert zta); (try revert zns); (try revert zvs); (try revert znc)
      (try revert zn); (try revert zcl); (try revert zsrc); (try revert hm1); (try revert m1)
      exact hKZ.out
    | succ k ih7 =>
      (repeat (rename_i x; revert x))
      (try revert ih7); (try revert k); (try revert hI8); (try revert hznw); (try revert hzW); (try revert of1); (try revert hzwl); (try revert of2)
      (try revert hds); (try revert hdn); (try revert hcx); (try revert hcs); (try revert hcn); (try revert hzc); (try revert lifted); (try revert o2')
      (try revert o1'); (try revert codeHd); (try revert hT9); (try revert hT8); (try revert I7); (try revert hz38); (try revert znw); (try revert zW)
      (try revert zwl); (try revert hat4); (try revert hmc); (try revert hpl); (try revert hml); (try revert hwl); (try revert h); (try revert of5)
      (try revert of4); (try revert of3); (try revert hlo); (try revert hlv); (try revert hsm); (try revert hmv); (try revert hwv); (try revert hat2)
      (try revert hat); (try revert hms); (try revert hik); (try revert exM); (try revert nm); (try revert nw); (try revert mvs); (try revert wvs)
      (try revert ms); (try revert ta); (try revert at_); (try revert lev); (try revert lv); (try revert o); (try revert i); (try revert I)
      (try revert hc15); (try revert hc1); (try revert c); (try revert zcell); (try revert tk); (try revert zd1); (try revert zd0); (try revert zdt)
      (try revert zdep); (try revert hq'); (try revert hp'); (try revert hI'); (try revert ztk); (try revert zh); (try revert zta); (try revert zns)
      (try revert zvs); (try revert znc); (try revert zn); (try revert zcl); (try revert zsrc); (try revert hm1); (try revert m1)
      exact hKS.out




theorem T7 : G6.1.2 := by
  intro m1 hm1 zsrc zcl zn znc zvs zns zta zh ztk hI' hp' hq' zdep zdt zd0 zd1 tk zcell c hc1 hc15 I i o lv lev at_ ta ms wvs mvs nw nm exM hik hms hat hat2 hwv hmv hsm hlv hlo of3 of4 of5 h hwl hml hpl hmc hat4 zwl zW znw hz38 I7 k _ _ _ _ hT8 hT9 codeHd o1' o2' _ _ _ _ _ _ _ _ _ _ _ _ _ _ _ _ _ _ _ _ _ _ _ _ _ _ lifted _ _ _ _ _ _ _ _ _ _ _ _ _ _ _ _ _ _ hzc _ _ _ hcn hcs hcx hdn hds _ _ _ _ _ _ _ _ _ _ _ _ _ _ _ _ _ _ _ _ of2 hzwl _ _ _ _ of1 _ _ _ _ _ _ _ _ _ _ _ _ _ _ _ _ _ _ _ _ _ _ _ _ _ _ _ _ _ _ _ _ _ hzW _ _ _ _ _ _ hznw _ _ hI8 _ _ _ _ ih7 _ _ _ _ _ _ _ _ _ _ _ _ _ _ _ _ _ _ _ _ _ _ _ _ _ _ _ _ _ _ _
  intro i dv lev exT hik7 htup hdat
  obtain ⟨lv7, hlv7⟩ : ∃ j : Nat, j + 1 + i = c := ⟨c - 1 - i, by omega⟩
  refine KrsRest.succ (v := (lv7 : Int)) (by omega) ?_
  intro t h tk F N
  obtain ⟨mm, hmm⟩ : ∃ mm, ms[lv7]? = some mm := ⟨ms[lv7]'(by omega), List.getElem?_eq_getElem (by omega)⟩
  obtain ⟨am, vm, nmm, hgm, hmem, hsmm⟩ := hmv.get hmm
  have hdrop : ms.drop lv7 = mm :: ms.drop (c - i) := by
    rw [List.drop_eq_getElem_cons (by omega : lv7 < ms.length), show lv7 + 1 = c - i by omega]
    congr 1
    rw [List.getElem?_eq_getElem (by omega : lv7 < ms.length)] at hmm
    exact Option.some.inj hmm
  have hmm2 := (hsm mm (List.mem_of_getElem? hmm)).1
  have hvl := hsmm.length
  have hlv8 : lv7 < 10000 := by omega
  k_steps
  refine stop_to ?_
  with_reducible rename Fr _ _ _ _ => Fc
  with_reducible rename News _ _ _ _ => Nc
  have mem8 := memOf Nc (p := (am, listOf vm.toArray nmm)) (by repeat (first | exact List.mem_append_right _ hmem | refine List.Mem.tail _ ?_))
  refine' LCg.CompSrc.ledger (its := vm.toArray) rfl Fc Nc mem8 ?sz8 fun g => ?_
  (case sz8 => rw [sizeLine_eq, List.size_toArray]; omega)
  refine' (?H9 : ∀ (j q : Nat) (ys : List Value) (exB : List (Addr × Obj)), q + j = vm.length → ys.length = q → (∀ p ∈ exB, isTup p) → DatAll exB ys ((mm.take q).map fun x => .tuple [.str x]) →
    LCg.CompRest ?c1 ?c2 ?c3 ?c4 ?c5 ?c6 ?c7 ?c8 ?c9 ?cA ?cB ?cC ?cD ?cE ?cF j q ys (exB ++ ?R9)) _ 0 [] [] (by rw [List.size_toArray]; omega) rfl (fun _ h => nomatch h) .nil
  intro j
  induction j with
  | zero =>
    intro q ys exB hq hy htB hdB
    refine LCg.CompRest.zero ?_
    have hq2 : q = mm.length := by omega
    subst hq2
    rw [List.take_length] at hdB
    have hy10 : ys.length ≤ 10000 := by omega
    by_cases hi0 : i = 0
    · k_steps
      refine stop_to ?_
      with_reducible rename Fr _ _ _ _ => Fx
      with_reducible rename News _ _ _ _ => Nx
      refine' dueStep0 (exT := exT) Fx Nx ?sBz1 hdB htB ?hzz1 ?kz1
      (case sBz1 => (intro p hp; repeat (first | exact List.mem_append_left _ hp | refine List.Mem.tail _ ?_ | refine List.mem_append_right _ ?_)))
      (case hzz1 => rw [List.length_map]; omega)
      intro v9 ex9 h9 F9 N9 ht9 D9
      k_steps
      refine stop_to ?_
      with_reducible rename Fr _ _ _ _ => Fe
      with_reducible rename News _ _ _ _ => Ne
      refine' UnrEnd.intro Fe Ne ?nny1 ?suby1 ?offy1 (KrsRest.frame ?fey1 (ih7 (i + 1) v9 (some (.int (lv7 : Int) t)) ex9 ?j1y1 ht9 ?j3y1))
      (case fey1 => exact df_due)
      (case j3y1 =>
        rw [show c - (i + 1) = lv7 by omega, hdrop, show ms.drop (c - i) = [] from List.drop_eq_nil_of_le (by omega)]
        rw [List.append_nil] at D9
        rw [dueD_last, List.append_nil]
        exact D9)
      (case j1y1 => omega)
      (case suby1 =>
        iterate 7 (refine List.forall_mem_cons.mpr ⟨List.mem_append_right _ (.tail _ (List.mem_append_right _ (by k_mem))), ?_⟩)
        exact List.forall_mem_append.mpr ⟨fun p hp => List.mem_append_left _ hp, fun p hp => List.mem_append_right _ (.tail _ (List.mem_append_right _ (.tail _ (.tail _ (.tail _ (.tail _ (.tail _ (.tail _ (.tail _ (List.mem_append_right _ hp)))))))))) ⟩)
      (case offy1 =>
        iterate 6 (refine List.forall_mem_cons.mpr ⟨by k_ne, ?_⟩)
        refine List.forall_mem_append.mpr ⟨tupOff Ne (List.mem_append_right _ (.tail _ (List.mem_append_right _ (.head _)))) (by simp [krsIt]) (fun p hp => List.mem_append_left _ hp) ht9, ?_⟩
        exact allLt_ne hI8.2.2.2.2.2.2.2)
    · k_steps
      refine stop_to ?_
      with_reducible rename Fr _ _ _ _ => Fx
      with_reducible rename News _ _ _ _ => Nx
      refine' dueStep1 Fx Nx ?sBz2 ?sTz2 hdB htB htup hdat ?hzz2 ?kz2
      (case sBz2 => (intro p hp; repeat (first | exact List.mem_append_left _ hp | refine List.Mem.tail _ ?_ | refine List.mem_append_right _ ?_)))
      (case sTz2 => (intro p hp; repeat (first | exact List.mem_append_left _ hp | refine List.Mem.tail _ ?_ | refine List.mem_append_right _ ?_)))
      (case hzz2 => rw [List.length_map]; omega)
      intro v9 ex9 h9 F9 N9 ht9 D9
      k_steps
      refine stop_to ?_
      with_reducible rename Fr _ _ _ _ => Fe
      with_reducible rename News _ _ _ _ => Ne
      refine' UnrEnd.intro Fe Ne ?nny2 ?suby2 ?offy2 (KrsRest.frame ?fey2 (ih7 (i + 1) v9 (some (.int (lv7 : Int) t)) ex9 ?j1y2 ht9 ?j3y2))
      (case fey2 => exact df_due)
      (case j3y2 =>
        obtain ⟨m9, r9, e9⟩ : ∃ m9 r9, ms.drop (c - i) = m9 :: r9 := ⟨_, _, List.drop_eq_getElem_cons (by omega : c - i < ms.length)⟩
        rw [show c - (i + 1) = lv7 by omega, hdrop]
        rw [e9] at D9 ⊢
        exact D9)
      (case j1y2 => omega)
      (case suby2 =>
        iterate 7 (refine List.forall_mem_cons.mpr ⟨List.mem_append_right _ (.tail _ (List.mem_append_right _ (by k_mem))), ?_⟩)
        exact List.forall_mem_append.mpr ⟨fun p hp => List.mem_append_left _ hp, fun p hp => List.mem_append_right _ (.tail _ (List.mem_append_right _ (.tail _ (.tail _ (.tail _ (.tail _ (.tail _ (.tail _ (.tail _ (List.mem_append_right _ hp)))))))))) ⟩)
      (case offy2 =>
        iterate 6 (refine List.forall_mem_cons.mpr ⟨by k_ne, ?_⟩)
        refine List.forall_mem_append.mpr ⟨tupOff Ne (List.mem_append_right _ (.tail _ (List.mem_append_right _ (.head _)))) (by simp [krsIt]) (fun p hp => List.mem_append_left _ hp) ht9, ?_⟩
        exact allLt_ne hI8.2.2.2.2.2.2.2)
  | succ j ih9 =>
    intro q ys exB hq hy htB hdB
    refine LCg.CompRest.succ ?_
    intro v I2 oI C oC D m₂ h tk E' hv hC' hx' F' N' off ne
    obtain ⟨x, hx⟩ : ∃ x, mm[q]? = some x := ⟨mm[q]'(by omega), List.getElem?_eq_getElem (by omega)⟩
    obtain ⟨t8, hvq⟩ := hsmm.get hx
    have hv2 : vm[q]? = some v := by simpa using hv
    rw [hvq] at hv2
    cases hv2
    k_steps
    refine stop_to ?_
    with_reducible rename News _ _ _ _ => Nz
    with_reducible rename Fr _ _ _ _ => Fz
    refine' LCg.CompEnd.intro Fz Nz ((?dd9, tupOf [.str x _] 0) :: (exB ++ _)) ?sub9 ?off9 ?S9 (ih9 (q + 1) (ys ++ [.ref ?dd9]) ((?dd9, tupOf [.str x _] 0) :: exB) ?w91 ?w92 ?w93 ?w94)
    (case sub9 => walk_at "d_sub")
    (case S9 => exact .inr ⟨_, .tail _ (List.mem_append_right _ mem8), rfl, _, rfl⟩)
    (case w91 => omega)
    (case w92 => exact lenSnoc hy)
    (case w93 => exact List.forall_mem_cons.mpr ⟨rfl, htB⟩)
    (case w94 =>
      have e9 : mm.take (q + 1) = mm.take q ++ [x] := by rw [List.take_add_one, hx]; rfl
      rw [e9, List.map_append]
      exact (hdB.mono fun p hp => .tail _ hp).append (.one (.tuple (.head _) (.cons (.str _ _) .nil))))
    (case off9 => exact ⟨⟨by k_ne, by k_ne, by k_ne⟩, off⟩)




noncomputable def G7 : { PQ : Prop × Prop // Keep PQ.1 → Keep PQ.2 → G6.1.1 } := by
  refine' ⟨(_, _), fun hKZ hKS => _⟩
  rotate_left 2
  · intro m1 hm1 zsrc zcl zn znc zvs zns zta zh ztk hI' hp' hq' zdep zdt zd0 zd1 tk zcell c hc1 hc15 I i o lv lev at_ ta ms wvs mvs nw nm exM hik hms hat hat2 hwv hmv hsm hlv hlo of3 of4 of5 h hwl hml hpl hmc hat4 zwl zW znw hz38 I7 _ _ _ _ hT8 hT9 codeHd o1' o2' _ _ _ _ _ _ _ _ _ _ _ _ _ _ _ _ _ _ _ _ _ _ _ _ _ _ lifted _ _ _ _ _ _ _ _ _ _ _ _ _ _ _ _ _ _ hzc _ _ _ hcn hcs hcx hdn hds _ _ _ _ _ _ _ _ _ _ _ _ _ _ _ _ _ _ _ _ of2 hzwl _ _ _ _ of1 _ _ _ _ _ _ _ _ _ _ _ _ _ _ _ _ _ _ _ _ _ _ _ _ _ _ _ _ _ _ _ _ _ hzW _ _ _ _ _ _ hznw _ _ hI8 _ _ _ _ _ _ _ _ _ _ _ _ _ _ _ _ _ _ _ _ _ _ _ _ _ _ _ _ _ _ _ _ _ _ _
    intro i dv lev exT hik7 htup hdat
    refine KrsRest.zero ?_
    intro h tk F N
    rw [show ms.drop (c - i) = ms by rw [show c - i = 0 by omega]; rfl] at hdat
    obtain ⟨m₀, ms', hme⟩ : ∃ m₀ ms', ms = m₀ :: ms' := by
      cases hq9 : ms with
      | nil => rw [hq9] at hmc; simp at hmc; omega
      | cons a b => exact ⟨a, b, rfl⟩
    have hfl : flat ms = pre ms ++ List.replicate c (Str.ofString "END-IF") := by rw [flat_pre, hmc]
    have hfll : (flat ms).length = (pre ms).length + c := by rw [hfl, List.length_append, List.length_replicate]
    have hfl100 : (flat ms).length ≤ 900 := by rw [hfll]; omega
    k_steps
    refine stop_to ?_
    with_reducible rename Fr _ _ _ _ => Fh1
    with_reducible rename News _ _ _ _ => Nh1
    have hsm0 : ∀ x ∈ m₀, Sm x := (hsm m₀ (by rw [hme]; exact .head _)).2
    have hsm1 : ∀ m ∈ ms', ∀ x ∈ m, Sm x := fun m hm => (hsm m (by rw [hme]; exact .tail _ hm)).2
    have hl14 : ms'.length ≤ 14 := by rw [hme, List.length_cons] at hmc; omega
    rcases o with _ | j
    · cases hlv
      (repeat (rename_i x; revert x))
      (try revert tj); (try revert j); (try revert hl14); (try revert hsm1); (try revert hsm0); (try revert Nh1); (try revert Fh1); (try revert hfl100)
      (try revert hfll); (try revert hfl); (try revert hme); (try revert ms'); (try revert m₀); (try revert N); (try revert F); (try revert hdat)
      (try revert htup); (try revert hik7); (try revert exT); (try revert dv); (try revert hI8); (try revert hznw); (try revert hzW); (try revert of1)
      (try revert hzwl); (try revert of2); (try revert hds); (try revert hdn); (try revert hcx); (try revert hcs); (try revert hcn); (try revert hzc)
      (try revert lifted); (try revert o2'); (try revert o1'); (try revert codeHd); (try revert hT9); (try revert hT8); (try revert I7); (try revert hz38)
      (try revert znw); (try revert zW); (try revert zwl); (try revert hat4); (try revert hmc); (try revert hpl); (try revert hml); (try revert hwl)
      (try revert h); (try revert of5); (try revert of4); (try revert of3); (try revert hlo); (try revert hlv); (try revert hsm); (try revert hmv)
      (try revert hwv); (try revert hat2); (try revert hat); (try revert hms); (try revert hik); (try revert exM); (try revert nm); (try revert nw)
      (try revert mvs); (try revert wvs); (try revert ms); (try revert ta); (try revert at_); (try revert lev); (try revert lv); (try revert o)
      (try revert i); (try revert I); (try revert hc15); (try revert hc1); (try revert c); (try revert zcell); (try revert tk); (try revert zd1)
      (try revert zd0); (try revert zdt); (try revert zdep); (try revert hq'); (try revert hp'); (try revert hI'); (try revert ztk); (try revert zh)
      (try revert zta); (try revert zns); (try revert zvs); (try revert znc); (try revert zn); (try revert zcl); (try revert zsrc); (try revert hm1)
      (try revert m1)
      exact hKZ.out
    · obtain ⟨tj, rfl⟩ := hlv
      (repeat (rename_i x; revert x))
      (try revert tj); (try revert j); (try revert hl14); (try revert hsm1); (try revert hsm0); (try revert Nh1); (try revert Fh1); (try revert hfl100)
      (try revert hfll); (try revert hfl); (try revert hme); (try revert ms'); (try revert m₀); (try revert N); (try revert F); (try revert hdat)
      (try revert htup); (try revert hik7); (try revert exT); (try revert dv); (try revert hI8); (try revert hznw); (try revert hzW); (try revert of1)
      (try revert hzwl); (try revert of2); (try revert hds); (try revert hdn); (try revert hcx); (try revert hcs); (try revert hcn); (try revert hzc)
      (try revert lifted); (try revert o2'); (try revert o1'); (try revert codeHd); (try revert hT9); (try revert hT8); (try revert I7); (try revert hz38)
      (try revert znw); (try revert zW); (try revert zwl); (try revert hat4); (try revert hmc); (try revert hpl); (try revert hml); (try revert hwl)
      (try revert h); (try revert of5); (try revert of4); (try revert of3); (try revert hlo); (try revert hlv); (try revert hsm); (try revert hmv)
      (try revert hwv); (try revert hat2); (try revert hat); (try revert hms); (try revert hik); (try revert exM); (try revert nm); (try revert nw)
      (try revert mvs); (try revert wvs); (try revert ms); (try revert ta); (try revert at_); (try revert lev); (try revert lv); (try revert o)
      (try revert i); (try revert I); (try revert hc15); (try revert hc1); (try revert c); (try revert zcell); (try revert tk); (try revert zd1)
      (try revert zd0); (try revert zdt); (try revert zdep); (try revert hq'); (try revert hp'); (try revert hI'); (try revert ztk); (try revert zh)
      (try revert zta); (try revert zns); (try revert zvs); (try revert znc); (try revert zn); (try revert zcl); (try revert zsrc); (try revert hm1)
      (try revert m1)
      exact hKS.out




theorem B1 : G7.1.1 := by
  intro m1 hm1 zsrc zcl zn znc zvs zns zta zh ztk hI' hp' hq' zdep zdt zd0 zd1 tk zcell c hc1 hc15 I i lev at_ ta ms wvs mvs nw nm exM hat hwv hmv hsm hlo of3 of4 of5 h hwl hml hpl hmc hat4 zwl zW znw hz38 I7 dv exT hik7 htup hdat m₀ ms' hme hfl hfll hfl100 hsm0 hsm1 hl14 _ _ hik hms hat2 _ _ _ _ _ _ hT8 hT9 codeHd o1' o2' _ _ _ _ _ _ _ _ _ _ _ _ _ _ _ _ _ _ _ _ _ _ _ _ _ _ lifted _ _ _ _ _ _ _ _ _ _ _ _ _ _ _ _ _ _ hzc _ _ _ hcn hcs hcx hdn hds _ _ _ _ _ _ _ _ _ _ _ _ _ _ _ _ _ _ _ _ of2 hzwl _ _ _ _ of1 _ _ _ _ _ _ _ _ _ _ _ _ _ _ _ _ _ _ _ _ _ _ _ _ _ _ _ _ _ _ _ _ _ hzW _ _ _ _ _ _ hznw _ _ hI8 _ _ _ _ _ _ _ _ _ _ _ _ _ _ _ _ _ _ _ _ _ _ _ _ _ _ _ _ _ _ _ _ _ _ _ _ _ _ _ _ _ Nh1 Fh1 _ _
  refine' heard ?Bq1 ?Fq1 ?Xq1 ?Tq1 rfl ?Nq1 ?hdq1 ?huq1 ?hCq1 ?hSq1 ?hlq1 ?hvsq1 ?hlenq1 ?hofq1 (out_ok (c1 := 0) (c2 := 0) (tail := [Str.ofString "ELSE"]) hsm0 hsm1 hl14 (by rw [← lostR_at, ← hme]; exact hlo.symm)) ?retq1
  (case Bq1 => k_asm)
  (case Fq1 => k_asm)
  (case Xq1 => k_asm)
  (case Tq1 => k_asm)
  (case Nq1 => walk_at "d_news")
  (case hdq1 => decide)
  (case huq1 => rw [cLine_is]; decide)
  (case hCq1 => exact codeHd)
  (case hSq1 => exact .inl rfl)
  (case hlq1 => k_mem)
  (case hvsq1 => rw [← hme, hfl]; simp only [hcx, Int.toNat_natCast]; exact (hwv.append (strsRep _ (Str.ofString "END-IF") c)).append (.cons (Str.ofString "ELSE") _ .nil))
  (case hlenq1 => rw [← hme, List.length_append, hfll]; simp only [List.length_cons, List.length_nil]; omega)
  (case hofq1 => (repeat (refine List.forall_mem_cons.mpr ⟨by first | assumption | k_ne, ?_⟩)); exact List.forall_mem_append.mpr ⟨tupOff Nh1 (b := 38) (o := tabObj #[]) (by k_mem) (by simp) (by intro p hp; repeat (first | exact hp | exact List.mem_append_left _ hp | exact List.mem_append_left _ (List.mem_append_left _ hp) | exact List.mem_append_left _ (List.mem_append_right _ hp) | refine List.Mem.tail _ ?_ | refine List.mem_append_right _ ?_)) htup, of5⟩)
  intro vq1 hq1 tkq1 psq1 exq1 FFq1 NNq1 offq1 tabq1 DDq1
  obtain ⟨aq1, rfl⟩ : ∃ a, vq1 = .ref a := by
    cases DDq1
    exact ⟨_, rfl⟩
  obtain ⟨exC1, sC1, fC1, tC1⟩ := tabCode (newsSub NNq1 fun p hp => .tail _ hp) tabq1
  have NFq1 := appFlip NNq1
  simp only [List.cons_append] at NFq1
  clear NNq1
  k_steps
  refine stop_to ?_
  with_reducible rename Fr _ _ _ _ => Fz1
  with_reducible rename News _ _ _ _ => Nz1
  refine' neD (n := 40) (d := .tuple [.tuple [.str (Str.ofString "IF"), .tuple (bodyDs m₀ ms')], .int ((flat (m₀ :: ms')).length : Int)]) (e := .tuple [.tuple [.str (Str.ofString "IF"), .tuple (dueD ms)], .int _]) Nz1 ?ha1 ?hb1 ?hq1 ?hok1 (by decide) ?huu1 ?kk1
  (case ha1 => exact DDq1.mono (by intro p hp; repeat (first | exact hp | exact List.mem_append_left _ hp | exact List.mem_append_left _ (List.mem_append_left _ hp) | exact List.mem_append_left _ (List.mem_append_right _ hp) | refine List.Mem.tail _ ?_ | refine List.mem_append_right _ ?_)))
  (case hb1 => exact .tuple (by k_mem) (.cons (.tuple (by k_mem) (.cons (.str _ _) (.cons (hdat.mono (by intro p hp; repeat (first | exact hp | exact List.mem_append_left _ hp | exact List.mem_append_left _ (List.mem_append_left _ hp) | exact List.mem_append_left _ (List.mem_append_right _ hp) | refine List.Mem.tail _ ?_ | refine List.mem_append_right _ ?_))) .nil))) (.cons (.int _ _) .nil)))
  (case hq1 => subst hme; simp only [hcx, Int.toNat_natCast, List.length_append, List.length_replicate, hfll, hwl]; rfl)
  (case hok1 => simp only [kqdOk, List.all_cons, List.all_nil, Bool.and_true]; exact Bool.and_eq_true_iff.mpr ⟨by decide +kernel, body_ok ms' m₀ _ (by omega) hsm0 hsm1⟩)
  (case huu1 => show (7 : Nat) + 64 < cLine; rw [cLine_is]; decide)
  have hzWs : StrsOf zW (flat ms) := by
    rw [hzW, hfl]
    simp only [hcx, Int.toNat_natCast]
    exact hwv.append (strsRep _ (Str.ofString "END-IF") c)
  have N30 := newsSub (l' := (zsrc, listOf #[.ref zcl, .int at_ ta] zn) :: (zwl, listOf zW.toArray znw) :: (zcl, listOf zvs.toArray znc) :: zcell :: (38, tabObj psq1) :: exC1) Nz1 (by
    refine List.forall_mem_cons.mpr ⟨by k_mem, List.forall_mem_cons.mpr ⟨by rw [hzwl, hzW, hznw]; k_mem, List.forall_mem_cons.mpr ⟨by k_mem, List.forall_mem_cons.mpr ⟨by k_mem, List.forall_mem_cons.mpr ⟨by k_mem, ?_⟩⟩⟩⟩⟩
    intro p hp
    rcases List.mem_append.mp (sC1 p hp) with hp | hp
    · repeat (first | exact hp | refine List.Mem.tail _ ?_ | refine List.mem_append_right _ ?_)
    · refine (?_ : ∀ p ∈ _, p ∈ _) p hp
      (repeat (refine List.forall_mem_cons.mpr ⟨by k_mem, ?_⟩))
      refine List.forall_mem_append.mpr ⟨?_, ?_⟩ <;> (intro p hp; repeat (first | exact hp | exact List.mem_append_left _ hp | exact List.mem_append_left _ (List.mem_append_left _ hp) | exact List.mem_append_left _ (List.mem_append_right _ hp) | refine List.Mem.tail _ ?_ | refine List.mem_append_right _ ?_)))
  have hzs1 : ∀ p ∈ exC1, p.1 ≠ zsrc := fieldsOff N30 (.head _) (by intro vs q; cases q) (by intro p hp; repeat (first | exact hp | exact List.mem_append_left _ hp | exact List.mem_append_left _ (List.mem_append_left _ hp) | exact List.mem_append_left _ (List.mem_append_right _ hp) | refine List.Mem.tail _ ?_ | refine List.mem_append_right _ ?_)) fC1
  have h381 : ∀ p ∈ exC1, p.1 ≠ 38 := codeOff N30 (by k_mem) (by intro p hp; repeat (first | exact hp | exact List.mem_append_left _ hp | exact List.mem_append_left _ (List.mem_append_left _ hp) | exact List.mem_append_left _ (List.mem_append_right _ hp) | refine List.Mem.tail _ ?_ | refine List.mem_append_right _ ?_)) fC1
  have hz30 : ∀ p ∈ (zwl, listOf zW.toArray znw) :: (zcl, listOf zvs.toArray znc) :: zcell :: (38, tabObj psq1) :: exC1, p.1 ≠ zsrc :=
    List.forall_mem_cons.mpr ⟨by rw [hzwl]; k_ne, List.forall_mem_cons.mpr ⟨o1'.1, List.forall_mem_cons.mpr ⟨by rw [hzc]; exact o1'.2.1, List.forall_mem_cons.mpr ⟨o1'.2.2.1, hzs1⟩⟩⟩⟩
  clear Nz1
  subst hzwl hzc
  iterate 30 walk1
  (refine' itemTup OddV ?oN1 ?om1 ?oh01 ?oh11 ?ohf1 ?ohP1 ?or1)
  (case oN1 => k_asm)
  (case om1 => k_mem)
  (case oh01 => assumption)
  (case oh11 => exact (show _ < (5 : Int) from by assumption))
  (case ohf1 => exact Int.lt_trans (show _ < (5 : Int) from by assumption) (by decide))
  (case ohP1 => repeat' (first | exact List.forall_mem_nil _ | refine List.forall_mem_cons.mpr ⟨⟨_, _, rfl, by decide +kernel⟩, ?_⟩))
  (intro zxv hv'; obtain ⟨zx, zxt, hv9, zx0⟩ := hv'; subst hv9)
  have hzWl : zW.length ≤ 9000 := by
    rw [hzWs.length, hfll]
    omega
  iterate 17 walk1
  (refine' addL ?pF1 ?pN1 ?pa1 ?pb1 ?pz1 ?pr1)
  (case pF1 => k_asm)
  (case pN1 => k_asm)
  (case pa1 => k_mem)
  (case pb1 => k_mem)
  (case pz1 => simp only [List.length_cons, List.length_nil]; exact Nat.le_trans (Nat.add_le_add_left hzWl _) (by decide))
  intro zD zh zF zN zl
  (try dsimp only)
  iterate 5 walk1
  refine stop_to ?_
  with_reducible rename News _ _ _ _ => Nh2
  refine' heard ?Bq11 ?Fq11 ?Xq11 ?Tq11 rfl ?Nq11 ?hdq11 ?huq11 ?hCq11 ?hSq11 ?hlq11 ?hvsq11 ?hlenq11 ?hofq11 (out_odd (k := 0) zx0) ?retq11
  (case Bq11 => k_asm)
  (case Fq11 => k_asm)
  (case Xq11 => k_asm)
  (case Tq11 => k_asm)
  (case Nq11 => walk_at "d_news")
  (case hdq11 => decide)
  (case huq11 => rw [cLine_is]; decide)
  (case hCq11 => exact codeHd)
  (case hSq11 => exact tC1.mono (by intro p hp; repeat (first | exact hp | exact List.mem_append_left _ hp | exact List.mem_append_left _ (List.mem_append_left _ hp) | exact List.mem_append_left _ (List.mem_append_right _ hp) | refine List.Mem.tail _ ?_ | refine List.mem_append_right _ ?_)))
  (case hlq11 => k_mem)
  (case hvsq11 => exact (StrsOf.cons zx _ .nil).append hzWs)
  (case hlenq11 => exact Nat.lt_of_le_of_lt (Nat.succ_le_succ hfl100) (by decide))
  (case hofq11 => (repeat (refine List.forall_mem_cons.mpr ⟨by first | exact hz38 | exact objOff Nh2 (b := 38) (o := tabObj psq1) (by k_mem) (by k_mem) (by simp), ?_⟩)); exact h381)
  intro vq11 hq11 tkq11 psq11 exq11 FFq11 NNq11 offq11 tabq11 DDq11
  obtain ⟨aq11, rfl⟩ : ∃ a, vq11 = .ref a := by
    cases DDq11
    exact ⟨_, rfl⟩
  obtain ⟨exC11, sC11, fC11, tC11⟩ := tabCode (newsSub NNq11 fun p hp => .tail _ hp) tabq11
  have NFq11 := appFlip NNq11
  simp only [List.cons_append] at NFq11
  clear NNq11
  k_steps
  refine stop_to ?_
  with_reducible rename News _ _ _ _ => Nz2
  refine' eqD (n := 2) (d := .tuple [.int 2, .int 5]) (e := .tuple [.int 2, .int 5]) Nz2 ?ea1 ?eb1 rfl rfl (by decide) ?eu1 ?ek1
  (case ea1 => exact DDq11.mono (by intro p hp; repeat (first | exact hp | exact List.mem_append_left _ hp | exact List.mem_append_left _ (List.mem_append_left _ hp) | exact List.mem_append_left _ (List.mem_append_right _ hp) | refine List.Mem.tail _ ?_ | refine List.mem_append_right _ ?_)))
  (case eb1 => exact .tuple (by k_mem) (.cons (.int _ _) (.cons (.int _ _) .nil)))
  (case eu1 => show (7 : Nat) + 64 < cLine; rw [cLine_is]; decide)
  k_steps
  refine stop_to ?_
  with_reducible rename News _ _ _ _ => Nh3
  refine' heard ?Bq21 ?Fq21 ?Xq21 ?Tq21 rfl ?Nq21 ?hdq21 ?huq21 ?hCq21 ?hSq21 ?hlq21 ?hvsq21 ?hlenq21 ?hofq21 (out_nil (k := 0)) ?retq21
  (case Bq21 => k_asm)
  (case Fq21 => k_asm)
  (case Xq21 => k_asm)
  (case Tq21 => k_asm)
  (case Nq21 => walk_at "d_news")
  (case hdq21 => decide)
  (case huq21 => rw [cLine_is]; decide)
  (case hCq21 => exact codeHd)
  (case hSq21 => exact tabq11.mono (List.forall_mem_append.mpr ⟨by intro p hp; repeat (first | exact hp | exact List.mem_append_left _ hp | exact List.mem_append_left _ (List.mem_append_left _ hp) | exact List.mem_append_left _ (List.mem_append_right _ hp) | refine List.Mem.tail _ ?_ | refine List.mem_append_right _ ?_), by (repeat (refine List.forall_mem_cons.mpr ⟨by k_mem, ?_⟩)); intro p hp; repeat (first | exact hp | exact List.mem_append_left _ hp | exact List.mem_append_left _ (List.mem_append_left _ hp) | exact List.mem_append_left _ (List.mem_append_right _ hp) | refine List.Mem.tail _ ?_ | refine List.mem_append_right _ ?_)⟩))
  (case hlq21 => k_mem)
  (case hvsq21 => exact .nil)
  (case hlenq21 => decide)
  (case hofq21 => (repeat (refine List.forall_mem_cons.mpr ⟨by first | exact hz38 | exact objOff Nh3 (b := 38) (o := tabObj psq11) (by k_mem) (by k_mem) (by simp), ?_⟩)); exact List.forall_mem_append.mpr ⟨h381, offq11⟩)
  intro vq21 hq21 tkq21 psq21 exq21 FFq21 NNq21 offq21 tabq21 DDq21
  obtain ⟨aq21, rfl⟩ : ∃ a, vq21 = .ref a := by
    cases DDq21
    exact ⟨_, rfl⟩
  obtain ⟨exC21, sC21, fC21, tC21⟩ := tabCode (newsSub NNq21 fun p hp => .tail _ hp) tabq21
  have NFq21 := appFlip NNq21
  simp only [List.cons_append] at NFq21
  clear NNq21
  k_steps
  refine stop_to ?_
  with_reducible rename News _ _ _ _ => Nz3
  refine' eqD (n := 2) (d := .tuple [.int 0, .int 0]) (e := .tuple [.int 0, .int 0]) Nz3 ?fa1 ?fb1 rfl rfl (by decide) ?fu1 ?fk1
  (case fa1 => exact DDq21.mono (by intro p hp; repeat (first | exact hp | exact List.mem_append_left _ hp | exact List.mem_append_left _ (List.mem_append_left _ hp) | exact List.mem_append_left _ (List.mem_append_right _ hp) | refine List.Mem.tail _ ?_ | refine List.mem_append_right _ ?_)))
  (case fb1 => exact .tuple (by k_mem) (.cons (.int _ _) (.cons (.int _ _) .nil)))
  (case fu1 => show (7 : Nat) + 64 < cLine; rw [cLine_is]; decide)
  k_steps




theorem B2 : G7.1.2 := by
  intro m1 hm1 zsrc zcl zn znc zvs zns zta zh ztk hI' hp' hq' zdep zdt zd0 zd1 tk zcell c hc1 hc15 I i lev at_ ta ms wvs mvs nw nm exM hat hwv hmv hsm of3 of4 of5 h hwl hml hpl hmc hat4 zwl zW znw hz38 I7 dv exT hik7 htup hdat m₀ ms' hme hfl hfll hfl100 hsm0 hsm1 hl14 j hlo tj _ _ hik hms hat2 _ _ _ _ _ _ hT8 hT9 codeHd o1' o2' _ _ _ _ _ _ _ _ _ _ _ _ _ _ _ _ _ _ _ _ _ _ _ _ _ _ lifted _ _ _ _ _ _ _ _ _ _ _ _ _ _ _ _ _ _ hzc _ _ _ hcn hcs hcx hdn hds _ _ _ _ _ _ _ _ _ _ _ _ _ _ _ _ _ _ _ _ of2 hzwl _ _ _ _ of1 _ _ _ _ _ _ _ _ _ _ _ _ _ _ _ _ _ _ _ _ _ _ _ _ _ _ _ _ _ _ _ _ _ hzW _ _ _ _ _ _ hznw _ _ hI8 _ _ _ _ _ _ _ _ _ _ _ _ _ _ _ _ _ _ _ _ _ _ _ _ _ _ _ _ _ _ _ _ _ _ _ _ _ _ _ _ _ Nh1 Fh1 _ _
  refine' heard ?Bq2 ?Fq2 ?Xq2 ?Tq2 rfl ?Nq2 ?hdq2 ?huq2 ?hCq2 ?hSq2 ?hlq2 ?hvsq2 ?hlenq2 ?hofq2 (out_lost (k := 0) (j := j) (tail := [Str.ofString "ELSE"]) hsm0 hsm1 hl14 (by rw [← lostR_at, ← hme]; exact hlo.symm)) ?retq2
  (case Bq2 => k_asm)
  (case Fq2 => k_asm)
  (case Xq2 => k_asm)
  (case Tq2 => k_asm)
  (case Nq2 => walk_at "d_news")
  (case hdq2 => decide)
  (case huq2 => rw [cLine_is]; decide)
  (case hCq2 => exact codeHd)
  (case hSq2 => exact .inl rfl)
  (case hlq2 => k_mem)
  (case hvsq2 => rw [← hme, hfl]; simp only [hcx, Int.toNat_natCast]; exact (hwv.append (strsRep _ (Str.ofString "END-IF") c)).append (.cons (Str.ofString "ELSE") _ .nil))
  (case hlenq2 => rw [← hme, List.length_append, hfll]; simp only [List.length_cons, List.length_nil]; omega)
  (case hofq2 => (repeat (refine List.forall_mem_cons.mpr ⟨by first | assumption | k_ne, ?_⟩)); exact List.forall_mem_append.mpr ⟨tupOff Nh1 (b := 38) (o := tabObj #[]) (by k_mem) (by simp) (by intro p hp; repeat (first | exact hp | exact List.mem_append_left _ hp | exact List.mem_append_left _ (List.mem_append_left _ hp) | exact List.mem_append_left _ (List.mem_append_right _ hp) | refine List.Mem.tail _ ?_ | refine List.mem_append_right _ ?_)) htup, of5⟩)
  intro vq2 hq2 tkq2 psq2 exq2 FFq2 NNq2 offq2 tabq2 DDq2
  obtain ⟨aq2, rfl⟩ : ∃ a, vq2 = .ref a := by
    cases DDq2
    exact ⟨_, rfl⟩
  obtain ⟨exC2, sC2, fC2, tC2⟩ := tabCode (newsSub NNq2 fun p hp => .tail _ hp) tabq2
  have NFq2 := appFlip NNq2
  simp only [List.cons_append] at NFq2
  clear NNq2
  k_steps
  refine stop_to ?_
  with_reducible rename Fr _ _ _ _ => Fz1
  with_reducible rename News _ _ _ _ => Nz1
  refine' neD (n := 40) (d := .tuple [.int 2, .int ((j : Int) + 5)]) (e := .tuple [.int 2, .int ((j : Int) + 5)]) Nz1 ?ha2 ?hb2 ?hq2 ?hok2 (by decide) ?huu2 ?kk2
  (case ha2 => exact DDq2.mono (by intro p hp; repeat (first | exact hp | exact List.mem_append_left _ hp | exact List.mem_append_left _ (List.mem_append_left _ hp) | exact List.mem_append_left _ (List.mem_append_right _ hp) | refine List.Mem.tail _ ?_ | refine List.mem_append_right _ ?_)))
  (case hb2 => exact .tuple (by k_mem) (.cons (.int _ _) (.cons (.int _ _) .nil)))
  (case hq2 => rfl)
  (case hok2 => rfl)
  (case huu2 => show (7 : Nat) + 64 < cLine; rw [cLine_is]; decide)
  have hzWs : StrsOf zW (flat ms) := by
    rw [hzW, hfl]
    simp only [hcx, Int.toNat_natCast]
    exact hwv.append (strsRep _ (Str.ofString "END-IF") c)
  have N30 := newsSub (l' := (zsrc, listOf #[.ref zcl, .int at_ ta] zn) :: (zwl, listOf zW.toArray znw) :: (zcl, listOf zvs.toArray znc) :: zcell :: (38, tabObj psq2) :: exC2) Nz1 (by
    refine List.forall_mem_cons.mpr ⟨by k_mem, List.forall_mem_cons.mpr ⟨by rw [hzwl, hzW, hznw]; k_mem, List.forall_mem_cons.mpr ⟨by k_mem, List.forall_mem_cons.mpr ⟨by k_mem, List.forall_mem_cons.mpr ⟨by k_mem, ?_⟩⟩⟩⟩⟩
    intro p hp
    rcases List.mem_append.mp (sC2 p hp) with hp | hp
    · repeat (first | exact hp | refine List.Mem.tail _ ?_ | refine List.mem_append_right _ ?_)
    · refine (?_ : ∀ p ∈ _, p ∈ _) p hp
      (repeat (refine List.forall_mem_cons.mpr ⟨by k_mem, ?_⟩))
      refine List.forall_mem_append.mpr ⟨?_, ?_⟩ <;> (intro p hp; repeat (first | exact hp | exact List.mem_append_left _ hp | exact List.mem_append_left _ (List.mem_append_left _ hp) | exact List.mem_append_left _ (List.mem_append_right _ hp) | refine List.Mem.tail _ ?_ | refine List.mem_append_right _ ?_)))
  have hzs2 : ∀ p ∈ exC2, p.1 ≠ zsrc := fieldsOff N30 (.head _) (by intro vs q; cases q) (by intro p hp; repeat (first | exact hp | exact List.mem_append_left _ hp | exact List.mem_append_left _ (List.mem_append_left _ hp) | exact List.mem_append_left _ (List.mem_append_right _ hp) | refine List.Mem.tail _ ?_ | refine List.mem_append_right _ ?_)) fC2
  have h382 : ∀ p ∈ exC2, p.1 ≠ 38 := codeOff N30 (by k_mem) (by intro p hp; repeat (first | exact hp | exact List.mem_append_left _ hp | exact List.mem_append_left _ (List.mem_append_left _ hp) | exact List.mem_append_left _ (List.mem_append_right _ hp) | refine List.Mem.tail _ ?_ | refine List.mem_append_right _ ?_)) fC2
  have hz30 : ∀ p ∈ (zwl, listOf zW.toArray znw) :: (zcl, listOf zvs.toArray znc) :: zcell :: (38, tabObj psq2) :: exC2, p.1 ≠ zsrc :=
    List.forall_mem_cons.mpr ⟨by rw [hzwl]; k_ne, List.forall_mem_cons.mpr ⟨o1'.1, List.forall_mem_cons.mpr ⟨by rw [hzc]; exact o1'.2.1, List.forall_mem_cons.mpr ⟨o1'.2.2.1, hzs2⟩⟩⟩⟩
  clear Nz1
  subst hzwl hzc
  iterate 30 walk1
  (refine' itemTup OddV ?oN2 ?om2 ?oh02 ?oh12 ?ohf2 ?ohP2 ?or2)
  (case oN2 => k_asm)
  (case om2 => k_mem)
  (case oh02 => assumption)
  (case oh12 => exact (show _ < (5 : Int) from by assumption))
  (case ohf2 => exact Int.lt_trans (show _ < (5 : Int) from by assumption) (by decide))
  (case ohP2 => repeat' (first | exact List.forall_mem_nil _ | refine List.forall_mem_cons.mpr ⟨⟨_, _, rfl, by decide +kernel⟩, ?_⟩))
  (intro zxv hv'; obtain ⟨zx, zxt, hv9, zx0⟩ := hv'; subst hv9)
  have hzWl : zW.length ≤ 9000 := by
    rw [hzWs.length, hfll]
    omega
  iterate 17 walk1
  (refine' addL ?pF2 ?pN2 ?pa2 ?pb2 ?pz2 ?pr2)
  (case pF2 => k_asm)
  (case pN2 => k_asm)
  (case pa2 => k_mem)
  (case pb2 => k_mem)
  (case pz2 => simp only [List.length_cons, List.length_nil]; exact Nat.le_trans (Nat.add_le_add_left hzWl _) (by decide))
  intro zD zh zF zN zl
  (try dsimp only)
  iterate 5 walk1
  refine stop_to ?_
  with_reducible rename News _ _ _ _ => Nh2
  refine' heard ?Bq12 ?Fq12 ?Xq12 ?Tq12 rfl ?Nq12 ?hdq12 ?huq12 ?hCq12 ?hSq12 ?hlq12 ?hvsq12 ?hlenq12 ?hofq12 (out_odd (k := 0) zx0) ?retq12
  (case Bq12 => k_asm)
  (case Fq12 => k_asm)
  (case Xq12 => k_asm)
  (case Tq12 => k_asm)
  (case Nq12 => walk_at "d_news")
  (case hdq12 => decide)
  (case huq12 => rw [cLine_is]; decide)
  (case hCq12 => exact codeHd)
  (case hSq12 => exact tC2.mono (by intro p hp; repeat (first | exact hp | exact List.mem_append_left _ hp | exact List.mem_append_left _ (List.mem_append_left _ hp) | exact List.mem_append_left _ (List.mem_append_right _ hp) | refine List.Mem.tail _ ?_ | refine List.mem_append_right _ ?_)))
  (case hlq12 => k_mem)
  (case hvsq12 => exact (StrsOf.cons zx _ .nil).append hzWs)
  (case hlenq12 => exact Nat.lt_of_le_of_lt (Nat.succ_le_succ hfl100) (by decide))
  (case hofq12 => (repeat (refine List.forall_mem_cons.mpr ⟨by first | exact hz38 | exact objOff Nh2 (b := 38) (o := tabObj psq2) (by k_mem) (by k_mem) (by simp), ?_⟩)); exact h382)
  intro vq12 hq12 tkq12 psq12 exq12 FFq12 NNq12 offq12 tabq12 DDq12
  obtain ⟨aq12, rfl⟩ : ∃ a, vq12 = .ref a := by
    cases DDq12
    exact ⟨_, rfl⟩
  obtain ⟨exC12, sC12, fC12, tC12⟩ := tabCode (newsSub NNq12 fun p hp => .tail _ hp) tabq12
  have NFq12 := appFlip NNq12
  simp only [List.cons_append] at NFq12
  clear NNq12
  k_steps
  refine stop_to ?_
  with_reducible rename News _ _ _ _ => Nz2
  refine' eqD (n := 2) (d := .tuple [.int 2, .int 5]) (e := .tuple [.int 2, .int 5]) Nz2 ?ea2 ?eb2 rfl rfl (by decide) ?eu2 ?ek2
  (case ea2 => exact DDq12.mono (by intro p hp; repeat (first | exact hp | exact List.mem_append_left _ hp | exact List.mem_append_left _ (List.mem_append_left _ hp) | exact List.mem_append_left _ (List.mem_append_right _ hp) | refine List.Mem.tail _ ?_ | refine List.mem_append_right _ ?_)))
  (case eb2 => exact .tuple (by k_mem) (.cons (.int _ _) (.cons (.int _ _) .nil)))
  (case eu2 => show (7 : Nat) + 64 < cLine; rw [cLine_is]; decide)
  k_steps
  refine stop_to ?_
  with_reducible rename News _ _ _ _ => Nh3
  refine' heard ?Bq22 ?Fq22 ?Xq22 ?Tq22 rfl ?Nq22 ?hdq22 ?huq22 ?hCq22 ?hSq22 ?hlq22 ?hvsq22 ?hlenq22 ?hofq22 (out_nil (k := 0)) ?retq22
  (case Bq22 => k_asm)
  (case Fq22 => k_asm)
  (case Xq22 => k_asm)
  (case Tq22 => k_asm)
  (case Nq22 => walk_at "d_news")
  (case hdq22 => decide)
  (case huq22 => rw [cLine_is]; decide)
  (case hCq22 => exact codeHd)
  (case hSq22 => exact tabq12.mono (List.forall_mem_append.mpr ⟨by intro p hp; repeat (first | exact hp | exact List.mem_append_left _ hp | exact List.mem_append_left _ (List.mem_append_left _ hp) | exact List.mem_append_left _ (List.mem_append_right _ hp) | refine List.Mem.tail _ ?_ | refine List.mem_append_right _ ?_), by (repeat (refine List.forall_mem_cons.mpr ⟨by k_mem, ?_⟩)); intro p hp; repeat (first | exact hp | exact List.mem_append_left _ hp | exact List.mem_append_left _ (List.mem_append_left _ hp) | exact List.mem_append_left _ (List.mem_append_right _ hp) | refine List.Mem.tail _ ?_ | refine List.mem_append_right _ ?_)⟩))
  (case hlq22 => k_mem)
  (case hvsq22 => exact .nil)
  (case hlenq22 => decide)
  (case hofq22 => (repeat (refine List.forall_mem_cons.mpr ⟨by first | exact hz38 | exact objOff Nh3 (b := 38) (o := tabObj psq12) (by k_mem) (by k_mem) (by simp), ?_⟩)); exact List.forall_mem_append.mpr ⟨h382, offq12⟩)
  intro vq22 hq22 tkq22 psq22 exq22 FFq22 NNq22 offq22 tabq22 DDq22
  obtain ⟨aq22, rfl⟩ : ∃ a, vq22 = .ref a := by
    cases DDq22
    exact ⟨_, rfl⟩
  obtain ⟨exC22, sC22, fC22, tC22⟩ := tabCode (newsSub NNq22 fun p hp => .tail _ hp) tabq22
  have NFq22 := appFlip NNq22
  simp only [List.cons_append] at NFq22
  clear NNq22
  k_steps
  refine stop_to ?_
  with_reducible rename News _ _ _ _ => Nz3
  refine' eqD (n := 2) (d := .tuple [.int 0, .int 0]) (e := .tuple [.int 0, .int 0]) Nz3 ?fa2 ?fb2 rfl rfl (by decide) ?fu2 ?fk2
  (case fa2 => exact DDq22.mono (by intro p hp; repeat (first | exact hp | exact List.mem_append_left _ hp | exact List.mem_append_left _ (List.mem_append_left _ hp) | exact List.mem_append_left _ (List.mem_append_right _ hp) | refine List.Mem.tail _ ?_ | refine List.mem_append_right _ ?_)))
  (case fb2 => exact .tuple (by k_mem) (.cons (.int _ _) (.cons (.int _ _) .nil)))
  (case fu2 => show (7 : Nat) + 64 < cLine; rw [cLine_is]; decide)
  k_steps

end Mine
theorem PySem.Challenge.cw_pc0130_01_holds : PySem.Challenge.rw_pc0130_01.Holds :=
  Mine.G1.2 ⟨Mine.G2.2 ⟨Mine.G5.2 ⟨Mine.G6.2 ⟨Mine.G7.2 ⟨Mine.B1⟩ ⟨Mine.B2⟩⟩ ⟨Mine.T7⟩⟩⟩ ⟨Mine.G3.2 ⟨Mine.G4.2 ⟨Mine.C1⟩ ⟨Mine.C2⟩ ⟨Mine.C3⟩ ⟨Mine.C4⟩⟩⟩⟩
