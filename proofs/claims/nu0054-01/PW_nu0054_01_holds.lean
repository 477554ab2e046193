import PyProof.Rows.All
import Wide.All
import OpenK.AllK
import Wide.FinOn
import PyProof.Rows.StrFirst
import PyProof.Rows.StrFit
import PySem.Challenge.RW_nu0054_01
set_option Elab.async false
set_option linter.unusedVariables false
set_option linter.unusedSimpArgs false
section
open PySem PySem.W PyProof.Rows
set_option maxRecDepth 100000
set_option maxHeartbeats 8000000
namespace Mine
open_top hd for PySem.Challenge.rw_nu0054_01
end Mine
end
section
open PySem PySem.W PyProof.Rows PySem.Calls
set_option maxRecDepth 100000
set_option maxHeartbeats 8000000
namespace Mine
abbrev Led := List (Addr × Obj)
/-- what is said of a call: from any caller's frame it ends, hands back v with the ledger news', as R says -/
def Calls (w : World) (p : Program) (loose : List Str) (mean : ExcName → Option Value) (mg mb : Str → Option Value) (f : Addr) (dn : Nat) (vs : List Value) (news : Led) (R : Value → Led → Prop) : Prop :=
  ∀ (dp un : Nat) (gd : Option (List Code)) (cn : Str) (cs : Scope) (a : Addr) (ccd : Value) (cl : List (Str × Addr)) (outer : List Env) (A₀ : Around) (base h₀ : Heap) (L : Addr) (m : Str → Option Value) (s : Shared) (Q E : Value → Shared → Prop),
    Below A₀ base outer h₀ → Fr h₀ L s.heap m → (hd.heap_39 w.params).In h₀ → News h₀ L s.heap news → Top p loose mean mg mb h₀ → cs.kind = .function →
    dp + dn < recursionLimit → un + 8 * dn < cLine →
    (∀ v news' h' tk', R v news' → Fr h₀ L h' m → News h₀ L h' news' → Q v { s with heap := h', toks := tk' }) →
    wpAny (model PySem.Challenge.rw_nu0054_01.row.prog w) (ktrTop dp un gd cn cs L a ccd cl outer) (call (.ref f) vs) Q E s
end Mine
namespace Mine
theorem Calls.use {w : World} {p : Program} {loose : List Str} {mean : ExcName → Option Value} {mg mb : Str → Option Value} {f : Addr} {dn : Nat} {vs : List Value} {news : Led} {R : Value → Led → Prop}
    (C : Calls w p loose mean mg mb f dn vs news R)
    {dp un : Nat} {gd : Option (List Code)} {cn : Str} {cs : Scope} {a : Addr} {ccd : Value} {cl : List (Str × Addr)} {outer : List Env} {A₀ : Around} {base h₀ : Heap} {L : Addr} {m : Str → Option Value} {s : Shared} {Q E : Value → Shared → Prop}
    (B : Below A₀ base outer h₀) (F : Fr h₀ L s.heap m) (X : (hd.heap_39 w.params).In h₀) (N : News h₀ L s.heap news) (T : Top p loose mean mg mb h₀) (hk : cs.kind = .function)
    (hd : dp + dn < recursionLimit) (hu : un + 8 * dn < cLine)
    (ret : ∀ v news' h' tk', R v news' → Fr h₀ L h' m → News h₀ L h' news' → Q v { s with heap := h', toks := tk' }) :
    wpAny (model PySem.Challenge.rw_nu0054_01.row.prog w) (ktrTop dp un gd cn cs L a ccd cl outer) (call (.ref f) vs) Q E s :=
  C dp un gd cn cs a ccd cl outer A₀ base h₀ L m s Q E B F X N T hk hd hu ret
theorem Calls.weak {w : World} {p : Program} {loose : List Str} {mean : ExcName → Option Value} {mg mb : Str → Option Value} {f : Addr} {dn : Nat} {vs : List Value} {news led : Led} {R R' : Value → Led → Prop}
    (C : Calls w p loose mean mg mb f dn vs news R) (hs : ∀ q ∈ news, q ∈ led) (hR : ∀ v news', R v news' → ∃ led', R' v led' ∧ ((∀ q ∈ news, q ∈ led → True) → ∀ q ∈ led', q ∈ news')) : Calls w p loose mean mg mb f dn vs led R' := by
  intro dp un gd cn cs a ccd cl outer A₀ base h₀ L m s Q E B F X N T hk hd hu ret
  refine C dp un gd cn cs a ccd cl outer A₀ base h₀ L m s Q E B F X (fun q hq => N q (hs q hq)) T hk hd hu fun v news' h' tk' hr F' N' => ?_
  obtain ⟨led', hr', hs'⟩ := hR v news' hr
  exact ret v led' h' tk' hr' F' (fun q hq => N' q (hs' (fun _ _ _ => trivial) q hq))
end Mine
namespace Mine
/-- a place where the walk is to stop -/
def Stop (P : Prop) : Prop := P
theorem stopI {P : Prop} (h : Stop P) : P := h
theorem small0 {b : Int} (h1 : -1000 ≤ b) (h2 : b ≤ 1000) : Builtin.Range.small 0 b 1 = true := small_one (by decide) (by decide) (Int.le_trans (by decide) h1) (Int.lt_of_le_of_lt h2 (by decide))
theorem room1 {dp n m : Nat} (h : dp + n < recursionLimit) (hm : 1 + m ≤ n) : dp + 1 + m < recursionLimit := by omega
theorem unit1 {un k n m : Nat} (h : un + 8 * n < cLine) (hk : k + 8 * m ≤ 8 * n) : un + k + 8 * m < cLine := by omega
end Mine
end
section
open PySem PySem.W PyProof.Rows
local macro_rules | `(tactic| walk_at $s:str) => do `(tactic| k_extra $(Lean.Syntax.mkStrLit ("my " ++ s.getString)))
local macro_rules | `(tactic| k_room) => `(tactic| k_extra "room")
local macro_rules | `(tactic| k_all) => `(tactic| k_extra "all")
local macro_rules | `(tactic| k_mem) => `(tactic| k_extra "mem")
section
open PySem PySem.W PyProof.Rows PySem.Calls
set_option maxRecDepth 100000
set_option maxHeartbeats 8000000
namespace Mine
/-- the source: two ints -/
structure SrcO (o : Obj) : Prop where
  out : ∃ a b ta tb nn, o = listOf #[.int a ta, .int b tb] nn ∧ 0 ≤ a ∧ 0 ≤ b ∧ b < 2147483647

theorem fmod_lo' (a : Int) {n : Int} (h : 0 < n) : 0 ≤ a.fmod n := Int.fmod_nonneg_of_pos a h
theorem fmod_hi' (a : Int) {n : Int} (h : 0 < n) : a.fmod n < n := Int.fmod_lt_of_pos a h
theorem fdiv_lo' {a n : Int} (ha : 0 ≤ a) (h : 0 < n) : 0 ≤ a.fdiv n := by
  rw [Int.fdiv_eq_ediv_of_nonneg _ (by omega)]; exact Int.ediv_nonneg ha (by omega)

section
theorem take_c {w : World} {p : Program} {loose : List Str} {mean : ExcName → Option Value} {mg mb : Str → Option Value} {src : Addr} {o : Obj} {top : Int} {tt : Tok} {news : Led}
   (ho : SrcO o) (hne : ∀ q ∈ news, q.1 ≠ src) (ht : 0 < top) (ht2 : top ≤ 25) :
   Calls w p loose mean mg mb 164 1 [.ref src, .int top tt] ((src, o) :: news)
     (fun v news' => ∃ r t o', v = .int r t ∧ 0 ≤ r ∧ r < top ∧ SrcO o' ∧ news' = (src, o') :: news) := by
  w_top off
  k_with_none
  k_with "all" => assumption
  k_with "my binaryOp Mult int int" => (k_here; refine mul_int ?_ (IntMulOk.of_left (intBits_le_64 (by (simp only [List.getD_cons_zero, List.getD_cons_succ, Int.toNat_zero, Int.toNat_one]; first | omega | exact Int.lt_of_lt_of_le (by decide) (fmod_lo' _ (by decide)))) (by (simp only [List.getD_cons_zero, List.getD_cons_succ, Int.toNat_zero, Int.toNat_one]; first | omega | exact Int.lt_trans (fmod_hi' _ (by decide)) (by decide))))))
  obtain ⟨a, b, ta, tb, nn, rfl, ha, hb, hb2⟩ := ho.out
  unfold Calls
  k_fill
  intros
  rename_i hret
  refine wpAny_call ?_
  k_dflt cell_enter
  k_steps
  · exact hret _ _ _ _ ⟨_, _, _, rfl, fmod_lo' _ ht, fmod_hi' _ ht, ⟨_, _, _, _, _, rfl, fdiv_lo' ha ht, hb, hb2⟩, rfl⟩ (by k_asm) (by k_asm)
  · exact hret _ _ _ _ ⟨_, _, _, rfl, fmod_lo' _ ht, fmod_hi' _ ht, ⟨_, _, _, _, _, rfl, ha, fmod_lo' _ (by decide), fmod_hi' _ (by decide)⟩, rfl⟩ (by k_asm) (by k_asm)
end
end Mine
end
section
open PySem PySem.W PyProof.Rows PySem.Calls
set_option maxRecDepth 100000
set_option maxHeartbeats 8000000
namespace Mine
theorem news_in {h₀ h : Heap} {L : Addr} {pre post : Led} {x : Addr × Obj} (N : News h₀ L h (pre ++ x :: post)) : News h₀ L h (x :: (pre ++ post)) := fun p hp => N p (by
  rcases List.mem_cons.mp hp with h | hp
  · exact List.mem_append.mpr (.inr (h ▸ .head _))
  · exact List.mem_append.mpr ((List.mem_append.mp hp).imp id (.tail _)))
theorem news_back {h₀ h : Heap} {L : Addr} {pre post : Led} {x : Addr × Obj} (N : News h₀ L h (x :: (pre ++ post))) : News h₀ L h (pre ++ x :: post) := fun p hp => N p (by
  rcases List.mem_append.mp hp with h | h
  · exact .tail _ (List.mem_append.mpr (.inl h))
  · rcases List.mem_cons.mp h with h | h
    · exact h ▸ .head _
    · exact .tail _ (List.mem_append.mpr (.inr h)))
section
variable {w : World} {p : Program} {loose : List Str} {mean : ExcName → Option Value} {mg mb : Str → Option Value}
  {dp un : Nat} {gd : Option (List Code)} {cn : Str} {cs : Scope} {a₀ : Addr} {ccd : Value} {cl : List (Str × Addr)} {outer : List Env} {A₀ : Around} {base h₀ : Heap} {L : Addr} {m : Str → Option Value} {s : Shared} {Q E : Value → Shared → Prop} {news : Led}
theorem take_u {src : Addr} {o : Obj} {top : Int} {tt : Tok} (pre : Led) {post : Led} (ho : SrcO o) (h1 : ∀ q ∈ pre, q.1 ≠ src) (h2 : ∀ q ∈ post, q.1 ≠ src) (ht : 0 < top) (ht2 : top ≤ 25)
    (B : Below A₀ base outer h₀) (F : Fr h₀ L s.heap m) (X : (hd.heap_39 w.params).In h₀) (N : News h₀ L s.heap (pre ++ (src, o) :: post)) (T : Top p loose mean mg mb h₀) (hk : cs.kind = .function) (hd : dp + 1 < recursionLimit) (hu : un + 8 * 1 < cLine)
    (ret : ∀ r t o' h' tk', 0 ≤ r → r < top → SrcO o' → Fr h₀ L h' m → News h₀ L h' (pre ++ (src, o') :: post) → Q (.int r t) { s with heap := h', toks := tk' }) :
    wpAny (model PySem.Challenge.rw_nu0054_01.row.prog w) (ktrTop dp un gd cn cs L a₀ ccd cl outer) (call (.ref 164) [.ref src, .int top tt]) Q E s := by
  refine Calls.use (take_c ho (fun q hq => (List.mem_append.mp hq).elim (h1 q) (h2 q)) ht ht2) B F X (news_in N) T hk hd hu ?_
  rintro v news' h' tk' ⟨r, t, o', rfl, h3, h4, ho', rfl⟩ F' N'
  exact ret r t o' h' tk' h3 h4 ho' F' (news_back N')
end
theorem item_at {prog w A E s} {value slice : PySem.Expr} {l : Addr} {vs : List Value} {k : Int} {u : Tok} {Q : Value → Shared → Prop}
    (hl : s.heap.IsList l vs.toArray) (h0 : 0 ≤ k) (hk : k < vs.length) (hhi : k < 2 ^ 63) (h : ∀ v, v ∈ vs → Q v s)
    (hs : subscripted slice false (.ref l) (.int k u) = operate [.ref l, .int k u] (getItem (.ref l) (.int k u)) := by with_unfolding_all rfl) :
    wpAny (model prog w) A (subscriptTail value slice (.ref l) (.int k u)) Q E s := by
  have hk' : k.toNat < vs.length := by omega
  exact tail_any hl.typeIs slot_list_getitem.lookup (wpAny_getItem_list hl h0 hhi (x := vs[k.toNat]) (by simp [hk']) (h _ (List.getElem_mem hk'))) hs

theorem item_strs {prog w A E s} {value slice : PySem.Expr} {l : Addr} {vs : List Value} {k : Int} {u : Tok} {P : Str → Prop} {Q : Value → Shared → Prop}
    (hl : s.heap.IsList l vs.toArray) (hvs : ∀ v ∈ vs, ∃ x t, v = Value.str x t ∧ P x) (h0 : 0 ≤ k) (hk : k < vs.length) (hhi : k < 2 ^ 63) (h : ∀ x t, P x → Q (.str x t) s)
    (hs : subscripted slice false (.ref l) (.int k u) = operate [.ref l, .int k u] (getItem (.ref l) (.int k u)) := by with_unfolding_all rfl) :
    wpAny (model prog w) A (subscriptTail value slice (.ref l) (.int k u)) Q E s :=
  item_at hl h0 hk hhi (fun v hv => by obtain ⟨x, t, rfl, hx⟩ := hvs v hv; exact h x t hx) hs
section
theorem one_c {w : World} {p : Program} {loose : List Str} {mean : ExcName → Option Value} {mg mb : Str → Option Value} {src l : Addr} {o : Obj} {vs : List Value} {nl : Nat} {news : Led}
   (ho : SrcO o) (hne : ∀ q ∈ news, q.1 ≠ src) (hl : l ≠ src) (hvs : ∀ v ∈ vs, ∃ x t, v = Value.str x t ∧ x.length = 1) (hlen : vs.length = 9) :
   Calls w p loose mean mg mb 171 2 [.ref src, .ref l] ((src, o) :: (l, listOf vs.toArray nl) :: news)
     (fun v news' => ∃ x t o', v = .str x t ∧ x.length = 1 ∧ SrcO o' ∧ news' = (src, o') :: (l, listOf vs.toArray nl) :: news) := by
  w_top off
  k_with_none
  k_with "tb" => ((case k1 => k_asm); (case k2 => k_asm); (case k3 => k_asm); (case k4 => k_asm); (case k5 => k_asm); (case kK => first | exact rfl | assumption); (case kd => first | exact Mine.room1 (by assumption) (by decide) | ktr_room | k_room); (case ku => first | exact Mine.unit1 (by assumption) (by decide) | ktr_units | k_units))
  k_with "my call ref" => (k_here; (with_reducible show wpAny _ _ (call (Value.ref 164) _) _ _ _); k_dflt (refine' take_u [] ?ho ?h1 ?h2 ?ht ?ht2 ?k1 ?k2 ?k3 ?k4 ?k5 ?kK ?kd ?ku ?_; (k_extra "tb"); (case ho => assumption); (case h1 => k_all); (case h2 => assumption); (case ht => omega); (case ht2 => omega); intros; (rename News _ _ _ _ => N'); (try dsimp only [List.nil_append]  at N'); (try dsimp only); (try k_fold)))
  k_with "my call builtin:len" => (k_here; (with_reducible show wpAny _ _ (call (Value.builtin "len") [Value.ref _]) _ _ _); k_dflt (refine' kst_len (k := 9) ?k1 ?k2 ?k3 ?k4 ?_; (case k1 => k_asm); (case k2 => k_mem); (case k3 => assumption); (case k4 => decide); k_whole))
  k_with "my subscriptTail" => (k_here; (with_reducible show wpAny _ _ (subscriptTail _ _ (Value.ref _) (Value.int _ _)) _ _ _); (with_unfolding_all (refine' item_strs ?k1 ?kv ?k2 ?k3 ?k4 ?_ ?k6; (case k1 => exact News.isList (by k_asm) (by k_mem)); (case kv => assumption); (case k2 => assumption); (case k3 => omega); (case k4 => omega); (case k6 => with_unfolding_all rfl))); intro x' t' hx'; (try dsimp only))
  have hne' : ∀ q ∈ (l, listOf vs.toArray nl) :: news, q.1 ≠ src := by
    intro q hq; rcases List.mem_cons.mp hq with rfl | hq; exact hl; exact hne q hq
  unfold Calls
  k_fill
  intros
  rename_i hret
  refine wpAny_call ?_
  k_dflt cell_enter
  k_steps
  exact hret _ _ _ _ ⟨_, _, _, rfl, by assumption, by assumption, rfl⟩ (by k_asm) (by k_asm)
end
end Mine
end
section
open PySem PySem.W PyProof.Rows PySem.Calls
set_option maxRecDepth 100000
set_option maxHeartbeats 8000000
namespace Mine
abbrev SrcO.ob {o : Obj} (_h : SrcO o) : Obj := o
section
variable {prog : Program} {w : World} {A : Around} {h₀ : Heap} {L : Addr} {m : Str → Option Value} {env : Env} {elt : Expr} {x : Str} {scope : Scope} {cl : List (Str × Addr)} {s : Shared} {S : List (Addr × Obj) → Prop} {P : Nat → Value → Prop} {Fin : List Value → List (Addr × Obj) → Prop}
/-- a comprehension whose element draws from the source: each item one sign -/
theorem rest_src {n : Nat} {c src : Addr} {oc : Obj} {rest : Led} (o : Obj) (ho : SrcO o)
    (turn : ∀ v I oI C oC D m₂ ys h tk (E' : Value → Shared → Prop) (o : Obj), SrcO o → LCg.NsObj oC m₂ → m₂ x = some v → Fr h₀ L h m → News h₀ L h ((I, oI) :: (C, oC) :: (D, LCg.lst ys) :: (c, oc) :: (src, o) :: rest) → LCg.Off3 I C D ((c, oc) :: (src, o) :: rest) → ((@Ne Nat I C) ∧ (@Ne Nat I D) ∧ (@Ne Nat C D)) →
      wpAny (model prog w) A (eval elt (compEnvC scope cl C env)) (LCg.CompEnd h₀ L m { s with heap := h, toks := tk } I oI C oC D (LCg.lst ys) S (fun y news' => ∃ x t o', y = .str x t ∧ x.length = 1 ∧ SrcO o' ∧ news' = (c, oc) :: (src, o') :: rest)) E' { s with heap := h, toks := tk })
    (fin : ∀ ys ws o, StrsAre ys ws → (∀ w ∈ ws, w.length = 1) → ws.length = n → SrcO o → Fin ys ((c, oc) :: (src, o) :: rest)) : LCg.CompRest prog w A h₀ L m env elt x scope cl s S P Fin n 0 [] ((c, oc) :: (src, o) :: rest) := by
  have key : ∀ (j i : Nat) (ys : List Value) (ws : List Str) (o : Obj), i + j = n → ws.length = i → StrsAre ys ws → (∀ w ∈ ws, w.length = 1) → SrcO o → LCg.CompRest prog w A h₀ L m env elt x scope cl s S P Fin j i ys ((c, oc) :: (src, o) :: rest) := by
    intro j
    induction j with
    | zero =>
      intro i ys ws o hi hl hy h1 ho
      exact LCg.CompRest.zero (fin ys ws o hy h1 (by omega) ho)
    | succ j ih =>
      intro i ys ws o hi hl hy h1 ho
      refine LCg.CompRest.succ ?_
      intro v I oI C oC D m₂ h tk E' hv hC hx F N off ne
      refine wpAny_mono (turn v I oI C oC D m₂ ys h tk E' o ho hC hx F N off ne) (fun y s₂ hq => ?_) fun _ _ e => e
      obtain ⟨h', tk', nw, e, F', N', off', hS, x', t', o', hy', hx', ho', rfl⟩ := hq
      refine ⟨h', tk', _, e, F', N', off', hS, ?_⟩
      rw [hy']
      refine ih (i + 1) _ (ws ++ [x']) _ (by omega) (by simp [hl]) (kct_snoc hy) (fun v hv => ?_) ho'
      rcases List.mem_append.mp hv with hv | hv
      · exact h1 v hv
      · rw [List.mem_singleton.mp hv]; exact hx'
  exact key n 0 [] [] o (by omega) rfl .nil (fun _ hv => nomatch hv) ho
theorem one_at {p : Program} {loose : List Str} {mean : ExcName → Option Value} {mg mb : Str → Option Value} {src l : Addr} {o : Obj} {vs : List Value} {nl : Nat} (pre : Led) {post : Led}
   (ho : SrcO o) (h1 : ∀ q ∈ pre, q.1 ≠ src) (h2 : ∀ q ∈ post, q.1 ≠ src) (hl : l ≠ src) (hvs : ∀ v ∈ vs, ∃ x t, v = Value.str x t ∧ x.length = 1) (hlen : vs.length = 9) :
   Calls w p loose mean mg mb 171 2 [.ref src, .ref l] ((l, listOf vs.toArray nl) :: (pre ++ (src, o) :: post))
     (fun v news' => ∃ x t o', v = .str x t ∧ x.length = 1 ∧ SrcO o' ∧ news' = (l, listOf vs.toArray nl) :: (pre ++ (src, o') :: post)) :=
  Calls.weak (one_c (news := pre ++ post) (nl := nl) ho (fun q hq => (List.mem_append.mp hq).elim (h1 q) (h2 q)) hl hvs hlen)
    (fun q hq => by simp only [List.mem_cons, List.mem_append] at hq ⊢; grind)
    (fun v news' ⟨x, t, o', hv, hx, ho', hn⟩ => ⟨_, ⟨x, t, o', hv, hx, ho', rfl⟩, fun _ q hq => by subst hn; simp only [List.mem_cons, List.mem_append] at hq ⊢; grind⟩)
theorem join_strs {E : Value → Shared → Prop} {D : Addr} {ys : List Value} {ws : List Str} {sep : Str} {t : Tok} {Q : Value → Shared → Prop} (hl : s.heap.IsList D ys.toArray) (hy : StrsAre ys ws) (h15 : ∀ w ∈ ws, w.length ≤ 15) (hn : ws.length ≤ 1048576) (hs : sep.length ≤ 1)
    (h : ∀ t' k, Q (.str (PySem.Txt.join sep ws) t') { s with toks := k }) : wpAny (model prog w) A (call (.builtin "str.join") [.str sep t, .ref D]) Q E s :=
  KT.join_B (l := ws) (g := fun a => a) 15 hl (hy.carried) h15 hn (by omega) (fun t' k => by simpa using h t' k)
end
section
theorem text_c {w : World} {p : Program} {loose : List Str} {mean : ExcName → Option Value} {mg mb : Str → Option Value} {src : Addr} {o : Obj} {most : Int} {tm : Tok} {news : Led}
   (ho : SrcO o) (hne : ∀ q ∈ news, q.1 ≠ src) (h0 : 0 ≤ most) (h9 : most ≤ 9) :
   Calls w p loose mean mg mb 176 3 [.ref src, .int most tm] ((src, o) :: news)
     (fun v news' => ∃ x t o', v = .str x t ∧ (x.length : Int) ≤ most ∧ SrcO o' ∧ news' = (src, o') :: news) := by
  w_top off
  k_with_none
  k_with "all" => assumption
  k_with "tb" => ((case k1 => k_asm); (case k2 => k_asm); (case k3 => k_asm); (case k4 => k_asm); (case k5 => k_asm); (case kK => first | exact rfl | assumption); (case kd => first | exact Mine.room1 (by assumption) (by decide) | ktr_room | k_room); (case ku => first | exact Mine.unit1 (by assumption) (by decide) | ktr_units | k_units))
  k_with "my call ref" => (k_here; (with_reducible show wpAny _ _ (call (Value.ref 164) _) _ _ _); k_dflt (first | (refine' take_u [] ?ho ?h1 ?h2 ?ht ?ht2 ?k1 ?k2 ?k3 ?k4 ?k5 ?kK ?kd ?ku ?_; (k_extra "tb")) | (refine' take_u [_] ?ho ?h1 ?h2 ?ht ?ht2 ?k1 ?k2 ?k3 ?k4 ?k5 ?kK ?kd ?ku ?_; (k_extra "tb"))); (case ho => assumption); (case h1 => k_all); (case h2 => k_all); (case ht => omega); (case ht2 => omega); intros; (rename News _ _ _ _ => N'); (try dsimp only [List.nil_append, List.cons_append]  at N'); (try dsimp only); (try k_fold))
  k_with "my eval ListComp" => (k_here; k_dflt (refine LCg.ListComp_U (F₀ := by k_asm) (by with_unfolding_all rfl) (by decide) (by rfl) (by decide) (by rfl) ?_))
  k_with "my CompSrc" => (k_here; k_dflt (refine LCg.CompSrc.range (by rfl) (by k_asm) (by k_asm) (by assumption) (by exact small0 (by omega) (by omega)) (by exact rangeSize_nat _ _) (by (rw [PySem.sizeLine_eq]; omega)) ?_; intro g'; (refine' rest_src _ ?ho (fun v' I' oI' C' oC' D' m' ys' h' tk' E' o' ho' hC' hx' F' N' off' ne' => ?_) ?_); (case ho => assumption); (all_goals (try (simp only [LCg.Off3, and_true] at off'))); (all_goals (try k_fold))))
  k_with "my call ref" => (k_here; (with_reducible show wpAny _ _ (call (Value.ref 171) _) _ _ _); k_dflt (refine' Calls.use (one_at [_, _, _, _] ?ho ?h1 ?h2 ?hl ?hvs ?h9) ?k1 ?k2 ?k3 ?k4 ?k5 ?kK ?kd ?ku ?_); (k_extra "tb"); (case ho => assumption); (case h1 => k_all); (case h2 => k_all); (case hl => k_ne); (case hvs => (simp only [List.mem_cons, List.not_mem_nil, or_false, forall_eq_or_imp, forall_eq]; (repeat' apply And.intro) <;> exact ⟨_, _, rfl, by decide⟩)); (case h9 => rfl); intro v' news' h' tk' hR' F' N'; obtain ⟨x', t', o', e', hx', ho', en'⟩ := hR'; subst e'; subst en'; (try dsimp only [List.nil_append, List.cons_append]  at N'); (try dsimp only); (try k_fold))
  k_with "my CompEnd" => (refine LCg.CompEnd.intro (by k_asm) (by k_asm) _ ?_ (by assumption) trivial ⟨_, _, _, rfl, by assumption, by assumption, rfl⟩; exact fun _ hp => List.mem_cons_of_mem _ hp)
  k_with "my call builtin:str.join" => (k_here; refine' join_strs (News.isList (by k_asm) (by k_mem)) (by assumption) (fun w hw => ?_) ?_ (by decide) ?_; (have h1 : w.length = 1 := by simp_all); (rw [h1]; decide); omega; intro t' k'; (try k_fold))
  unfold Calls
  k_fill
  intros
  rename_i hret
  refine wpAny_call ?_
  k_dflt (refine' code_defC ?k1 ?k2 ?k3 ?k4 ?k5 ?kA ?kF ?kK ?k6 ?k7 ?k8 ?k9 ?kB ?kD ?_ ?c2 ?c3 ?c4; (case kA => exact rfl); (case kF => exact rfl); (case kK => assumption); (case k1 => k_asm); (case k2 => k_asm); (case k3 => k_asm); (case k4 => k_asm); (case k5 => k_asm); (case k6 => k_is); (case k7 => k_is); (case k8 => ktr_room); (case k9 => exact BindsTo.of_eq rfl); (case kB => exact rfl); (case kD => decide +kernel); (case c2 => exact rfl); (case c3 => exact rfl); (case c4 => exact rfl); k_whole; intro g' L' h' tk' cells' FG' F' N' Y' B' X' T' l1; (try k_lt l1); k_cells Y'; (try simp only [List.cons_append, List.nil_append] at N'); (try dsimp only); (try k_lift B'); (try k_fold))
  k_steps
  (rename (∀ w ∈ _, Str.length w = 1) => h1)
  (rename (List.length _ = _) => h2)
  (rename SrcO _ => h3)
  refine' hret _ ((src, h3.ob) :: news) _ _ ?R ?F (cb_drop ?N ?S)
  case F => k_asm
  case N => k_asm
  case S => exact fun p hp => .tail _ (.tail _ hp)
  case R =>
    refine ⟨_, _, _, rfl, ?_, by assumption, rfl⟩
    rw [KT.join_ones _ h1]
    omega
end
end Mine
end
section
open PySem PySem.W PyProof.Rows
namespace Mine
abbrev strOf (l : List Nat) : Str := ⟨l.toArray⟩
def cutL : List Nat → Int → Int → Int → List Nat
  | [], _, _, _ => []
  | c :: r, k, lo, hi => if lo ≤ k ∧ k < hi then c :: cutL r (k + 1) lo hi else cutL r (k + 1) lo hi
theorem cutL_eq (lo hi : Int) : ∀ (l : List Nat) (k : Int), cutL l k lo hi = (l.take (hi - k).toNat).drop (lo - k).toNat
  | [], k => by simp [cutL]
  | c :: r, k => by
    rw [cutL, cutL_eq lo hi r (k + 1)]
    by_cases h2 : k < hi
    · rw [show (hi - k).toNat = (hi - (k + 1)).toNat + 1 by omega, List.take_succ_cons]
      by_cases h : lo ≤ k
      · rw [if_pos ⟨h, h2⟩, Int.toNat_eq_zero.mpr (by omega : lo - k ≤ 0), Int.toNat_eq_zero.mpr (by omega : lo - (k + 1) ≤ 0), List.drop_zero, List.drop_zero]
      · rw [if_neg (fun e => h e.1), show (lo - k).toNat = (lo - (k + 1)).toNat + 1 by clear h2; omega, List.drop_succ_cons]
    · rw [if_neg (fun e => h2 e.2), Int.toNat_eq_zero.mpr (by omega : hi - k ≤ 0), Int.toNat_eq_zero.mpr (by omega : hi - (k + 1) ≤ 0), List.take_zero, List.take_zero, List.drop_nil, List.drop_nil]
theorem cutL_len {l : List Nat} {k lo hi : Int} : (cutL l k lo hi).length ≤ l.length := by
  rw [cutL_eq, List.length_drop, List.length_take]
  exact Nat.le_trans (Nat.sub_le _ _) (Nat.min_le_right _ _)
theorem slice_is (x : Str) (l u : Option Int) : Txt.slice x l u = StrLaws.sliceText x l u := rfl
theorem idx_nn {i j : Int} {n : Nat} (hi : 0 ≤ i) (hj : 0 ≤ j) : Builtin.Str.strSliceIndices (some i) (some j) 1 n = sliceRange (min i n) (min j n) 1 := by
  show sliceRange (max 0 (min (if i < 0 then i + n else i) n)) (max 0 (min (if j < 0 then j + n else j) n)) 1 = _
  rw [if_neg (Int.not_lt.mpr hi), if_neg (Int.not_lt.mpr hj), Int.max_eq_right (Int.le_min.mpr ⟨hi, Int.natCast_nonneg _⟩), Int.max_eq_right (Int.le_min.mpr ⟨hj, Int.natCast_nonneg _⟩)]
theorem range_max (i j : Int) : sliceRange i j 1 = sliceRange i (max i j) 1 := by
  by_cases h : i < j
  · rw [Int.max_eq_right (Int.le_of_lt h)]
  · rw [Int.max_eq_left (Int.not_lt.mp h)]
    unfold sliceRange
    rw [if_pos (show (1 : Int) > 0 by decide), if_pos (show (1 : Int) > 0 by decide), if_neg h, if_neg (Int.lt_irrefl i)]
theorem take_min (l : List Nat) (p q : Nat) : (l.drop (min p l.length)).take (min q l.length - min p l.length) = (l.drop p).take (q - p) := by
  by_cases hp : p ≤ l.length
  · rw [Nat.min_eq_left hp]
    by_cases hq : q ≤ l.length
    · rw [Nat.min_eq_left hq]
    · have hq' := Nat.le_of_not_le hq
      rw [Nat.min_eq_right hq', List.take_of_length_le (by rw [List.length_drop]; exact Nat.le_refl _), List.take_of_length_le (by rw [List.length_drop]; exact Nat.sub_le_sub_right hq' p)]
  · have hp' := Nat.le_of_not_le hp
    rw [Nat.min_eq_right hp', List.drop_of_length_le (Nat.le_refl _), List.drop_of_length_le hp', List.take_nil, List.take_nil]
theorem min_nat {i : Int} (n : Nat) (_hi : 0 ≤ i) : (min i (n : Int)).toNat = min i.toNat n := by
  rcases Int.le_total i n with h | h
  · rw [Int.min_eq_left h, Nat.min_eq_left (Int.toNat_le.mpr h)]
  · rw [Int.min_eq_right h, Nat.min_eq_right ((Int.le_toNat _hi).mpr h), Int.toNat_natCast]
theorem max_sub {i j : Int} (_hi : 0 ≤ i) (_hj : 0 ≤ j) : (max i j - i).toNat = j.toNat - i.toNat := by
  obtain ⟨a, rfl⟩ := Int.eq_ofNat_of_zero_le _hi
  obtain ⟨b, rfl⟩ := Int.eq_ofNat_of_zero_le _hj
  rw [Int.toNat_natCast, Int.toNat_natCast]
  rcases Int.le_total (a : Int) b with h | h
  · rw [Int.max_eq_right h, Int.toNat_sub]
  · rw [Int.max_eq_left h, Int.sub_self, Nat.sub_eq_zero_of_le (Int.ofNat_le.mp h)]
    rfl
/-- a slice between two places that are not negative -/
theorem slice_nn (x : Str) {i j : Int} (hi : 0 ≤ i) (hj : 0 ≤ j) : Txt.slice x (some i) (some j) = strOf ((x.cps.toList.drop i.toNat).take (j.toNat - i.toNat)) := by
  have hlen : x.cps.toList.length = x.length := by simp [Str.length]
  have hn : (0 : Int) ≤ (x.length : Int) := Int.natCast_nonneg _
  have hI0 := Int.le_min.mpr ⟨hi, hn⟩
  have hJ0 := Int.le_min.mpr ⟨hj, hn⟩
  have hIn := Int.min_le_right i (x.length : Int)
  have hM := Int.max_le.mpr ⟨hIn, Int.min_le_right j (x.length : Int)⟩
  have key : StrLaws.sliceText x (some i) (some j) = StrLaws.sliceText x (some (min i x.length)) (some (max (min i x.length) (min j x.length))) := by
    unfold StrLaws.sliceText
    rw [idx_nn hi hj, range_max, idx_nn hI0 (Int.le_trans hI0 (Int.le_max_left _ _)), Int.min_eq_left hIn, Int.min_eq_left hM]
  rw [slice_is, key, StrLaws.sliceText_plain ⟨hI0, Int.le_max_left _ _, hlen ▸ hM⟩, max_sub hI0 hJ0, min_nat _ hi, min_nat _ hj, ← hlen, take_min]
theorem clamp_nat {lo z : Int} {n : Nat} (h : z = max 1 (min ((n : Int) + 1) lo)) : (z - 1).toNat = min (lo - 1).toNat n := by
  rcases Int.le_total lo 1 with h1 | h1
  · have e : z = 1 := by rw [h]; exact Int.max_eq_left (Int.le_trans (Int.min_le_right _ _) h1)
    rw [e, Int.toNat_eq_zero.mpr (Int.sub_nonpos_of_le h1), Nat.min_eq_left (Nat.zero_le _)]
    rfl
  · have e : z = min ((n : Int) + 1) lo := by rw [h]; exact Int.max_eq_right (Int.le_min.mpr ⟨by omega, h1⟩)
    have e2 : z - 1 = min (lo - 1) (n : Int) := by
      rw [e]
      rcases Int.le_total lo ((n : Int) + 1) with h2 | h2
      · rw [Int.min_eq_right h2, Int.min_eq_left (by omega)]
      · rw [Int.min_eq_left h2, Int.min_eq_right (by omega), Int.add_sub_cancel]
    rw [e2, min_nat n (Int.sub_nonneg_of_le h1)]
theorem clamp_pos {lo z : Int} {n : Nat} (h : z = max 1 (min ((n : Int) + 1) lo)) : 0 ≤ z - 1 := by rw [h]; exact Int.sub_nonneg_of_le (Int.le_max_left _ _)
theorem slice_cut (x : Str) {lo hi z1 z2 : Int} (h1 : z1 = max 1 (min ((x.length : Int) + 1) lo)) (h2 : z2 = max 1 (min ((x.length : Int) + 1) hi)) :
    Txt.slice x (some (z1 - 1)) (some (z2 - 1)) = strOf (cutL x.cps.toList 1 lo hi) := by
  have hlen : x.cps.toList.length = x.length := by simp [Str.length]
  rw [slice_nn x (clamp_pos h1) (clamp_pos h2), cutL_eq, clamp_nat h1, clamp_nat h2, List.drop_take, ← hlen, take_min]
def nearF (a b : Int) : Option Int := if b = 0 then (if a = 0 then none else if a = 1 then some 1000000 else some (-1000000)) else some ((2 * a + b) / (2 * b))
def lenF (len : Option (Int × Int)) : Option Int := match len with
  | none => some 1000000
  | some (c, d) => nearF c d
def partF (x : Str) (a b : Int) (len : Option (Int × Int)) : Str := match nearF a b, lenF len with
  | some lo, some many =>
    if (lo = 1000000 ∨ lo = -1000000) ∧ many = -lo then (if len.isSome then strOf [] else if lo < 0 then x else strOf [])
    else strOf (cutL x.cps.toList 1 lo (if len.isNone then 1000000 else lo + many))
  | _, _ => strOf []
def NumOk (a b : Int) : Prop := (b = 0 ∧ (a = 0 ∨ a = 1 ∨ a = -1)) ∨ (b = 1 ∧ -10 ≤ a ∧ a ≤ 10) ∨ (b = 2 ∧ -10 ≤ a ∧ a ≤ 20 ∧ a % 2 = 1)
/-- what «within» gives, infinities as far numbers -/
def farF (a b : Int) : Int := if b = 0 then (if a < 0 then -1000000 else 1000000) else a
theorem within_far {a b z : Int} {n : Nat} (hn : n ≤ 9) (h : z = if b = 0 then (if a < 0 then 1 else (n : Int) + 1) else max 1 (min ((n : Int) + 1) a)) : z = max 1 (min ((n : Int) + 1) (farF a b)) := by
  subst h
  unfold farF
  split
  · split
    · exact (Int.max_eq_left (Int.le_trans (Int.min_le_right _ _) (by decide))).symm
    · have h1 : (n : Int) + 1 ≤ 1000000 := by omega
      rw [Int.min_eq_left h1, Int.max_eq_right (by omega)]
  · rfl
theorem empty_str : Str.ofString "" = strOf [] := by decide
theorem part_nan {x : Str} {a b : Int} {len : Option (Int × Int)} (hb : b = 0) (ha : a = 0) : Str.ofString "" = partF x a b len := by
  unfold partF nearF
  rw [if_pos hb, if_pos ha]
  exact empty_str
theorem near_fin {a b : Int} (hb : b ≠ 0) : nearF a b = some ((2 * a + b) / (2 * b)) := by unfold nearF; rw [if_neg hb]
theorem near_pos {a b : Int} (hb : b = 0) (ha : a = 1) : nearF a b = some 1000000 := by unfold nearF; rw [if_pos hb, if_neg (by omega), if_pos ha]
theorem near_neg {a b : Int} (hb : b = 0) (ha : a = -1) : nearF a b = some (-1000000) := by unfold nearF; rw [if_pos hb, if_neg (by omega), if_neg (by omega)]
theorem cutL_lo {l : List Nat} {k lo hi : Int} (h : hi ≤ lo) : cutL l k lo hi = [] := by
  rw [cutL_eq]
  exact List.drop_of_length_le (Nat.le_trans (List.length_take_le _ _) (Int.toNat_le_toNat (Int.sub_le_sub_right h k)))
theorem cutL_hi {l : List Nat} {k lo hi : Int} (h : hi ≤ k) : cutL l k lo hi = [] := by
  rw [cutL_eq, Int.toNat_eq_zero.mpr (Int.sub_nonpos_of_le h), List.take_zero, List.drop_nil]
theorem cutL_far {l : List Nat} {k lo hi : Int} (h : k + l.length ≤ lo) : cutL l k lo hi = [] := by
  rw [cutL_eq]
  exact List.drop_of_length_le (Nat.le_trans (List.length_take_le' _ _) (by omega))
theorem take_whole {l : List Nat} {k hi : Int} (h : k + l.length ≤ hi) : l.take (hi - k).toNat = l := List.take_of_length_le (by omega)
theorem cutL_whole {l : List Nat} {k lo hi : Int} (h : lo ≤ k) (h2 : k + l.length ≤ hi) : cutL l k lo hi = l := by
  rw [cutL_eq, take_whole h2, Int.toNat_eq_zero.mpr (Int.sub_nonpos_of_le h), List.drop_zero]
theorem cutL_same {l : List Nat} {k lo hi hi' : Int} (h : k + l.length ≤ hi) (h' : k + l.length ≤ hi') : cutL l k lo hi = cutL l k lo hi' := by
  rw [cutL_eq, cutL_eq, take_whole h, take_whole h']
/-- what «rounded» makes of a number that is one -/
def Rnd (a b x y : Int) : Prop := (b = 0 ∧ a ≠ 0 ∧ x = a ∧ y = b) ∨ (b ≠ 0 ∧ y = 1 ∧ x = (2 * a + b) / (2 * b))
/-- what «plus» makes of two numbers -/
def Pls (a b c d x y : Int) : Prop := (b = 0 ∧ a ≠ 0 ∧ (d = 0 → a = c) ∧ x = a ∧ y = b) ∨ (b ≠ 0 ∧ d = 0 ∧ c ≠ 0 ∧ x = c ∧ y = d) ∨ (b ≠ 0 ∧ d ≠ 0 ∧ 0 < y ∧ y ≤ b * d ∧ x.fdiv y = (a * d + c * b) / (b * d))
theorem Rnd.num {a b x y : Int} (h : Rnd a b x y) : ¬ (y = 0 ∧ x = 0) := by
  rcases h with ⟨_, h2, h3, _⟩ | ⟨_, h2, _⟩
  · exact fun e => h2 (h3 ▸ e.2)
  · rw [h2]; exact fun e => absurd e.1 (by decide)
theorem Rnd.low {a b x y : Int} (h : Rnd a b x y) : 0 ≤ y := by
  rcases h with ⟨h1, _, _, h4⟩ | ⟨_, h2, _⟩
  · rw [h4, h1]; exact Int.le_refl _
  · rw [h2]; decide
theorem Rnd.high {a b x y : Int} (h : Rnd a b x y) : y ≤ 5 := by
  rcases h with ⟨h1, _, _, h4⟩ | ⟨_, h2, _⟩
  · rw [h4, h1]; decide
  · rw [h2]; decide
theorem Pls.num {a b c d x y : Int} (h : Pls a b c d x y) : ¬ (y = 0 ∧ x = 0) := by
  rcases h with ⟨_, h2, _, h3, _⟩ | ⟨_, _, h2, h3, _⟩ | ⟨_, _, h2, _⟩
  · exact fun e => h2 (h3 ▸ e.2)
  · exact fun e => h2 (h3 ▸ e.2)
  · exact fun e => absurd h2 (by rw [e.1]; decide)
theorem near_small {a b : Int} (h : NumOk a b) (hb : b ≠ 0) : -100 ≤ (2 * a + b) / (2 * b) ∧ (2 * a + b) / (2 * b) ≤ 100 := by
  rcases h with h | ⟨rfl, h1, h2⟩ | ⟨rfl, h1, h2, _⟩
  · exact absurd h.1 hb
  · omega
  · omega
/-- the rounded number is what the law's own rule says, infinities far out -/
theorem Rnd.near {a b x y : Int} (h : Rnd a b x y) (hab : NumOk a b) : nearF a b = some (farF x y) ∧ ((y = 0 ∧ (x = 1 ∨ x = -1)) ∨ (y = 1 ∧ farF x y = x ∧ -100 ≤ x ∧ x ≤ 100)) := by
  rcases h with ⟨h1, h2, rfl, rfl⟩ | ⟨h1, rfl, rfl⟩
  · subst h1
    have ha : x = 1 ∨ x = -1 := by
      rcases hab with ⟨_, h | h | h⟩ | ⟨h, _⟩ | ⟨h, _⟩
      · exact absurd h h2
      · exact .inl h
      · exact .inr h
      · exact absurd h (by decide)
      · exact absurd h (by decide)
    refine ⟨?_, .inl ⟨rfl, ha⟩⟩
    rcases ha with rfl | rfl <;> rfl
  · have e : farF ((2 * a + b) / (2 * b)) 1 = (2 * a + b) / (2 * b) := by unfold farF; rw [if_neg (by decide)]
    rw [e]
    exact ⟨near_fin h1, .inr ⟨rfl, rfl, near_small hab h1⟩⟩
theorem strOf_self (x : Str) : strOf x.cps.toList = x := by cases x; rfl
theorem sub2_val {x : Str} {a b x1 y1 z1 z2 : Int} (hx : x.length ≤ 9) (hab : NumOk a b) (hr : Rnd a b x1 y1)
    (h1 : z1 = if y1 = 0 then (if x1 < 0 then 1 else (x.length : Int) + 1) else max 1 (min ((x.length : Int) + 1) x1))
    (h2 : z2 = if (0 : Int) = 0 then (if (1 : Int) < 0 then 1 else (x.length : Int) + 1) else max 1 (min ((x.length : Int) + 1) 1)) :
    Txt.slice x (some (z1 - 1)) (some (z2 - 1)) = partF x a b none := by
  have hlen : (x.cps.toList.length : Int) ≤ 9 := by rw [show x.cps.toList.length = x.length by simp [Str.length]]; exact Int.ofNat_le.mpr hx
  rw [slice_cut x (within_far hx h1) (within_far hx h2)]
  clear h1 h2
  obtain ⟨hn, hc⟩ := hr.near hab
  unfold partF lenF
  rw [hn]
  show strOf (cutL _ 1 (farF x1 y1) (farF 1 0)) = if _ then _ else _
  rw [show farF 1 0 = 1000000 from rfl]
  clear hn hab hr
  rcases hc with ⟨rfl, rfl | rfl⟩ | ⟨_, e, h3, h4⟩
  · rfl
  · rw [show farF (-1) 0 = -1000000 from rfl, cutL_whole (by decide) (by omega)]
    exact strOf_self x
  · rw [e, if_neg (by omega)]
    rfl
theorem part_nan2 {x : Str} {a b c d : Int} (hd : d = 0) (hc : c = 0) : Str.ofString "" = partF x a b (some (c, d)) := by
  have e : lenF (some (c, d)) = none := by
    show nearF c d = none
    unfold nearF
    rw [if_pos hd, if_pos hc]
  unfold partF
  rw [e, empty_str]
  cases nearF a b <;> rfl
theorem part_inf {x : Str} {a b c d x1 y1 x2 y2 : Int} (hab : NumOk a b) (hcd : NumOk c d) (hr : Rnd a b x1 y1) (hq : Rnd c d x2 y2) (h : (y1 = 0 ∧ x1 = 0) ∨ (y2 = 0 ∧ x2 = 0) ∨ (y1 = 0 ∧ y2 = 0 ∧ x1 ≠ x2)) : Str.ofString "" = partF x a b (some (c, d)) := by
  rcases h with h | h | ⟨rfl, rfl, hne⟩
  · exact absurd h hr.num
  · exact absurd h hq.num
  obtain ⟨hn, hc⟩ := hr.near hab
  obtain ⟨hm, hc'⟩ := hq.near hcd
  unfold partF
  rw [hn, show lenF (some (c, d)) = nearF c d from rfl, hm, empty_str]
  clear hn hm hab hcd hr hq
  rcases hc with ⟨_, rfl | rfl⟩ | ⟨h, _⟩ <;> rcases hc' with ⟨_, rfl | rfl⟩ | ⟨h', _⟩
  · exact absurd rfl hne
  · rfl
  · exact absurd h' (by decide)
  · rfl
  · exact absurd rfl hne
  · exact absurd h' (by decide)
  · exact absurd h (by decide)
  · exact absurd h (by decide)
  · exact absurd h (by decide)
theorem sub3_val {x : Str} {a b c d x1 y1 x2 y2 x3 y3 z1 z2 : Int} (hx : x.length ≤ 9) (hab : NumOk a b) (hcd : NumOk c d) (hr : Rnd a b x1 y1) (hq : Rnd c d x2 y2) (hp : Pls x1 y1 x2 y2 x3 y3)
    (h1 : z1 = if y1 = 0 then (if x1 < 0 then 1 else (x.length : Int) + 1) else max 1 (min ((x.length : Int) + 1) x1))
    (h2 : z2 = if y3 = 0 then (if x3 < 0 then 1 else (x.length : Int) + 1) else max 1 (min ((x.length : Int) + 1) x3)) :
    Txt.slice x (some (z1 - 1)) (some (z2 - 1)) = partF x a b (some (c, d)) := by
  have hlen : (x.cps.toList.length : Int) ≤ 9 := by rw [show x.cps.toList.length = x.length by simp [Str.length]]; exact Int.ofNat_le.mpr hx
  rw [slice_cut x (within_far hx h1) (within_far hx h2)]
  clear h1 h2 z1 z2 hx
  obtain ⟨hn, hc⟩ := hr.near hab
  obtain ⟨hm, hc'⟩ := hq.near hcd
  unfold partF
  rw [hn, show lenF (some (c, d)) = nearF c d from rfl, hm]
  show strOf (cutL _ 1 (farF x1 y1) (farF x3 y3)) = if _ then _ else strOf (cutL _ 1 (farF x1 y1) (farF x1 y1 + farF x2 y2))
  clear hn hm hab hcd hr hq
  generalize x.cps.toList = l at hlen
  have low : (1 : Int) + l.length ≤ 1000000 := by omega
  rcases hp with ⟨h1, h2, h3, rfl, rfl⟩ | ⟨h1, h2, h3, rfl, rfl⟩ | ⟨h1, h2, h3, h4, h5⟩
  · rw [cutL_lo (Int.le_refl _)]
    rcases hc with ⟨_, hc⟩ | ⟨h, _⟩
    · have hm : farF x2 y2 = farF x3 y3 ∨ (-100 ≤ farF x2 y2 ∧ farF x2 y2 ≤ 100) := by
        rcases hc' with ⟨e, _⟩ | ⟨_, e, h⟩
        · exact .inl (by rw [h3 e, e, h1])
        · exact .inr (by rw [e]; exact h)
      generalize farF x2 y2 = F at hm
      subst h1
      rcases hc with rfl | rfl
      · rw [show farF 1 0 = 1000000 from rfl] at hm ⊢
        rw [if_neg (by omega), cutL_far low]
      · rw [show farF (-1) 0 = -1000000 from rfl] at hm ⊢
        rw [if_neg (by omega), cutL_hi (by omega)]
    · exact absurd (h ▸ h1) (by decide)
  · rcases hc with ⟨h, _⟩ | ⟨_, e, h6, h7⟩
    · exact absurd h h1
    rw [e, if_neg (by omega)]
    subst h2
    rcases hc' with ⟨_, rfl | rfl⟩ | ⟨h, _⟩
    · rw [show farF 1 0 = 1000000 from rfl, cutL_same (hi' := x1 + 1000000) low (by omega)]
    · rw [show farF (-1) 0 = -1000000 from rfl, cutL_hi (by omega), cutL_hi (by omega)]
    · exact absurd h (by decide)
  · rcases hc with ⟨h, _⟩ | ⟨e1, e, h6, h7⟩
    · exact absurd h h1
    rcases hc' with ⟨h, _⟩ | ⟨e2, e', h8, h9⟩
    · exact absurd h h2
    subst e1 e2
    have e3 : y3 = 1 := by omega
    subst e3
    rw [Int.fdiv_one] at h5
    rw [e, e', if_neg (by omega), show farF x3 1 = x3 by unfold farF; rw [if_neg (by decide)], h5, show (x1 * 1 + x2 * 1) / (1 * 1) = x1 + x2 by omega]
end Mine
end
section
open PySem PySem.W PyProof.Rows PySem.Calls
set_option maxRecDepth 100000
set_option maxHeartbeats 8000000
namespace Mine
abbrev tupO (a b : Int) (ta tb : Tok) (n : Nat) : Obj := { cls := .type "tuple", data := .seq #[.int a ta, .int b tb] n }
theorem all_lt {d : Addr} {l : Led} (h : AllLt d l) : ∀ q ∈ l, q.1 < d := tb_ltOf h
theorem num_even {h : Int} (h0 : -6 ≤ h) (h1 : h ≤ 18) : NumOk (h.fdiv 2) 1 := by
  rw [Int.fdiv_eq_ediv_of_nonneg _ (by decide)]
  exact .inr (.inl ⟨rfl, by omega, by omega⟩)
theorem num_odd {h : Int} (h0 : -6 ≤ h) (h1 : h ≤ 18) (hm : ¬ h.fmod 2 = 0) : NumOk h 2 := by
  rw [Int.fmod_eq_emod_of_nonneg _ (by decide)] at hm
  exact .inr (.inr ⟨rfl, by omega, by omega, by omega⟩)
theorem number_end {h₀ : Heap} {L src r : Addr} {m : Str → Option Value} {o o' : Obj} {news all : Led} {a b : Int} {ta tb : Tok} {n : Nat} {s : Shared} {Q : Value → Shared → Prop} {h' : Heap} {tk' : Nat}
    (hret : ∀ (v : Value) (news' : Led) (h' : Heap) (tk' : Nat), (fun v news' => ∃ r a b ta tb n o', v = .ref r ∧ NumOk a b ∧ SrcO o' ∧ news' = (r, tupO a b ta tb n) :: (src, o') :: news ∧ (∀ q ∈ (src, o) :: news, q.1 < r)) v news' → Fr h₀ L h' m → News h₀ L h' news' → Q v { s with heap := h', toks := tk' })
    (F : Fr h₀ L h' m) (N : News h₀ L h' all) (hm : (r, tupO a b ta tb n) ∈ all) (hsrc : (src, o') ∈ all) (hrest : ∀ p ∈ news, p ∈ all) (hs : SrcO o') (hnum : NumOk a b) (hlt : AllLt r ((src, o) :: news)) : Q (.ref r) { s with heap := h', toks := tk' } :=
  hret _ _ h' tk' ⟨r, a, b, ta, tb, n, o', rfl, hnum, hs, rfl, all_lt hlt⟩ F fun p hp => by
    rcases List.mem_cons.mp hp with rfl | hp
    · exact N _ hm
    · rcases List.mem_cons.mp hp with rfl | hp
      · exact N _ hsrc
      · exact N _ (hrest p hp)
section
theorem number_c {w : World} {p : Program} {loose : List Str} {mean : ExcName → Option Value} {mg mb : Str → Option Value} {src : Addr} {o : Obj} {news : Led}
   (ho : SrcO o) (hne : ∀ q ∈ news, q.1 ≠ src) :
   Calls w p loose mean mg mb 183 2 [.ref src] ((src, o) :: news)
     (fun v news' => ∃ r a b ta tb n o', v = .ref r ∧ NumOk a b ∧ SrcO o' ∧ news' = (r, tupO a b ta tb n) :: (src, o') :: news ∧ (∀ q ∈ (src, o) :: news, q.1 < r)) := by
  w_top off
  k_with_none
  k_with "all" => assumption
  k_with "tb" => ((case k1 => k_asm); (case k2 => k_asm); (case k3 => k_asm); (case k4 => k_asm); (case k5 => k_asm); (case kK => first | exact rfl | assumption); (case kd => first | exact Mine.room1 (by assumption) (by decide) | ktr_room | k_room); (case ku => first | exact Mine.unit1 (by assumption) (by decide) | ktr_units | k_units))
  k_with "my call ref" => (k_here; (with_reducible show wpAny _ _ (call (Value.ref 164) _) _ _ _); k_dflt (first | (refine' take_u [] ?ho ?h1 ?h2 ?ht ?ht2 ?k1 ?k2 ?k3 ?k4 ?k5 ?kK ?kd ?ku ?_; (k_extra "tb")) | (refine' take_u [_] ?ho ?h1 ?h2 ?ht ?ht2 ?k1 ?k2 ?k3 ?k4 ?k5 ?kK ?kd ?ku ?_; (k_extra "tb")) | (refine' take_u [_, _, _, _] ?ho ?h1 ?h2 ?ht ?ht2 ?k1 ?k2 ?k3 ?k4 ?k5 ?kK ?kd ?ku ?_; (k_extra "tb"))); (case ho => assumption); (case h1 => k_all); (case h2 => k_all); (case ht => omega); (case ht2 => omega); intros; (rename News _ _ _ _ => N'); (try dsimp only [List.nil_append, List.cons_append]  at N'); (try dsimp only); (try k_fold))
  k_with "my subscriptTail" => (k_here; (with_reducible show wpAny _ _ (subscriptTail _ _ (Value.ref _) (Value.int _ _)) _ _ _); (with_unfolding_all (refine' item_at ?k1 ?k2 ?k3 ?k4 ?_ ?k6)); (case k1 => exact News.isList (by k_asm) (by k_mem)); (case k2 => assumption); (case k3 => (simp only [List.length_cons, List.length_nil]; omega)); (case k4 => omega); (case k6 => with_unfolding_all rfl); intro v' hv'; (simp only [List.mem_cons, List.not_mem_nil, or_false] at hv'); rcases hv' with hv' | hv' | hv' <;> (subst hv'; (try k_fold)))
  unfold Calls
  k_fill
  intros
  rename_i hret
  refine wpAny_call ?_
  k_dflt cell_enter
  k_steps
  all_goals (
    refine' number_end hret ?F ?N ?hm ?hsrc ?hr ?hs ?hnum ?hlt
    case F => k_asm
    case N => k_asm
    case hm => k_mem
    case hsrc => k_mem
    case hr => (intro p hp; repeat (first | exact hp | refine .tail _ ?_))
    case hs => assumption
    case hlt => first | exact (by assumption : src < _ ∧ AllLt _ news) | exact (by assumption : _ ∧ src < _ ∧ AllLt _ news).2 | exact (by assumption : _ ∧ _ ∧ src < _ ∧ AllLt _ news).2.2
    case hnum => first
      | exact .inl ⟨rfl, .inr (.inl rfl)⟩
      | exact .inl ⟨rfl, .inr (.inr rfl)⟩
      | exact .inl ⟨rfl, .inl rfl⟩
      | exact num_even (by omega) (by omega)
      | exact num_odd (by omega) (by omega) (by assumption))
end
end Mine
end
section
open PySem PySem.W PyProof.Rows PySem.Calls
set_option maxRecDepth 100000
set_option maxHeartbeats 8000000
namespace Mine
theorem int_once {M : Model} {A : Around} {t : Sem Value} {Q E : Value → Shared → Prop} {s : Shared} (h : wpAny M A t (fun v s' => ∃ c t' tk', v = .int c t' ∧ s' = { s with toks := tk' }) E s) (k : ∀ c t' tk', Q (.int c t') { s with toks := tk' }) : wpAny M A t Q E s :=
  wpAny_mono h (fun _ _ ⟨c, t', tk', hv, hs⟩ => by subst hv hs; exact k c t' tk') fun _ _ e => e
theorem pos_once {M : Model} {A : Around} {t : Sem Value} {Q E : Value → Shared → Prop} {s : Shared} (h : wpAny M A t (fun v s' => ∃ c t' tk', v = .int c t' ∧ 0 ≤ c ∧ s' = { s with toks := tk' }) E s) (k : ∀ c t' tk', 0 ≤ c → Q (.int c t') { s with toks := tk' }) : wpAny M A t Q E s :=
  wpAny_mono h (fun _ _ ⟨c, t', tk', hv, hc, hs⟩ => by subst hv hs; exact k c t' tk' hc) fun _ _ e => e
section
theorem pool_c {w : World} {p : Program} {loose : List Str} {mean : ExcName → Option Value} {mg mb : Str → Option Value} {l : Addr} {vs : List Value} {ns : List Int} {k : Int} {tk₀ : Tok} {news : Led}
   (hi : IntsAre vs ns) (hlen : ns.length ≤ 63) (h0 : 0 ≤ k) (h3 : k < 3) {base₀ : Heap} (hl : base₀.IsList l vs.toArray) :
   ∀ (dp un : Nat) (gd : Option (List Code)) (cn : Str) (cs : Scope) (a : Addr) (ccd : Value) (cl : List (Str × Addr)) (outer : List Env) (A₀ : Around) (h₀ : Heap) (L : Addr) (m : Str → Option Value) (s : Shared) (Q E : Value → Shared → Prop),
    Below A₀ base₀ outer h₀ → Fr h₀ L s.heap m → (hd.heap_39 w.params).In h₀ → News h₀ L s.heap news → Top p loose mean mg mb h₀ → cs.kind = .function →
    dp + 2 < recursionLimit → un + 8 * 2 < cLine →
    (∀ r o h' tk', SrcO o → (∀ q ∈ news, q.1 < r) → Fr h₀ L h' m → News h₀ L h' ((r, o) :: news) → Q (.ref r) { s with heap := h', toks := tk' }) →
    wpAny (model PySem.Challenge.rw_nu0054_01.row.prog w) (ktrTop dp un gd cn cs L a ccd cl outer) (call (.ref 157) [.ref l, .int k tk₀]) Q E s := by
  w_top off
  k_with_none
  k_with "my eval IfExp" => (k_here; refine stopI ?_)
  k_fill
  intros
  rename_i hret
  refine wpAny_call ?_
  k_dflt cell_enter
  k_steps
  unfold Stop
  refine int_once ?_ ?_
  · k_with_none
    k_steps
  intro c5 t5 k5
  k_with_none
  k_with "my eval IfExp" => (k_here; refine stopI ?_)
  try k_fold
  k_steps
  unfold Stop
  refine pos_once ?_ ?_
  · k_with_none
    k_steps
  intro c6 t6 k6 h6
  k_with_none
  try k_fold
  k_steps
  all_goals (
    refine' hret _ _ _ _ ⟨⟨_, _, _, _, _, rfl, ?h1, fmod_lo' _ (by decide), fmod_hi' _ (by decide)⟩⟩ ?h2 ?F ?N
    case h2 => assumption
    case F => k_asm
    case N => k_asm
    case h1 => first | omega | (split <;> omega))
end
end Mine
end
section
open PySem PySem.W PyProof.Rows PySem.Calls
set_option maxRecDepth 100000
set_option maxHeartbeats 8000000
namespace Mine
theorem gcd_turn {a b : Int} {G : Nat} (h : Int.gcd a b = G) (hb : 0 < b) : 0 ≤ b ∧ 0 ≤ a.fmod b ∧ Int.gcd b (a.fmod b) = G := by
  refine ⟨by omega, fmod_lo' _ hb, ?_⟩
  rw [Int.fmod_eq_emod_of_nonneg _ (by omega), Int.gcd_comm, ← h]
  conv => rhs; rw [← Int.emod_add_mul_ediv a b]
  rw [Int.gcd_add_mul_left_left]
theorem gcd_meas {a b : Int} (hb : 0 < b) : (a.fmod b).toNat < b.toNat := by
  have h1 := fmod_lo' a hb
  have h2 := fmod_hi' a hb
  omega
theorem gcd_end {a b x y : Int} (h : Int.gcd a b = Int.gcd (if x < 0 then -x else x) y) (h1 : 0 ≤ a) (h2 : 0 ≤ b) (hb : ¬ 0 < b) : a = (Int.gcd x y : Int) := by
  have hb0 : b = 0 := by omega
  subst hb0
  rw [Int.gcd_zero] at h
  have e : Int.gcd (if x < 0 then -x else x) y = Int.gcd x y := by split <;> simp
  rw [e] at h
  omega
section
theorem gcd_c {w : World} {p : Program} {loose : List Str} {mean : ExcName → Option Value} {mg mb : Str → Option Value} {x y : Int} {tx ty : Tok} {news : Led}
   (hy : 0 < y) :
   Calls w p loose mean mg mb 43 1 [.int x tx, .int y ty] news
     (fun v news' => ∃ g t, g = (Int.gcd x y : Int) ∧ 0 < g ∧ g ≤ y ∧ v = .int g t ∧ news' = news) := by
  w_top off
  k_with_none
  k_with "my exec While Compare cons nil" => k_dflt (k_while_given ["first!", "second!"] (fun f₀ s₀ _ a b => 0 ≤ a ∧ 0 ≤ b ∧ Int.gcd a b = Int.gcd f₀ s₀) (fun _ _ _ _ b => b.toNat) "first" "second")
  k_with "my KswEnd" => k_dflt (refine ksw_end ⟨_, _, _, _⟩ (by k_asm) (by k_asm) (fun p hp => .tail _ hp) trivial (by kst_all) (by ksw_same) (gcd_turn (by assumption) (by assumption)) (gcd_meas (by assumption)))
  unfold Calls
  k_fill
  intros
  rename_i hret
  refine wpAny_call ?_
  k_dflt cell_enter
  k_steps
  refine' hret _ _ _ _ ⟨_, _, gcd_end ?h1 ?h2 ?h3 ?h4, ?h5, ?h6, rfl, rfl⟩ ?F (cb_drop ?N ?S)
  case h1 => assumption
  case h2 => assumption
  case h3 => assumption
  case h4 => assumption
  case h5 =>
    (rename Int.gcd _ _ = Int.gcd _ _ => hg)
    have e := gcd_end hg (by assumption) (by assumption) (by assumption)
    rw [e]
    exact Int.natCast_pos.mpr (Int.gcd_pos_of_ne_zero_right _ (by omega))
  case h6 =>
    (rename Int.gcd _ _ = Int.gcd _ _ => hg)
    have e := gcd_end hg (by assumption) (by assumption) (by assumption)
    rw [e]
    exact Int.le_of_dvd hy (Int.gcd_dvd_right ..)
  case F => k_asm
  case N => k_asm
  case S => exact fun p hp => .tail _ hp
end
end Mine
end
section
open PySem PySem.W PyProof.Rows PySem.Calls
set_option maxRecDepth 100000
set_option maxHeartbeats 8000000
namespace Mine
theorem reduced {a b : Int} (hb : 0 < b) : 0 < b.fdiv (Int.gcd a b) ∧ b.fdiv (Int.gcd a b) ≤ b ∧ (a.fdiv (Int.gcd a b)).fdiv (b.fdiv (Int.gcd a b)) = a / b := by
  have hg : 0 < (Int.gcd a b : Int) := Int.natCast_pos.mpr (Int.gcd_pos_of_ne_zero_right _ (by omega))
  obtain ⟨x, hx⟩ := Int.gcd_dvd_left a b
  obtain ⟨y, hy⟩ := Int.gcd_dvd_right a b
  generalize (Int.gcd a b : Int) = g at *
  subst hx
  have hy0 : 0 < y := by
    rw [hy] at hb
    refine Int.not_le.mp fun hn => ?_
    have h1 := Int.mul_le_mul_of_nonneg_left hn (Int.le_of_lt hg)
    rw [Int.mul_zero] at h1
    omega
  rw [hy]
  have e1 : (g * y).fdiv g = y := by rw [Int.fdiv_eq_ediv_of_nonneg _ (by omega)]; exact Int.mul_ediv_cancel_left _ (by omega)
  have e2 : (g * x).fdiv g = x := by rw [Int.fdiv_eq_ediv_of_nonneg _ (by omega)]; exact Int.mul_ediv_cancel_left _ (by omega)
  rw [e1, e2, Int.fdiv_eq_ediv_of_nonneg _ (by omega), Int.mul_ediv_mul_of_pos _ _ hg]
  refine ⟨hy0, ?_, rfl⟩
  have h1 : 1 * y ≤ g * y := Int.mul_le_mul_of_nonneg_right (by omega) (by omega)
  omega
section
theorem number_of_c {w : World} {p : Program} {loose : List Str} {mean : ExcName → Option Value} {mg mb : Str → Option Value} {a b : Int} {ta tb : Tok} {news : Led}
   (h0 : 0 < b) (h4 : b ≤ 25) :
   Calls w p loose mean mg mb 58 2 [.int a ta, .int b tb] news
     (fun v news' => ∃ r x y t t' n, v = .ref r ∧ news' = (r, tupO x y t t' n) :: news ∧ (∀ q ∈ news, q.1 < r) ∧ 0 < y ∧ y ≤ b ∧ x.fdiv y = a / b) := by
  w_top off
  k_with_none
  k_with "room" => ktr_room
  k_with "tb" => ((case k1 => k_asm); (case k2 => k_asm); (case k3 => k_asm); (case k4 => k_asm); (case k5 => k_asm); (case kK => first | exact rfl | assumption); (case kd => first | exact Mine.room1 (by assumption) (by decide) | ktr_room | k_room); (case ku => first | exact Mine.unit1 (by assumption) (by decide) | ktr_units | k_units))
  k_with "my call ref" => (k_here; (with_reducible show wpAny _ _ (call (Value.ref 43) _) _ _ _); k_dflt (refine' Calls.use (gcd_c ?hy) ?k1 ?k2 ?k3 ?k4 ?k5 ?kK ?kd ?ku ?_); (k_extra "tb"); (case hy => omega); intro v' news' h' tk' hR' F' N'; obtain ⟨g', t', eg', hg', hgy', e', en'⟩ := hR'; subst e'; subst en'; (try dsimp only); (try k_fold))
  unfold Calls
  k_fill
  intros
  rename_i hret
  refine wpAny_call ?_
  k_dflt (refine' code_def ?k1 ?k2 ?k3 ?k4 ?k5 ?kA ?kF ?kK ?k6 ?k7 ?k8 ?k9 ?kB ?_ ?c2 ?c3 ?c4 ?c5; (case kA => exact rfl); (case kF => exact rfl); (case kK => assumption); (case k1 => k_asm); (case k2 => k_asm); (case k3 => k_asm); (case k4 => k_asm); (case k5 => k_asm); (case k6 => k_is); (case k7 => k_is); (case k8 => ktr_room); (case k9 => first | exact BindsTo.of_eq rfl | exact binds_K (by k_in) rfl (by k_is) rfl rfl rfl); (case c5 => decide); (case kB => exact locs rfl); (case c2 => exact rfl); (case c3 => exact rfl); (case c4 => exact rfl); k_whole; intro g' L' h' FG' F' N' B' X' T'; (try dsimp only); (try k_lift B'); (try k_fold))
  k_steps
  · exfalso; omega
  (rename _ = (Int.gcd _ _ : Int) => eg)
  subst eg
  refine' hret _ _ _ _ ⟨_, _, _, _, _, _, rfl, rfl, ?h1, (reduced h0).1, (reduced h0).2.1, (reduced h0).2.2⟩ ?F ?N
  case F => k_asm
  case N => k_asm
  case h1 => assumption
end
end Mine
end
section
open PySem PySem.W PyProof.Rows PySem.Calls
set_option maxRecDepth 100000
set_option maxHeartbeats 8000000
namespace Mine
theorem round_eq {a b : Int} : (a * 2 + 1 * b) / (b * 2) = (2 * a + b) / (2 * b) := by
  congr 1 <;> omega
theorem nan_l1 {a b : Int} (hb : b = 0) : (a == 0) = decide (b = 0 ∧ a = 0) := by subst hb; by_cases h : a = 0 <;> simp [h]
theorem nan_l2 {a b : Int} (hb : ¬ b = 0) : (b == 0) = decide (b = 0 ∧ a = 0) := by simp [hb]
theorem is_nan_c {w : World} {p : Program} {loose : List Str} {mean : ExcName → Option Value} {mg mb : Str → Option Value} {r : Addr} {a b : Int} {ta tb : Tok} {n : Nat} {news : Led}
   (hm : (r, tupO a b ta tb n) ∈ news) :
   Calls w p loose mean mg mb 65 1 [.ref r] news (fun v news' => v = .bool (decide (b = 0 ∧ a = 0)) ∧ news' = news) := by
  w_top off
  k_with_none
  unfold Calls
  k_fill
  intros
  rename_i hret
  refine wpAny_call ?_
  k_dflt cell_enter
  k_steps
  all_goals (
    refine' hret _ _ _ _ ⟨congrArg Value.bool ?h1, rfl⟩ ?F ?N
    case F => k_asm
    case N => k_asm
    case h1 => first | exact nan_l1 (by assumption) | exact nan_l2 (by assumption))
theorem tup_end {h₀ : Heap} {L r : Addr} {m : Str → Option Value} {news all : Led} {x y : Int} {t t' : Tok} {n : Nat} {s : Shared} {Q : Value → Shared → Prop} {R : Value → Led → Prop} {h' : Heap} {tk' : Nat}
    (hret : ∀ (v : Value) (news' : Led) (h' : Heap) (tk' : Nat), R v news' → Fr h₀ L h' m → News h₀ L h' news' → Q v { s with heap := h', toks := tk' })
    (F : Fr h₀ L h' m) (N : News h₀ L h' all) (hm : (r, tupO x y t t' n) ∈ all) (hrest : ∀ p ∈ news, p ∈ all) (hR : R (.ref r) ((r, tupO x y t t' n) :: news)) : Q (.ref r) { s with heap := h', toks := tk' } :=
  hret _ _ h' tk' hR F (List.forall_mem_cons.mpr ⟨N _ hm, fun p hp => N p (hrest p hp)⟩)
theorem is_nan36_c {w : World} {p : Program} {loose : List Str} {mean : ExcName → Option Value} {mg mb : Str → Option Value} {news : Led} :
   Calls w p loose mean mg mb 65 1 [.ref 36] news (fun v news' => v = .bool true ∧ news' = news) := by
  w_top off
  k_with_none
  unfold Calls
  k_fill
  intros
  rename_i hret
  refine wpAny_call ?_
  k_dflt cell_enter
  k_steps
  all_goals (
    refine' hret _ _ _ _ ⟨rfl, rfl⟩ ?F ?N
    case F => k_asm
    case N => k_asm)
theorem if_min {hi a : Int} : (if a < hi then a else hi) = min hi a := by
  by_cases h : a < hi
  · rw [if_pos h, Int.min_eq_right (Int.le_of_lt h)]
  · rw [if_neg h, Int.min_eq_left (Int.not_lt.mp h)]
theorem if_max {lo a : Int} : (if a > lo then a else lo) = max lo a := by
  by_cases h : a > lo
  · rw [if_pos h, Int.max_eq_right (Int.le_of_lt h)]
  · rw [if_neg h, Int.max_eq_left (Int.not_lt.mp h)]
theorem within_c {w : World} {p : Program} {loose : List Str} {mean : ExcName → Option Value} {mg mb : Str → Option Value} {r : Addr} {a b lo hi : Int} {ta tb tl th : Tok} {n : Nat} {news : Led}
   (hm : (r, tupO a b ta tb n) ∈ news) :
   Calls w p loose mean mg mb 121 1 [.ref r, .int lo tl, .int hi th] news (fun v news' => ∃ z t, v = .int z t ∧ z = (if b = 0 then (if a < 0 then lo else hi) else max lo (min hi a)) ∧ news' = news) := by
  w_top off
  k_with_none
  unfold Calls
  k_fill
  intros
  rename_i hret
  refine wpAny_call ?_
  k_dflt cell_enter
  k_steps
  all_goals (
    refine' hret _ _ _ _ ⟨_, _, rfl, ?h1, rfl⟩ ?F ?N
    case F => k_asm
    case N => k_asm
    case h1 => first
      | (rw [if_pos (by assumption), if_pos (by assumption)])
      | (rw [if_pos (by assumption), if_neg (by assumption)])
      | (rw [if_min, if_max]; exact (if_neg (by assumption)).symm))
section
variable {w : World} {p : Program} {loose : List Str} {mean : ExcName → Option Value} {mg mb : Str → Option Value}
  {dp un : Nat} {gd : Option (List Code)} {cn : Str} {cs : Scope} {a₀ : Addr} {ccd : Value} {cl : List (Str × Addr)} {outer : List Env} {A₀ : Around} {base h₀ : Heap} {L : Addr} {m : Str → Option Value} {s : Shared} {Q E : Value → Shared → Prop} {news : Led}
theorem number_of_u {a b : Int} {ta tb : Tok} (h0 : 0 < b) (h4 : b ≤ 25)
    (B : Below A₀ base outer h₀) (F : Fr h₀ L s.heap m) (X : (hd.heap_39 w.params).In h₀) (N : News h₀ L s.heap news) (T : Top p loose mean mg mb h₀) (hk : cs.kind = .function) (hd : dp + 2 < recursionLimit) (hu : un + 8 * 2 < cLine)
    (ret : ∀ r x y t u n h' tk', 0 < y → y ≤ b → x.fdiv y = a / b → Fr h₀ L h' m → News h₀ L h' ((r, tupO x y t u n) :: news) → Q (.ref r) { s with heap := h', toks := tk' }) :
    wpAny (model PySem.Challenge.rw_nu0054_01.row.prog w) (ktrTop dp un gd cn cs L a₀ ccd cl outer) (call (.ref 58) [.int a ta, .int b tb]) Q E s := by
  refine Calls.use (number_of_c h0 h4) B F X N T hk hd hu ?_
  rintro v news' h' tk' ⟨r, x, y, t, u, n, rfl, rfl, _, h1, h2, h3⟩ F' N'
  exact ret r x y t u n h' tk' h1 h2 h3 F' N'
theorem is_nan_u {r : Addr} {a b : Int} {ta tb : Tok} {n : Nat} (hm : (r, tupO a b ta tb n) ∈ news)
    (B : Below A₀ base outer h₀) (F : Fr h₀ L s.heap m) (X : (hd.heap_39 w.params).In h₀) (N : News h₀ L s.heap news) (T : Top p loose mean mg mb h₀) (hk : cs.kind = .function) (hd : dp + 1 < recursionLimit) (hu : un + 8 * 1 < cLine)
    (ret : ∀ h' tk', Fr h₀ L h' m → News h₀ L h' news → Q (.bool (decide (b = 0 ∧ a = 0))) { s with heap := h', toks := tk' }) :
    wpAny (model PySem.Challenge.rw_nu0054_01.row.prog w) (ktrTop dp un gd cn cs L a₀ ccd cl outer) (call (.ref 65) [.ref r]) Q E s := by
  refine Calls.use (is_nan_c hm) B F X N T hk hd hu ?_
  rintro v news' h' tk' ⟨rfl, rfl⟩ F' N'
  exact ret h' tk' F' N'
end
section
theorem prod_pos {b d : Int} (h0 : 0 ≤ b) (g0 : 0 ≤ d) (hb : b ≠ 0) (hd : d ≠ 0) : 0 < b * d := Int.mul_pos (by omega) (by omega)
theorem prod_le {b d : Int} (h2 : b ≤ 5) (g2 : d ≤ 5) (_h0 : 0 ≤ b) (g0 : 0 ≤ d) : b * d ≤ 25 := (Int.mul_le_mul h2 g2 g0 (by decide) : b * d ≤ 5 * 5)
theorem plus_m {w : World} {p : Program} {loose : List Str} {mean : ExcName → Option Value} {mg mb : Str → Option Value} {r q : Addr} {a b c d : Int} {ta tb tc td : Tok} {n k : Nat} {news : Led}
   (hm : (r, tupO a b ta tb n) ∈ news) (hm2 : (q, tupO c d tc td k) ∈ news) (h0 : 0 ≤ b) (h2 : b ≤ 5) (g0 : 0 ≤ d) (g2 : d ≤ 5) :
   Calls w p loose mean mg mb 72 3 [.ref r, .ref q] news
     (fun v news' => (v = .ref 36 ∧ ((b = 0 ∧ a = 0) ∨ (d = 0 ∧ c = 0) ∨ (b = 0 ∧ d = 0 ∧ a ≠ c)) ∧ news' = news) ∨ (∃ r' x y t u n', v = .ref r' ∧ Pls a b c d x y ∧ (r', tupO x y t u n') ∈ news' ∧ (∀ q' ∈ news, q' ∈ news'))) := by
  w_top off
  k_with_none
  k_with "room" => ktr_room
  k_with "tb" => ((case k1 => k_asm); (case k2 => k_asm); (case k3 => k_asm); (case k4 => k_asm); (case k5 => k_asm); (case kK => first | exact rfl | assumption); (case kd => first | exact Mine.room1 (by assumption) (by decide) | ktr_room | k_room); (case ku => first | exact Mine.unit1 (by assumption) (by decide) | ktr_units | k_units))
  k_with "my call ref" => (k_here; (with_reducible show wpAny _ _ (call (Value.ref 58) _) _ _ _); k_dflt (refine' number_of_u ?h0 ?h4 ?k1 ?k2 ?k3 ?k4 ?k5 ?kK ?kd ?ku ?_; (k_extra "tb"); (case h0 => exact prod_pos (by assumption) (by assumption) (by assumption) (by assumption)); (case h4 => exact prod_le (by assumption) (by assumption) (by assumption) (by assumption)); intros; (try dsimp only); (try k_fold)))
  k_with "my call ref" => (k_here; (with_reducible show wpAny _ _ (call (Value.ref 65) _) _ _ _); k_dflt (refine' is_nan_u ?hm ?k1 ?k2 ?k3 ?k4 ?k5 ?kK ?kd ?ku ?_; (k_extra "tb"); (case hm => k_mem); intros; (try dsimp only); (try k_fold)))
  k_with "my eval Call" => (k_here; k_dflt (refine Call_ ?_))
  unfold Calls
  k_fill
  intros
  rename_i hret
  refine wpAny_call ?_
  k_dflt cell_enter
  k_steps
  all_goals first
    | exact absurd (by assumption : b = 0) (by assumption)
    | exact absurd (by assumption : d = 0) (by assumption)
    | (refine' hret _ _ _ _ (.inl ⟨rfl, ?a1, rfl⟩) ?F ?N
       (case F => k_asm)
       (case N => k_asm)
       (case a1 => first | exact .inl (by assumption) | exact .inr (.inl (by assumption)) | exact .inr (.inr ⟨by assumption, by assumption, by assumption⟩)))
    | (refine' hret _ _ _ _ (.inr ⟨r, a, b, _, _, _, rfl, .inl ⟨by assumption, fun e => (by assumption : ¬(b = 0 ∧ a = 0)) ⟨by assumption, e⟩, ?a3, rfl, rfl⟩, hm, fun _ h => h⟩) ?F ?N
       (case F => k_asm)
       (case N => k_asm)
       (case a3 => first | exact fun _ => by assumption | exact fun e => absurd e (by assumption)))
    | (refine' hret _ _ _ _ (.inr ⟨q, c, d, _, _, _, rfl, .inr (.inl ⟨by assumption, by assumption, fun e => (by assumption : ¬(d = 0 ∧ c = 0)) ⟨by assumption, e⟩, rfl, rfl⟩), hm2, fun _ h => h⟩) ?F ?N
       (case F => k_asm)
       (case N => k_asm))
    | (refine' hret _ _ _ _ (.inr ⟨_, _, _, _, _, _, rfl, .inr (.inr ⟨by assumption, by assumption, by assumption, by assumption, by assumption⟩), .head _, fun _ h => .tail _ h⟩) ?F ?N
       (case F => k_asm)
       (case N => k_asm))
theorem plus_nan_at {w : World} {p : Program} {loose : List Str} {mean : ExcName → Option Value} {mg mb : Str → Option Value} {r : Addr} {a b : Int} {ta tb : Tok} {n : Nat} {news : Led} (hm : (r, tupO a b ta tb n) ∈ news) :
   Calls w p loose mean mg mb 72 3 [.ref r, .ref 36] news (fun v news' => v = .ref 36 ∧ news' = news) := by
  w_top off
  k_with_none
  k_with "room" => ktr_room
  k_with "tb" => ((case k1 => k_asm); (case k2 => k_asm); (case k3 => k_asm); (case k4 => k_asm); (case k5 => k_asm); (case kK => first | exact rfl | assumption); (case kd => first | exact Mine.room1 (by assumption) (by decide) | ktr_room | k_room); (case ku => first | exact Mine.unit1 (by assumption) (by decide) | ktr_units | k_units))
  k_with "my call ref" => (k_here; (with_reducible show wpAny _ _ (call (Value.ref 65) _) _ _ _); k_dflt (refine' is_nan_u ?hm ?k1 ?k2 ?k3 ?k4 ?k5 ?kK ?kd ?ku ?_; (k_extra "tb"); (case hm => k_mem); intros; (try dsimp only); (try k_fold)))
  k_with "my eval Call" => (k_here; k_dflt (refine Call_ ?_))
  unfold Calls
  k_fill
  intros
  rename_i hret
  refine wpAny_call ?_
  k_dflt cell_enter
  k_steps
  all_goals (
    refine' hret _ _ _ _ ⟨rfl, rfl⟩ ?F ?N
    case F => k_asm
    case N => k_asm)
end
end Mine
end
section
open PySem PySem.W PyProof.Rows PySem.Calls
set_option maxRecDepth 100000
set_option maxHeartbeats 8000000
namespace Mine
theorem Pls.low {a b c d x y : Int} (h : Pls a b c d x y) (h0 : 0 ≤ b) (g0 : 0 ≤ d) : 0 ≤ y := by
  rcases h with ⟨_, _, _, _, h⟩ | ⟨_, _, _, _, h⟩ | ⟨_, _, h, _⟩
  · rw [h]; exact h0
  · rw [h]; exact g0
  · exact Int.le_of_lt h
theorem Pls.high {a b c d x y : Int} (h : Pls a b c d x y) (h0 : 0 ≤ b) (h2 : b ≤ 5) (g0 : 0 ≤ d) (g2 : d ≤ 5) : y ≤ 25 := by
  rcases h with ⟨_, _, _, _, h⟩ | ⟨_, _, _, _, h⟩ | ⟨_, _, _, h, _⟩
  · rw [h]; exact Int.le_trans h2 (by decide)
  · rw [h]; exact Int.le_trans g2 (by decide)
  · exact Int.le_trans h (prod_le h2 g2 h0 g0)
theorem rnd_nan {a b : Int} (h : (b = 0 ∧ a = 0) ∨ ((2 : Int) = 0 ∧ (1 : Int) = 0) ∨ (b = 0 ∧ (2 : Int) = 0 ∧ a ≠ 1)) : b = 0 ∧ a = 0 := by
  rcases h with h | h | h
  · exact h
  · exact absurd h.1 (by decide)
  · exact absurd h.2.1 (by decide)
theorem rnd_inf {a b x y : Int} (h : Pls a b 1 2 x y) (hy : y = 0) : Rnd a b x y := by
  rcases h with ⟨h1, h2, _, h3, h4⟩ | ⟨_, h, _⟩ | ⟨_, _, h, _⟩
  · exact .inl ⟨h1, h2, h3, h4⟩
  · exact absurd h (by decide)
  · exact absurd h (by rw [hy]; decide)
theorem rnd_fin {a b x y : Int} (h : Pls a b 1 2 x y) (hy : ¬ y = 0) : Rnd a b (x.fdiv y) 1 := by
  rcases h with ⟨h1, _, _, _, h4⟩ | ⟨_, h, _⟩ | ⟨h1, _, _, _, h5⟩
  · exact absurd (h4.trans h1) hy
  · exact absurd h (by decide)
  · exact .inr ⟨h1, rfl, by rw [h5, round_eq]⟩
section
variable {w : World} {p : Program} {loose : List Str} {mean : ExcName → Option Value} {mg mb : Str → Option Value}
  {dp un : Nat} {gd : Option (List Code)} {cn : Str} {cs : Scope} {a₀ : Addr} {ccd : Value} {cl : List (Str × Addr)} {outer : List Env} {A₀ : Around} {base h₀ : Heap} {L : Addr} {m : Str → Option Value} {s : Shared} {Q E : Value → Shared → Prop} {news : Led}
theorem plus_u {r q : Addr} {a b c d : Int} {ta tb tc td : Tok} {n k : Nat} (hm : (r, tupO a b ta tb n) ∈ news) (hm2 : (q, tupO c d tc td k) ∈ news) (h0 : 0 ≤ b) (h2 : b ≤ 5) (g0 : 0 ≤ d) (g2 : d ≤ 5)
    (B : Below A₀ base outer h₀) (F : Fr h₀ L s.heap m) (X : (hd.heap_39 w.params).In h₀) (N : News h₀ L s.heap news) (T : Top p loose mean mg mb h₀) (hk : cs.kind = .function) (hd : dp + 3 < recursionLimit) (hu : un + 8 * 3 < cLine)
    (nan : ∀ h' tk', (b = 0 ∧ a = 0) ∨ (d = 0 ∧ c = 0) ∨ (b = 0 ∧ d = 0 ∧ a ≠ c) → Fr h₀ L h' m → News h₀ L h' news → Q (.ref 36) { s with heap := h', toks := tk' })
    (num : ∀ r' x y t u n led h' tk', 0 ≤ y → y ≤ 25 → Pls a b c d x y → (r', tupO x y t u n) ∈ led → (∀ q ∈ news, q ∈ led) → Fr h₀ L h' m → News h₀ L h' led → Q (.ref r') { s with heap := h', toks := tk' }) :
    wpAny (model PySem.Challenge.rw_nu0054_01.row.prog w) (ktrTop dp un gd cn cs L a₀ ccd cl outer) (call (.ref 72) [.ref r, .ref q]) Q E s := by
  refine Calls.use (plus_m hm hm2 h0 h2 g0 g2) B F X N T hk hd hu ?_
  intro v news' h' tk' hR F' N'
  rcases hR with ⟨rfl, h1, rfl⟩ | ⟨r', x, y, t, u, n', rfl, h1, h2', h3⟩
  · exact nan h' tk' h1 F' N'
  · exact num _ _ _ _ _ _ _ h' tk' (h1.low h0 g0) (h1.high h0 h2 g0 g2) h1 h2' h3 F' N'
end
section
theorem rounded_m {w : World} {p : Program} {loose : List Str} {mean : ExcName → Option Value} {mg mb : Str → Option Value} {r : Addr} {a b : Int} {ta tb : Tok} {n : Nat} {news : Led}
   (hm : (r, tupO a b ta tb n) ∈ news) (h0 : 0 ≤ b) (h2 : b ≤ 5) :
   Calls w p loose mean mg mb 86 5 [.ref r] news
     (fun v news' => (v = .ref 36 ∧ (b = 0 ∧ a = 0) ∧ news' = news) ∨ (∃ r' x y t u n', v = .ref r' ∧ Rnd a b x y ∧ (r', tupO x y t u n') ∈ news' ∧ (∀ q ∈ news, q ∈ news'))) := by
  w_top off
  k_with_none
  k_with "room" => ktr_room
  k_with "mem" => first | assumption | exact List.Mem.head _ | (refine List.Mem.tail _ ?_; k_mem)
  k_with "tb" => ((case k1 => k_asm); (case k2 => k_asm); (case k3 => k_asm); (case k4 => k_asm); (case k5 => k_asm); (case kK => first | exact rfl | assumption); (case kd => first | exact Mine.room1 (by assumption) (by decide) | ktr_room | k_room); (case ku => first | exact Mine.unit1 (by assumption) (by decide) | ktr_units | k_units))
  k_with "my eval Call" => (k_here; k_dflt (refine Call_ ?_))
  k_with "my call ref" => (k_here; (with_reducible show wpAny _ _ (call (Value.ref 72) _) _ _ _); k_dflt (refine' plus_u ?hm ?hm2 ?h0 ?h2 ?g0 ?g2 ?k1 ?k2 ?k3 ?k4 ?k5 ?kK ?kd ?ku ?_ ?_; (k_extra "tb"); (case hm => k_mem); (case hm2 => k_mem); (case h0 => assumption); (case h2 => assumption); (case g0 => decide); (case g2 => decide); all_goals intros; (try dsimp only); (try k_fold)))
  unfold Calls
  k_fill
  intros
  rename_i hret
  refine wpAny_call ?_
  k_dflt cell_enter
  k_steps
  all_goals first
    | (refine' hret _ _ _ _ (.inl ⟨rfl, rnd_nan (by assumption), rfl⟩) ?F (cb_drop ?N ?S)
       (case F => k_asm)
       (case N => k_asm)
       (case S => exact fun p hp => .tail _ hp))
    | ((rename Pls _ _ _ _ _ _ => hP)
       (rename (∀ q ∈ (_ :: news), q ∈ _) => hS)
       (refine' hret _ _ _ _ (.inr ⟨_, _, _, _, _, _, rfl, rnd_inf hP (by assumption), ?M, fun q hq => hS q (.tail _ hq)⟩) ?F ?N)
       (case M => assumption)
       (case F => k_asm)
       (case N => k_asm))
    | ((rename Pls _ _ _ _ _ _ => hP)
       (rename (∀ q ∈ (_ :: news), q ∈ _) => hS)
       (refine' hret _ _ _ _ (.inr ⟨_, _, _, _, _, _, rfl, rnd_fin hP (by assumption), .head _, fun q hq => .tail _ (hS q (.tail _ hq))⟩) ?F ?N)
       (case F => k_asm)
       (case N => k_asm))
end
end Mine
end
section
open PySem PySem.W PyProof.Rows PySem.Calls
set_option maxRecDepth 100000
set_option maxHeartbeats 8000000
namespace Mine
section
variable {w : World} {p : Program} {loose : List Str} {mean : ExcName → Option Value} {mg mb : Str → Option Value}
  {dp un : Nat} {gd : Option (List Code)} {cn : Str} {cs : Scope} {a₀ : Addr} {ccd : Value} {cl : List (Str × Addr)} {outer : List Env} {A₀ : Around} {base h₀ : Heap} {L : Addr} {m : Str → Option Value} {s : Shared} {Q E : Value → Shared → Prop} {news : Led}
theorem rounded_u {r : Addr} {a b : Int} {ta tb : Tok} {n : Nat} (hm : (r, tupO a b ta tb n) ∈ news) (h0 : 0 ≤ b) (h2 : b ≤ 5)
    (B : Below A₀ base outer h₀) (F : Fr h₀ L s.heap m) (X : (hd.heap_39 w.params).In h₀) (N : News h₀ L s.heap news) (T : Top p loose mean mg mb h₀) (hk : cs.kind = .function) (hd : dp + 5 < recursionLimit) (hu : un + 8 * 5 < cLine)
    (nan : ∀ h' tk', b = 0 ∧ a = 0 → Fr h₀ L h' m → News h₀ L h' news → Q (.ref 36) { s with heap := h', toks := tk' })
    (num : ∀ r' x y t u n led h' tk', Rnd a b x y → (r', tupO x y t u n) ∈ led → (∀ q ∈ news, q ∈ led) → Fr h₀ L h' m → News h₀ L h' led → Q (.ref r') { s with heap := h', toks := tk' }) :
    wpAny (model PySem.Challenge.rw_nu0054_01.row.prog w) (ktrTop dp un gd cn cs L a₀ ccd cl outer) (call (.ref 86) [.ref r]) Q E s := by
  refine Calls.use (rounded_m hm h0 h2) B F X N T hk hd hu ?_
  intro v news' h' tk' hR F' N'
  rcases hR with ⟨rfl, h1, rfl⟩ | ⟨r', x, y, t, u, n', rfl, h1, h2, h3⟩
  · exact nan h' tk' h1 F' N'
  · exact num _ _ _ _ _ _ _ h' tk' h1 h2 h3 F' N'
theorem plus_nan_u {r : Addr} {a b : Int} {ta tb : Tok} {n : Nat} (hm : (r, tupO a b ta tb n) ∈ news)
    (B : Below A₀ base outer h₀) (F : Fr h₀ L s.heap m) (X : (hd.heap_39 w.params).In h₀) (N : News h₀ L s.heap news) (T : Top p loose mean mg mb h₀) (hk : cs.kind = .function) (hd : dp + 3 < recursionLimit) (hu : un + 8 * 3 < cLine)
    (ret : ∀ h' tk', Fr h₀ L h' m → News h₀ L h' news → Q (.ref 36) { s with heap := h', toks := tk' }) :
    wpAny (model PySem.Challenge.rw_nu0054_01.row.prog w) (ktrTop dp un gd cn cs L a₀ ccd cl outer) (call (.ref 72) [.ref r, .ref 36]) Q E s := by
  refine Calls.use (plus_nan_at hm) B F X N T hk hd hu ?_
  rintro v news' h' tk' ⟨rfl, rfl⟩ F' N'
  exact ret h' tk' F' N'
theorem is_num_u {r : Addr} {a b : Int} {ta tb : Tok} {n : Nat} (hm : (r, tupO a b ta tb n) ∈ news) (hn : ¬ (b = 0 ∧ a = 0))
    (B : Below A₀ base outer h₀) (F : Fr h₀ L s.heap m) (X : (hd.heap_39 w.params).In h₀) (N : News h₀ L s.heap news) (T : Top p loose mean mg mb h₀) (hk : cs.kind = .function) (hd : dp + 1 < recursionLimit) (hu : un + 8 * 1 < cLine)
    (ret : ∀ h' tk', Fr h₀ L h' m → News h₀ L h' news → Q (.bool false) { s with heap := h', toks := tk' }) :
    wpAny (model PySem.Challenge.rw_nu0054_01.row.prog w) (ktrTop dp un gd cn cs L a₀ ccd cl outer) (call (.ref 65) [.ref r]) Q E s := by
  refine Calls.use (is_nan_c hm) B F X N T hk hd hu ?_
  rintro v news' h' tk' ⟨rfl, rfl⟩ F' N'
  rw [decide_eq_false hn]
  exact ret h' tk' F' N'
theorem is_nan36_u (B : Below A₀ base outer h₀) (F : Fr h₀ L s.heap m) (X : (hd.heap_39 w.params).In h₀) (N : News h₀ L s.heap news) (T : Top p loose mean mg mb h₀) (hk : cs.kind = .function) (hd : dp + 1 < recursionLimit) (hu : un + 8 * 1 < cLine)
    (ret : ∀ h' tk', Fr h₀ L h' m → News h₀ L h' news → Q (.bool true) { s with heap := h', toks := tk' }) :
    wpAny (model PySem.Challenge.rw_nu0054_01.row.prog w) (ktrTop dp un gd cn cs L a₀ ccd cl outer) (call (.ref 65) [.ref 36]) Q E s := by
  refine Calls.use is_nan36_c B F X N T hk hd hu ?_
  rintro v news' h' tk' ⟨rfl, rfl⟩ F' N'
  exact ret h' tk' F' N'
theorem within_u {r : Addr} {a b lo hi : Int} {ta tb tl th : Tok} {n : Nat} (hm : (r, tupO a b ta tb n) ∈ news)
    (B : Below A₀ base outer h₀) (F : Fr h₀ L s.heap m) (X : (hd.heap_39 w.params).In h₀) (N : News h₀ L s.heap news) (T : Top p loose mean mg mb h₀) (hk : cs.kind = .function) (hd : dp + 1 < recursionLimit) (hu : un + 8 * 1 < cLine)
    (ret : ∀ z t h' tk', z = (if b = 0 then (if a < 0 then lo else hi) else max lo (min hi a)) → Fr h₀ L h' m → News h₀ L h' news → Q (.int z t) { s with heap := h', toks := tk' }) :
    wpAny (model PySem.Challenge.rw_nu0054_01.row.prog w) (ktrTop dp un gd cn cs L a₀ ccd cl outer) (call (.ref 121) [.ref r, .int lo tl, .int hi th]) Q E s := by
  refine Calls.use (within_c hm) B F X N T hk hd hu ?_
  rintro v news' h' tk' ⟨z, t, rfl, hz, rfl⟩ F' N'
  exact ret z t h' tk' hz F' N'
end
theorem str_end {h₀ : Heap} {L : Addr} {m : Str → Option Value} {led all : Led} {y X : Str} {t : Tok} {s : Shared} {Q : Value → Shared → Prop} {h' : Heap} {tk' : Nat}
    (hret : ∀ (v : Value) (news' : Led) (h' : Heap) (tk' : Nat), (fun v news' => ∃ t, v = .str X t ∧ news' = led) v news' → Fr h₀ L h' m → News h₀ L h' news' → Q v { s with heap := h', toks := tk' })
    (e : y = X) (F : Fr h₀ L h' m) (N : News h₀ L h' all) (hs : ∀ p ∈ led, p ∈ all) : Q (.str y t) { s with heap := h', toks := tk' } :=
  hret _ _ h' tk' ⟨t, by rw [e], rfl⟩ F (cb_drop N hs)
end Mine
end
section
open PySem PySem.W PyProof.Rows PySem.Calls
set_option maxRecDepth 100000
set_option maxHeartbeats 8000000
namespace Mine
section
theorem NumOk.low {a b : Int} (h : NumOk a b) : 0 ≤ b := by rcases h with ⟨h, _⟩ | ⟨h, _⟩ | ⟨h, _⟩ <;> rw [h] <;> decide
theorem NumOk.high {a b : Int} (h : NumOk a b) : b ≤ 5 := by rcases h with ⟨h, _⟩ | ⟨h, _⟩ | ⟨h, _⟩ <;> rw [h] <;> decide
theorem sub2_m {w : World} {p : Program} {loose : List Str} {mean : ExcName → Option Value} {mg mb : Str → Option Value} {r : Addr} {a b : Int} {ta tb : Tok} {n : Nat} {x : Str} {tx : Tok} {news : Led}
   (hab : NumOk a b) (hx : x.length ≤ 9) (hm : (r, tupO a b ta tb n) ∈ news) :
   Calls w p loose mean mg mb 129 7 [.str x tx, .ref r] news (fun v news' => ∃ t, v = .str (partF x a b none) t ∧ news' = news) := by
  w_top off
  k_with_none
  k_with "room" => ktr_room
  k_with "mem" => first | assumption | (refine (by assumption : ∀ q ∈ _, q ∈ _) _ ?_; k_mem)
  k_with "tb" => ((case k1 => k_asm); (case k2 => k_asm); (case k3 => k_asm); (case k4 => k_asm); (case k5 => k_asm); (case kK => first | exact rfl | assumption); (case kd => first | exact Mine.room1 (by assumption) (by decide) | ktr_room | k_room); (case ku => first | exact Mine.unit1 (by assumption) (by decide) | ktr_units | k_units))
  k_with "my eval Call" => (k_here; k_dflt (refine Call_ ?_))
  k_with "my call ref" => (k_here; (with_reducible show wpAny _ _ (call (Value.ref 72) _) _ _ _); k_dflt (refine' plus_u ?hm ?hm2 ?h0 ?h2 ?g0 ?g2 ?k1 ?k2 ?k3 ?k4 ?k5 ?kK ?kd ?ku ?_ ?_; (k_extra "tb"); (case hm => k_mem); (case hm2 => k_mem); (case h0 => exact Rnd.low (by assumption)); (case h2 => exact Rnd.high (by assumption)); (case g0 => exact Rnd.low (by assumption)); (case g2 => exact Rnd.high (by assumption)); all_goals intros; (try dsimp only); (try k_fold)))
  k_with "my call ref" => (k_here; (with_reducible show wpAny _ _ (call (Value.ref 72) [_, Value.ref 36]) _ _ _); k_dflt (refine' plus_nan_u ?hm ?k1 ?k2 ?k3 ?k4 ?k5 ?kK ?kd ?ku ?_; (k_extra "tb"); (case hm => k_mem); intros; (try dsimp only); (try k_fold)))
  k_with "my call ref" => (k_here; (with_reducible show wpAny _ _ (call (Value.ref 65) _) _ _ _); k_dflt (refine' is_num_u ?hm ?hn ?k1 ?k2 ?k3 ?k4 ?k5 ?kK ?kd ?ku ?_; (k_extra "tb"); (case hm => k_mem); (case hn => first | exact Pls.num (by assumption) | exact Rnd.num (by assumption)); intros; (try dsimp only); (try k_fold)))
  k_with "my call ref" => (k_here; (with_reducible show wpAny _ _ (call (Value.ref 65) [Value.ref 36]) _ _ _); k_dflt (refine' is_nan36_u ?k1 ?k2 ?k3 ?k4 ?k5 ?kK ?kd ?ku ?_; (k_extra "tb"); intros; (try dsimp only); (try k_fold)))
  k_with "my call ref" => (k_here; (with_reducible show wpAny _ _ (call (Value.ref 121) _) _ _ _); k_dflt (refine' within_u ?hm ?k1 ?k2 ?k3 ?k4 ?k5 ?kK ?kd ?ku ?_; (k_extra "tb"); (case hm => k_mem); intros; (try dsimp only); (try k_fold)))
  k_with "my call ref" => (k_here; (with_reducible show wpAny _ _ (call (Value.ref 86) _) _ _ _); k_dflt (refine' rounded_u ?hm ?h0 ?h2 ?k1 ?k2 ?k3 ?k4 ?k5 ?kK ?kd ?ku ?_ ?_; (k_extra "tb"); (case hm => k_mem); (case h0 => assumption); (case h2 => assumption); all_goals intros; (try dsimp only); (try k_fold)))
  have h0 := hab.low
  have h2 := hab.high
  unfold Calls
  k_fill
  intros
  rename_i hret
  refine wpAny_call ?_
  k_dflt (refine' code_def ?k1 ?k2 ?k3 ?k4 ?k5 ?kA ?kF ?kK ?k6 ?k7 ?k8 ?k9 ?kB ?_ ?c2 ?c3 ?c4 ?c5; (case kA => exact rfl); (case kF => exact rfl); (case kK => assumption); (case k1 => k_asm); (case k2 => k_asm); (case k3 => k_asm); (case k4 => k_asm); (case k5 => k_asm); (case k6 => k_is); (case k7 => k_is); (case k8 => ktr_room); (case k9 => first | exact BindsTo.of_eq rfl | exact binds_K (by k_in) rfl (by k_is) rfl rfl rfl); (case c5 => decide); (case kB => exact locs rfl); (case c2 => exact rfl); (case c3 => exact rfl); (case c4 => exact rfl); k_whole; intro g' L' h' FG' F' N' B' X' T'; (try dsimp only); (try k_lift B'); (try k_fold))
  k_steps
  all_goals (
    refine' str_end hret ?e ?F ?N ?S
    case F => k_asm
    case N => k_asm
    case S => (intro p hp; first | exact hp | k_mem)
    case e => first
      | exact part_nan (by assumption : _ ∧ _).1 (by assumption : _ ∧ _).2
      | exact sub2_val hx hab (by assumption) (by assumption) (by assumption))
/-- what «substring» with a length gives -/
def SubRel (x : Str) (a b c d : Int) (X : Str) : Prop :=
  ((b = 0 ∧ a = 0) ∧ X = Str.ofString "") ∨ ((d = 0 ∧ c = 0) ∧ X = Str.ofString "") ∨
  (∃ x1 y1 x2 y2, Rnd a b x1 y1 ∧ Rnd c d x2 y2 ∧ ((y1 = 0 ∧ x1 = 0) ∨ (y2 = 0 ∧ x2 = 0) ∨ (y1 = 0 ∧ y2 = 0 ∧ x1 ≠ x2)) ∧ X = Str.ofString "") ∨
  (∃ x1 y1 x2 y2 x3 y3 z1 z2, Rnd a b x1 y1 ∧ Rnd c d x2 y2 ∧ Pls x1 y1 x2 y2 x3 y3 ∧
    (z1 = if y1 = 0 then (if x1 < 0 then 1 else (x.length : Int) + 1) else max 1 (min ((x.length : Int) + 1) x1)) ∧
    (z2 = if y3 = 0 then (if x3 < 0 then 1 else (x.length : Int) + 1) else max 1 (min ((x.length : Int) + 1) x3)) ∧ X = Txt.slice x (some (z1 - 1)) (some (z2 - 1)))
theorem sub_law {x X : Str} {a b c d : Int} (h : SubRel x a b c d X) (hab : NumOk a b) (hcd : NumOk c d) (hx : x.length ≤ 9) : X = partF x a b (some (c, d)) := by
  rcases h with ⟨h, rfl⟩ | ⟨h, rfl⟩ | ⟨_, _, _, _, h1, h2, h3, rfl⟩ | ⟨_, _, _, _, _, _, _, _, h1, h2, h3, h4, h5, rfl⟩
  · exact part_nan h.1 h.2
  · exact part_nan2 h.1 h.2
  · exact part_inf hab hcd h1 h2 h3
  · exact sub3_val hx hab hcd h1 h2 h3 h4 h5
theorem sub3_g {w : World} {p : Program} {loose : List Str} {mean : ExcName → Option Value} {mg mb : Str → Option Value} {r q : Addr} {a b c d : Int} {ta tb tc td : Tok} {n k : Nat} {x : Str} {tx : Tok} {news : Led}
   (h0 : 0 ≤ b) (h2 : b ≤ 5) (g0 : 0 ≤ d) (g2 : d ≤ 5) (hx : x.length ≤ 9) (hm : (r, tupO a b ta tb n) ∈ news) (hm2 : (q, tupO c d tc td k) ∈ news) :
   Calls w p loose mean mg mb 129 7 [.str x tx, .ref r, .ref q] news (fun v news' => ∃ X t, SubRel x a b c d X ∧ v = .str X t ∧ news' = news) := by
  w_top off
  k_with_none
  k_with "room" => ktr_room
  k_with "mem" => first | assumption | (refine (by assumption : ∀ q ∈ _, q ∈ _) _ ?_; k_mem)
  k_with "tb" => ((case k1 => k_asm); (case k2 => k_asm); (case k3 => k_asm); (case k4 => k_asm); (case k5 => k_asm); (case kK => first | exact rfl | assumption); (case kd => first | exact Mine.room1 (by assumption) (by decide) | ktr_room | k_room); (case ku => first | exact Mine.unit1 (by assumption) (by decide) | ktr_units | k_units))
  k_with "my eval Call" => (k_here; k_dflt (refine Call_ ?_))
  k_with "my call ref" => (k_here; (with_reducible show wpAny _ _ (call (Value.ref 72) _) _ _ _); k_dflt (refine' plus_u ?hm ?hm2 ?h0 ?h2 ?g0 ?g2 ?k1 ?k2 ?k3 ?k4 ?k5 ?kK ?kd ?ku ?_ ?_; (k_extra "tb"); (case hm => k_mem); (case hm2 => k_mem); (case h0 => exact Rnd.low (by assumption)); (case h2 => exact Rnd.high (by assumption)); (case g0 => exact Rnd.low (by assumption)); (case g2 => exact Rnd.high (by assumption)); all_goals intros; (try dsimp only); (try k_fold)))
  k_with "my call ref" => (k_here; (with_reducible show wpAny _ _ (call (Value.ref 72) [_, Value.ref 36]) _ _ _); k_dflt (refine' plus_nan_u ?hm ?k1 ?k2 ?k3 ?k4 ?k5 ?kK ?kd ?ku ?_; (k_extra "tb"); (case hm => k_mem); intros; (try dsimp only); (try k_fold)))
  k_with "my call ref" => (k_here; (with_reducible show wpAny _ _ (call (Value.ref 65) _) _ _ _); k_dflt (refine' is_num_u ?hm ?hn ?k1 ?k2 ?k3 ?k4 ?k5 ?kK ?kd ?ku ?_; (k_extra "tb"); (case hm => k_mem); (case hn => first | exact Pls.num (by assumption) | exact Rnd.num (by assumption)); intros; (try dsimp only); (try k_fold)))
  k_with "my call ref" => (k_here; (with_reducible show wpAny _ _ (call (Value.ref 65) [Value.ref 36]) _ _ _); k_dflt (refine' is_nan36_u ?k1 ?k2 ?k3 ?k4 ?k5 ?kK ?kd ?ku ?_; (k_extra "tb"); intros; (try dsimp only); (try k_fold)))
  k_with "my call ref" => (k_here; (with_reducible show wpAny _ _ (call (Value.ref 121) _) _ _ _); k_dflt (refine' within_u ?hm ?k1 ?k2 ?k3 ?k4 ?k5 ?kK ?kd ?ku ?_; (k_extra "tb"); (case hm => k_mem); intros; (try dsimp only); (try k_fold)))
  k_with "my call ref" => (k_here; (with_reducible show wpAny _ _ (call (Value.ref 86) _) _ _ _); k_dflt (refine' rounded_u ?hm ?h0 ?h2 ?k1 ?k2 ?k3 ?k4 ?k5 ?kK ?kd ?ku ?_ ?_; (k_extra "tb"); (case hm => k_mem); (case h0 => assumption); (case h2 => assumption); all_goals intros; (try dsimp only); (try k_fold)))
  unfold Calls
  k_fill
  intros
  rename_i hret
  refine wpAny_call ?_
  k_dflt (refine' code_def ?k1 ?k2 ?k3 ?k4 ?k5 ?kA ?kF ?kK ?k6 ?k7 ?k8 ?k9 ?kB ?_ ?c2 ?c3 ?c4 ?c5; (case kA => exact rfl); (case kF => exact rfl); (case kK => assumption); (case k1 => k_asm); (case k2 => k_asm); (case k3 => k_asm); (case k4 => k_asm); (case k5 => k_asm); (case k6 => k_is); (case k7 => k_is); (case k8 => ktr_room); (case k9 => first | exact BindsTo.of_eq rfl | exact binds_K (by k_in) rfl (by k_is) rfl rfl rfl); (case c5 => decide); (case kB => exact locs rfl); (case c2 => exact rfl); (case c3 => exact rfl); (case c4 => exact rfl); k_whole; intro g' L' h' FG' F' N' B' X' T'; (try dsimp only); (try k_lift B'); (try k_fold))
  k_steps
  all_goals first
    | (refine' hret _ news _ _ ⟨_, _, .inl ⟨?e, rfl⟩, rfl, rfl⟩ ?F (cb_drop ?N ?S)
       (case e => assumption)
       (case F => k_asm)
       (case N => k_asm)
       (case S => (intro p hp; first | exact hp | k_mem)))
    | (refine' hret _ news _ _ ⟨_, _, .inr (.inl ⟨?e, rfl⟩), rfl, rfl⟩ ?F (cb_drop ?N ?S)
       (case e => assumption)
       (case F => k_asm)
       (case N => k_asm)
       (case S => (intro p hp; first | exact hp | k_mem)))
    | (refine' hret _ news _ _ ⟨_, _, .inr (.inr (.inl ⟨_, _, _, _, ?e1, ?e2, ?e3, rfl⟩)), rfl, rfl⟩ ?F (cb_drop ?N ?S)
       (case e3 => assumption)
       (case e1 => assumption)
       (case e2 => assumption)
       (case F => k_asm)
       (case N => k_asm)
       (case S => (intro p hp; first | exact hp | k_mem)))
    | (refine' hret _ news _ _ ⟨_, _, .inr (.inr (.inr ⟨_, _, _, _, _, _, _, _, ?e1, ?e2, ?e3, ?e4, ?e5, rfl⟩)), rfl, rfl⟩ ?F (cb_drop ?N ?S)
       (case e4 => assumption)
       (case e5 => assumption)
       (case e3 => assumption)
       (case e1 => assumption)
       (case e2 => assumption)
       (case F => k_asm)
       (case N => k_asm)
       (case S => (intro p hp; first | exact hp | k_mem)))
theorem first_nums {x1 y1 x2 y2 : Int} (h1 : Rnd 3 2 x1 y1) (h2 : Rnd 13 5 x2 y2) : x1 = 2 ∧ y1 = 1 ∧ x2 = 3 ∧ y2 = 1 := by
  rcases h1 with ⟨h, _⟩ | ⟨_, hy, hx⟩
  · exact absurd h (by decide)
  rcases h2 with ⟨h, _⟩ | ⟨_, hy', hx'⟩
  · exact absurd h (by decide)
  exact ⟨by rw [hx]; decide, hy, by rw [hx']; decide, hy'⟩
theorem first_nan {x1 y1 x2 y2 : Int} (h1 : Rnd 3 2 x1 y1) (h2 : Rnd 13 5 x2 y2) (h : (y1 = 0 ∧ x1 = 0) ∨ (y2 = 0 ∧ x2 = 0) ∨ (y1 = 0 ∧ y2 = 0 ∧ x1 ≠ x2)) : False := by
  rcases h with h | h | ⟨h, h', _⟩
  · exact h1.num h
  · exact h2.num h
  · obtain ⟨_, e, _⟩ := first_nums h1 h2
    exact absurd (e ▸ h) (by decide)
theorem first_val {x1 y1 x2 y2 x3 y3 z1 z2 : Int} (h1 : Rnd 3 2 x1 y1) (h2 : Rnd 13 5 x2 y2) (h3 : Pls x1 y1 x2 y2 x3 y3)
    (hz1 : z1 = if y1 = 0 then if x1 < 0 then 1 else ((5 : Nat) : Int) + 1 else max 1 (min (((5 : Nat) : Int) + 1) x1))
    (hz2 : z2 = if y3 = 0 then if x3 < 0 then 1 else ((5 : Nat) : Int) + 1 else max 1 (min (((5 : Nat) : Int) + 1) x3)) :
    Txt.slice (Str.ofString "12345") (some (z1 - 1)) (some (z2 - 1)) = Str.ofString "234" := by
  obtain ⟨rfl, rfl, rfl, rfl⟩ := first_nums h1 h2
  rcases h3 with ⟨h, _⟩ | ⟨_, h, _⟩ | ⟨_, _, h4, h5, h6⟩
  · exact absurd h (by decide)
  · exact absurd h (by decide)
  have e : y3 = 1 := by omega
  subst e
  rw [Int.fdiv_one] at h6
  have e4 : x3 = 5 := by rw [h6]; decide
  subst e4
  have e5 : z1 = 2 := by rw [hz1]; decide
  have e6 : z2 = 5 := by rw [hz2]; decide
  subst e5 e6
  decide
theorem first_law {X : Str} (h : SubRel (Str.ofString "12345") 3 2 13 5 X) : X = Str.ofString "234" := by
  rcases h with ⟨h, _⟩ | ⟨h, _⟩ | ⟨_, _, _, _, h1, h2, h3, _⟩ | ⟨_, _, _, _, _, _, _, _, h1, h2, h3, h4, h5, rfl⟩
  · exact absurd h.1 (by decide)
  · exact absurd h.1 (by decide)
  · exact (first_nan h1 h2 h3).elim
  · exact first_val h1 h2 h3 h4 h5
theorem sub3_m {w : World} {p : Program} {loose : List Str} {mean : ExcName → Option Value} {mg mb : Str → Option Value} {r q : Addr} {a b c d : Int} {ta tb tc td : Tok} {n k : Nat} {x : Str} {tx : Tok} {news : Led}
   (hab : NumOk a b) (hcd : NumOk c d) (hx : x.length ≤ 9) (hm : (r, tupO a b ta tb n) ∈ news) (hm2 : (q, tupO c d tc td k) ∈ news) :
   Calls w p loose mean mg mb 129 7 [.str x tx, .ref r, .ref q] news (fun v news' => ∃ t, v = .str (partF x a b (some (c, d))) t ∧ news' = news) :=
  Calls.weak (sub3_g hab.low hab.high hcd.low hcd.high hx hm hm2) (fun _ h => h) fun _ news' ⟨_, t, hX, hv, hn⟩ => ⟨news', ⟨t, sub_law hX hab hcd hx ▸ hv, hn⟩, fun _ _ h => h⟩
theorem first_m {w : World} {p : Program} {loose : List Str} {mean : ExcName → Option Value} {mg mb : Str → Option Value} {r q : Addr} {ta tb tc td : Tok} {n k : Nat} {tx : Tok} {news : Led}
   (hm : (r, tupO 3 2 ta tb n) ∈ news) (hm2 : (q, tupO 13 5 tc td k) ∈ news) :
   Calls w p loose mean mg mb 129 7 [.str (Str.ofString "12345") tx, .ref r, .ref q] news (fun v news' => ∃ t, v = .str (Str.ofString "234") t ∧ news' = news) :=
  Calls.weak (sub3_g (by decide) (by decide) (by decide) (by decide) (by decide) hm hm2) (fun _ h => h) fun _ news' ⟨_, t, hX, hv, hn⟩ => ⟨news', ⟨t, first_law hX ▸ hv, hn⟩, fun _ _ h => h⟩
end
end Mine
end
section
open PySem PySem.W PyProof.Rows PySem.Calls
namespace Mine
end Mine
end
section
open PySem PySem.W PyProof.Rows PySem.Calls
set_option maxRecDepth 100000
set_option maxHeartbeats 8000000
namespace Mine
section
theorem near_c {w : World} {p : Program} {loose : List Str} {mean : ExcName → Option Value} {mg mb : Str → Option Value} {r : Addr} {a b : Int} {ta tb : Tok} {n : Nat} {news : Led}
   (hab : NumOk a b) :
   Calls w p loose mean mg mb 190 1 [.ref r] ((r, tupO a b ta tb n) :: news)
     (fun v news' => ((b = 0 ∧ a = 0 ∧ v = .none) ∨ (∃ m t, nearF a b = some m ∧ v = .int m t)) ∧ news' = (r, tupO a b ta tb n) :: news) := by
  w_top off
  k_with_none
  have h4 : (b = 0 ∧ (a = 0 ∨ a = 1 ∨ a = -1)) ∨ (b ≠ 0 ∧ 0 < b ∧ b ≤ 2) := by
    rcases hab with h | ⟨h, _⟩ | ⟨h, _⟩
    · exact .inl h
    · exact .inr (by rw [h]; decide)
    · exact .inr (by rw [h]; decide)
  unfold Calls
  k_fill
  intros
  rename_i hret
  refine wpAny_call ?_
  k_dflt cell_enter
  rcases h4 with ⟨rfl, h4⟩ | ⟨hb, hb0, hb2⟩
  · k_with "my subscriptTail" => (k_here; (with_reducible show wpAny _ _ (subscriptTail _ _ (Value.ref _) (Value.int a _)) _ _ _); refine stopI ?_)
    k_steps
    all_goals unfold Stop
    all_goals (rcases h4 with rfl | rfl | rfl)
    all_goals k_with_none
    all_goals k_steps
    all_goals first
      | (refine' hret _ _ _ _ ⟨.inl ⟨rfl, rfl, rfl⟩, rfl⟩ ?F (cb_drop ?N ?S)
         (case F => k_asm)
         (case N => k_asm)
         (case S => exact fun p hp => .tail _ hp))
      | (refine' hret _ _ _ _ ⟨.inr ⟨_, _, ?e, rfl⟩, rfl⟩ ?F (cb_drop ?N ?S)
         (case F => k_asm)
         (case N => k_asm)
         (case S => exact fun p hp => .tail _ hp)
         (case e => decide))
  · k_steps
    all_goals first
      | (exfalso; omega)
      | (refine' hret _ _ _ _ ⟨.inr ⟨_, _, ?e, rfl⟩, rfl⟩ ?F ?N
         (case F => k_asm)
         (case N => k_asm)
         (case e => (rw [near_fin hb, Int.fdiv_eq_ediv_of_nonneg _ (by omega)])))
end
end Mine
end
section
open PySem PySem.W PyProof.Rows
namespace Mine
theorem beq_iff {x y : Str} : (x == y) = true ↔ x = y := by
  constructor
  · intro h; exact eq_of_beq h
  · intro h; subst h; exact beq_self_eq_true _
theorem strOf_eq {l : List Nat} {y : Str} : strOf l = y ↔ l = y.cps.toList := by
  constructor
  · intro h; subst h; simp
  · intro h; subst h; exact strOf_self y
theorem at_slice {x y : Str} {k : Nat} (h : k + y.length ≤ x.length) : (Txt.slice x (some (k : Int)) (some ((k : Int) + (y.length : Int))) == y) = true ↔ StrLaws.At x y x.length k := by
  rw [beq_iff, slice_nn x (by omega) (by omega), strOf_eq]
  have e1 : ((k : Int)).toNat = k := by omega
  have e2 : ((k : Int) + (y.length : Int)).toNat - k = y.length := by clear h e1; omega
  unfold StrLaws.At
  rw [StrLaws.subAt_eq, e1, e2]
  constructor
  · intro e; exact ⟨h, beq_iff_eq.mpr e⟩
  · intro e; exact beq_iff_eq.mp e.2
theorem find_at {x y : Str} {k : Nat} (hP : ∀ j, j < k → ¬ StrLaws.At x y x.length j) (h : StrLaws.At x y x.length k) : Txt.find x y = (k : Int) := by
  rcases find_whole x y with ⟨_, h2⟩ | ⟨i, h1, h2, h3⟩
  · exact absurd h (h2 k)
  · have : i = k := by
      rcases Nat.lt_trichotomy i k with q | q | q
      · exact absurd h2 (hP i q)
      · exact q
      · exact absurd h (h3 k q)
    rw [h1, this]
theorem find_no {x y : Str} {n : Nat} (hn : ∀ i, i + y.length ≤ x.length → i < n) (hP : ∀ j, j < n → ¬ StrLaws.At x y x.length j) : Txt.find x y = -1 := by
  rcases find_whole x y with ⟨h1, _⟩ | ⟨i, h1, h2, h3⟩
  · exact h1
  · exact absurd h2 (hP i (hn i h2.1))
end Mine
end
section
open PySem PySem.W PyProof.Rows PySem.Calls
set_option maxRecDepth 100000
set_option maxHeartbeats 8000000
namespace Mine
section
theorem place_c {w : World} {p : Program} {loose : List Str} {mean : ExcName → Option Value} {mg mb : Str → Option Value} {x y : Str} {tx ty : Tok} {news : Led}
   (hx : x.length ≤ 9) (hy : y.length ≤ 9) :
   Calls w p loose mean mg mb 202 1 [.str x tx, .str y ty] news
     (fun v news' => ((Txt.find x y < 0 ∧ v = .none) ∨ ∃ t, 0 ≤ Txt.find x y ∧ v = .int (Txt.find x y) t) ∧ news' = news) := by
  w_top off
  k_with_none
  k_with "my exec For Name Call cons nil" => (k_here; k_dflt ((rename Fr _ _ _ _ => lF'); (with_unfolding_all refine' For_invVF lF' ?k1 ?k2 ?_; (case k1 => exact rfl); (case k2 => exact rfl)); k_whole))
  k_with "my pyIter ref" => (k_here; refine stopI ?_)
  unfold Calls
  k_fill
  intros
  rename_i hret
  refine wpAny_call ?_
  k_dflt cell_enter
  k_steps
  unfold Stop
  rename IsRange _ _ _ _ _ _ _ _ => hR
  rename Fr _ _ _ _ => F0
  rename News _ _ _ _ => N0
  refine' kst_range (σ := Unit) (fun _ => news) (fun _ => []) (fun _ => True) [] (fun pre _ => ∀ j : Nat, j < pre.length → ¬ StrLaws.At x y x.length j) () (by rfl) hR (small0 (by omega) (by omega)) (rangeSize_nat _ _) F0 N0 trivial (fun p hp => nomatch hp) (fun j hj => absurd hj (Nat.not_lt_zero _)) ?_ ?_
  · intro c pre k t u h tk own hk hlt hoff _ hP F1 N1
    clear F0 N0 hR
    try k_fold
    k_steps
    · have hle : pre.length + y.length ≤ x.length := by omega
      have hk' : k = (pre.length : Int) := by omega
      subst hk'
      have hat := (at_slice hle).mp (by assumption)
      have hf := find_at hP hat
      refine' hret _ _ _ _ ⟨.inr ⟨_, ?h0, ?h1⟩, rfl⟩ ?F (cb_drop ?N ?S)
      case h0 => omega
      case h1 => rw [hf]
      case F => k_asm
      case N => k_asm
      case S => exact fun p hp => List.mem_append.mpr (.inl hp)
    · refine kst_end () (by k_asm) (by k_asm) (fun p hp => List.mem_append.mpr (.inl hp)) (fun p hp => List.mem_append.mpr (.inr hp)) rfl trivial (fun p hp => nomatch hp) (by intro z h1 h2 h3; exact (if_neg h1).trans rfl) ?_
      intro j hj
      rw [List.length_append, List.length_singleton] at hj
      by_cases hj' : j < pre.length
      · exact hP j hj'
      · have e : j = pre.length := by omega
        subst e
        intro hat
        have hk' : k = (pre.length : Int) := by omega
        subst hk'
        have hb := (at_slice hat.1).mpr hat
        (rename (_ == _) = false => hfl)
        rw [hb] at hfl
        cases hfl
  · intro c u h tk _ hP F1 N1
    clear F0 N0 hR
    try k_fold
    k_steps
    have hf : Txt.find x y = -1 := find_no (n := (rangeKs 0 ((x.length : Int) - y.length + 1 - 0).toNat).length) (fun i hi => by rw [rangeKs_length]; omega) hP
    refine' hret _ _ _ _ ⟨.inl ⟨?h0, rfl⟩, rfl⟩ ?F ?N
    case h0 => omega
    case F => k_asm
    case N => k_asm
end
end Mine
end
section
open PySem PySem.W PyProof.Rows PySem.Calls
namespace Mine
theorem eq_two {prog : Program} {w : World} {A : Around} {E : Value → Shared → Prop} {s : Shared} {a b : Addr} {x1 x2 y1 y2 : Str} {t1 t2 u1 u2 : Tok} {Q : Value → Shared → Prop}
    (ha : s.heap.IsList a [Value.str x1 t1, Value.str x2 t2].toArray) (hb : s.heap.IsList b [Value.str y1 u1, Value.str y2 u2].toArray) (hu : A.units < cLine) (h : Q (.bool (x1 == y1 && x2 == y2)) s) :
    wpAny (model prog w) A (compareOp .Eq (.ref a) (.ref b)) Q E s := by
  refine SeqAt.eq_listAt (e := fun j => if j = 0 then x1 == y1 else x2 == y2) ha hb rfl hu ?_ (by simpa [List.range, List.range.loop] using h)
  intro j h1 h2
  match j, h1 with
  | 0, _ => exact SeqAt.EqAt.str_str x1 t1 y1 u1
  | 1, _ => exact SeqAt.EqAt.str_str x2 t2 y2 u2
  | k + 2, hk => exact absurd hk (by simp)
/-- the first place of a text in another and what stands before and behind -/
theorem starts_iff {x y : Str} : (Txt.slice x none (some (y.length : Int)) == y) = decide (Txt.find x y = 0) := by
  have e : Txt.slice x none (some (y.length : Int)) = strOf (x.cps.toList.take y.length) := by
    have e1 : Txt.slice x none (some (y.length : Int)) = Txt.slice x (some 0) (some (y.length : Int)) := by
      rw [slice_is, slice_is]; unfold StrLaws.sliceText; rw [StrLaws.sliceIdx_none_lo]
    rw [e1, slice_nn x (by omega) (by omega)]
    simp
  have hlen : y.cps.toList.length = y.length := by simp [Str.length]
  have hlx : x.cps.toList.length = x.length := by simp [Str.length]
  rw [Bool.eq_iff_iff, beq_iff, decide_eq_true_eq, e, strOf_eq]
  constructor
  · intro h
    have hl : y.length ≤ x.length := by
      have h2 := congrArg List.length h
      rw [List.length_take] at h2
      omega
    have hat : StrLaws.At x y x.length 0 := by
      unfold StrLaws.At
      rw [StrLaws.subAt_eq]
      exact ⟨by omega, beq_iff_eq.mpr (by simpa using h)⟩
    exact find_at (k := 0) (fun j hj => absurd hj (Nat.not_lt_zero _)) hat
  · intro h
    rcases find_whole x y with ⟨h1, _⟩ | ⟨i, h1, h2, _⟩
    · omega
    · have hi : i = 0 := by omega
      subst hi
      have h3 := h2.2
      rw [StrLaws.subAt_eq] at h3
      simpa using beq_iff_eq.mp h3
theorem slice_zero {x : Str} {j : Int} (h : j = 0) : Txt.slice x none (some j) = Str.ofString "" := by
  subst h
  have e1 : Txt.slice x none (some 0) = Txt.slice x (some 0) (some 0) := by
    rw [slice_is, slice_is]; unfold StrLaws.sliceText; rw [StrLaws.sliceIdx_none_lo]
  rw [e1, slice_nn x (by omega) (by omega), empty_str]
  simp
theorem marks_e1 {a b : Str} : Value.bool (a == a && b == b) = .bool true := by simp
end Mine
end
section
open PySem PySem.W PyProof.Rows PySem.Calls
set_option maxRecDepth 100000
set_option maxHeartbeats 8000000
namespace Mine
section
theorem starts_c {w : World} {p : Program} {loose : List Str} {mean : ExcName → Option Value} {mg mb : Str → Option Value} {x y : Str} {tx ty : Tok} {news : Led}
   (hx : x.length ≤ 9) (hy : y.length ≤ 9) :
   Calls w p loose mean mg mb 93 1 [.str x tx, .str y ty] news
     (fun v news' => v = .bool (decide (Txt.find x y = 0)) ∧ news' = news) := by
  w_top off
  k_with_none
  k_with "room" => ktr_room
  k_with "my eval Call" => (k_here; k_dflt (refine Call_ ?_))
  unfold Calls
  k_fill
  intros
  rename_i hret
  refine wpAny_call ?_
  k_dflt cell_enter
  k_steps
  all_goals (
    refine' hret _ _ _ _ ⟨?e, rfl⟩ ?F (cb_drop ?N ?S)
    case F => k_asm
    case N => k_asm
    case S => exact fun p hp => hp
    case e => exact congrArg Value.bool starts_iff)
theorem contains_c {w : World} {p : Program} {loose : List Str} {mean : ExcName → Option Value} {mg mb : Str → Option Value} {x y : Str} {tx ty : Tok} {news : Led}
   (hx : x.length ≤ 9) (hy : y.length ≤ 9) :
   Calls w p loose mean mg mb 100 1 [.str x tx, .str y ty] news
     (fun v news' => v = .bool (decide (0 ≤ Txt.find x y)) ∧ news' = news) := by
  w_top off
  k_with_none
  k_with "room" => ktr_room
  k_with "my eval Call" => (k_here; k_dflt (refine Call_ ?_))
  unfold Calls
  k_fill
  intros
  rename_i hret
  refine wpAny_call ?_
  k_dflt cell_enter
  k_steps
  all_goals (
    refine' hret _ _ _ _ ⟨?e, rfl⟩ ?F (cb_drop ?N ?S)
    case F => k_asm
    case N => k_asm
    case S => exact fun p hp => hp
    case e => rfl)
theorem before_c {w : World} {p : Program} {loose : List Str} {mean : ExcName → Option Value} {mg mb : Str → Option Value} {x y : Str} {tx ty : Tok} {news : Led}
   (hx : x.length ≤ 9) (hy : y.length ≤ 9) :
   Calls w p loose mean mg mb 107 1 [.str x tx, .str y ty] news
     (fun v news' => (∃ t, v = .str (if 0 < Txt.find x y then Txt.slice x none (some (Txt.find x y)) else Str.ofString "") t) ∧ news' = news) := by
  w_top off
  k_with_none
  k_with "room" => ktr_room
  k_with "my eval Call" => (k_here; k_dflt (refine Call_ ?_))
  unfold Calls
  k_fill
  intros
  rename_i hret
  refine wpAny_call ?_
  k_dflt cell_enter
  k_steps
  all_goals (
    refine' hret _ _ _ _ ⟨⟨_, ?e⟩, rfl⟩ ?F (cb_drop ?N ?S)
    case F => k_asm
    case N => k_asm
    case S => exact fun p hp => hp
    case e => first | rw [if_pos (by assumption)] | rw [if_neg (by assumption)])
theorem after_c {w : World} {p : Program} {loose : List Str} {mean : ExcName → Option Value} {mg mb : Str → Option Value} {x y : Str} {tx ty : Tok} {news : Led}
   (hx : x.length ≤ 9) (hy : y.length ≤ 9) :
   Calls w p loose mean mg mb 114 1 [.str x tx, .str y ty] news
     (fun v news' => (∃ t, v = .str (if 0 ≤ Txt.find x y then Txt.slice x (some (Txt.find x y + (y.length : Int))) none else Str.ofString "") t) ∧ news' = news) := by
  w_top off
  k_with_none
  k_with "room" => ktr_room
  k_with "my eval Call" => (k_here; k_dflt (refine Call_ ?_))
  unfold Calls
  k_fill
  intros
  rename_i hret
  refine wpAny_call ?_
  k_dflt cell_enter
  k_steps
  all_goals (
    refine' hret _ _ _ _ ⟨⟨_, ?e⟩, rfl⟩ ?F (cb_drop ?N ?S)
    case F => k_asm
    case N => k_asm
    case S => exact fun p hp => hp
    case e => first | rw [if_pos (by assumption)] | rw [if_neg (by assumption)])
section
variable {w : World} {p : Program} {loose : List Str} {mean : ExcName → Option Value} {mg mb : Str → Option Value}
  {dp un : Nat} {gd : Option (List Code)} {cn : Str} {cs : Scope} {a₀ : Addr} {ccd : Value} {cl : List (Str × Addr)} {outer : List Env} {A₀ : Around} {base h₀ : Heap} {L : Addr} {m : Str → Option Value} {s : Shared} {Q E : Value → Shared → Prop} {news : Led}
variable {x y : Str} {tx ty : Tok}
theorem place_u (hx : x.length ≤ 9) (hy : y.length ≤ 9)
    (B : Below A₀ base outer h₀) (F : Fr h₀ L s.heap m) (X : (hd.heap_39 w.params).In h₀) (N : News h₀ L s.heap news) (T : Top p loose mean mg mb h₀) (hk : cs.kind = .function) (hd : dp + 1 < recursionLimit) (hu : un + 8 * 1 < cLine)
    (non : ∀ h' tk', Txt.find x y < 0 → Fr h₀ L h' m → News h₀ L h' news → Q .none { s with heap := h', toks := tk' })
    (num : ∀ t h' tk', 0 ≤ Txt.find x y → Fr h₀ L h' m → News h₀ L h' news → Q (.int (Txt.find x y) t) { s with heap := h', toks := tk' }) :
    wpAny (model PySem.Challenge.rw_nu0054_01.row.prog w) (ktrTop dp un gd cn cs L a₀ ccd cl outer) (call (.ref 202) [.str x tx, .str y ty]) Q E s := by
  refine Calls.use (place_c hx hy) B F X N T hk hd hu ?_
  rintro v news' h' tk' ⟨⟨h1, rfl⟩ | ⟨t, h1, rfl⟩, rfl⟩ F' N'
  · exact non h' tk' h1 F' N'
  · exact num t h' tk' h1 F' N'
theorem starts_u (b : Bool) (hb : decide (Txt.find x y = 0) = b) (hx : x.length ≤ 9) (hy : y.length ≤ 9)
    (B : Below A₀ base outer h₀) (F : Fr h₀ L s.heap m) (X : (hd.heap_39 w.params).In h₀) (N : News h₀ L s.heap news) (T : Top p loose mean mg mb h₀) (hk : cs.kind = .function) (hd : dp + 1 < recursionLimit) (hu : un + 8 * 1 < cLine)
    (ret : ∀ h' tk', Fr h₀ L h' m → News h₀ L h' news → Q (.bool b) { s with heap := h', toks := tk' }) :
    wpAny (model PySem.Challenge.rw_nu0054_01.row.prog w) (ktrTop dp un gd cn cs L a₀ ccd cl outer) (call (.ref 93) [.str x tx, .str y ty]) Q E s :=
  Calls.use (starts_c hx hy) B F X N T hk hd hu fun v news' h' tk' ⟨hv, hn⟩ F' N' => by subst hv hn; rw [hb]; exact ret h' tk' F' N'
theorem contains_u (b : Bool) (hb : decide (0 ≤ Txt.find x y) = b) (hx : x.length ≤ 9) (hy : y.length ≤ 9)
    (B : Below A₀ base outer h₀) (F : Fr h₀ L s.heap m) (X : (hd.heap_39 w.params).In h₀) (N : News h₀ L s.heap news) (T : Top p loose mean mg mb h₀) (hk : cs.kind = .function) (hd : dp + 1 < recursionLimit) (hu : un + 8 * 1 < cLine)
    (ret : ∀ h' tk', Fr h₀ L h' m → News h₀ L h' news → Q (.bool b) { s with heap := h', toks := tk' }) :
    wpAny (model PySem.Challenge.rw_nu0054_01.row.prog w) (ktrTop dp un gd cn cs L a₀ ccd cl outer) (call (.ref 100) [.str x tx, .str y ty]) Q E s :=
  Calls.use (contains_c hx hy) B F X N T hk hd hu fun v news' h' tk' ⟨hv, hn⟩ F' N' => by subst hv hn; rw [hb]; exact ret h' tk' F' N'
theorem before_u (z : Str) (hz : (if 0 < Txt.find x y then Txt.slice x none (some (Txt.find x y)) else Str.ofString "") = z) (hx : x.length ≤ 9) (hy : y.length ≤ 9)
    (B : Below A₀ base outer h₀) (F : Fr h₀ L s.heap m) (X : (hd.heap_39 w.params).In h₀) (N : News h₀ L s.heap news) (T : Top p loose mean mg mb h₀) (hk : cs.kind = .function) (hd : dp + 1 < recursionLimit) (hu : un + 8 * 1 < cLine)
    (ret : ∀ t h' tk', Fr h₀ L h' m → News h₀ L h' news → Q (.str z t) { s with heap := h', toks := tk' }) :
    wpAny (model PySem.Challenge.rw_nu0054_01.row.prog w) (ktrTop dp un gd cn cs L a₀ ccd cl outer) (call (.ref 107) [.str x tx, .str y ty]) Q E s :=
  Calls.use (before_c hx hy) B F X N T hk hd hu fun v news' h' tk' ⟨⟨t, hv⟩, hn⟩ F' N' => by subst hv hn; rw [hz]; exact ret t h' tk' F' N'
theorem after_u (z : Str) (hz : (if 0 ≤ Txt.find x y then Txt.slice x (some (Txt.find x y + (y.length : Int))) none else Str.ofString "") = z) (hx : x.length ≤ 9) (hy : y.length ≤ 9)
    (B : Below A₀ base outer h₀) (F : Fr h₀ L s.heap m) (X : (hd.heap_39 w.params).In h₀) (N : News h₀ L s.heap news) (T : Top p loose mean mg mb h₀) (hk : cs.kind = .function) (hd : dp + 1 < recursionLimit) (hu : un + 8 * 1 < cLine)
    (ret : ∀ t h' tk', Fr h₀ L h' m → News h₀ L h' news → Q (.str z t) { s with heap := h', toks := tk' }) :
    wpAny (model PySem.Challenge.rw_nu0054_01.row.prog w) (ktrTop dp un gd cn cs L a₀ ccd cl outer) (call (.ref 114) [.str x tx, .str y ty]) Q E s :=
  Calls.use (after_c hx hy) B F X N T hk hd hu fun v news' h' tk' ⟨⟨t, hv⟩, hn⟩ F' N' => by subst hv hn; rw [hz]; exact ret t h' tk' F' N'
theorem st_non (h : Txt.find x y < 0) : decide (Txt.find x y = 0) = false := decide_eq_false (Int.ne_of_lt h)
theorem st_num : decide (Txt.find x y = 0) = (Txt.find x y == 0) := by
  by_cases e : Txt.find x y = 0
  · rw [decide_eq_true e, beq_iff_eq.mpr e]
  · rw [decide_eq_false e, beq_false_of_ne e]
theorem co_non (h : Txt.find x y < 0) : decide (0 ≤ Txt.find x y) = false := decide_eq_false (Int.not_le.mpr h)
theorem co_num (h : 0 ≤ Txt.find x y) : decide (0 ≤ Txt.find x y) = true := decide_eq_true h
theorem be_non (h : Txt.find x y < 0) : (if 0 < Txt.find x y then Txt.slice x none (some (Txt.find x y)) else Str.ofString "") = Str.ofString "" := if_neg (Int.not_lt.mpr (Int.le_of_lt h))
theorem be_num (h : 0 ≤ Txt.find x y) : (if 0 < Txt.find x y then Txt.slice x none (some (Txt.find x y)) else Str.ofString "") = Txt.slice x none (some (Txt.find x y)) := by
  rcases Int.lt_or_eq_of_le h with h2 | h2
  · rw [if_pos h2]
  · rw [if_neg (by rw [← h2]; decide), ← h2, slice_zero rfl]
theorem af_non (h : Txt.find x y < 0) : (if 0 ≤ Txt.find x y then Txt.slice x (some (Txt.find x y + (y.length : Int))) none else Str.ofString "") = Str.ofString "" := if_neg (Int.not_le.mpr h)
theorem af_num (h : 0 ≤ Txt.find x y) : (if 0 ≤ Txt.find x y then Txt.slice x (some (Txt.find x y + (y.length : Int))) none else Str.ofString "") = Txt.slice x (some (Txt.find x y + (y.length : Int))) none := if_pos h
end
theorem marks_same {b : Bool} {P : Prop} (h : (b != b) = true) : P := by
  cases b <;> cases h
theorem marks_c {w : World} {p : Program} {loose : List Str} {mean : ExcName → Option Value} {mg mb : Str → Option Value} {x y : Str} {tx ty : Tok} {news : Led}
   (hx : x.length ≤ 9) (hy : y.length ≤ 9) :
   Calls w p loose mean mg mb 209 3 [.str x tx, .str y ty] news
     (fun v news' => v = .bool true ∧ news' = news) := by
  w_top off
  k_with_none
  k_with "room" => ktr_room
  k_with "tb" => ((case k1 => k_asm); (case k2 => k_asm); (case k3 => k_asm); (case k4 => k_asm); (case k5 => k_asm); (case kK => first | exact rfl | assumption); (case kd => first | exact Mine.room1 (by assumption) (by decide) | ktr_room | k_room); (case ku => first | exact Mine.unit1 (by assumption) (by decide) | ktr_units | k_units))
  k_with "my eval Call" => (k_here; k_dflt (refine Call_ ?_))
  k_with "my call ref" => (k_here; (with_reducible show wpAny _ _ (call (Value.ref 202) _) _ _ _); k_dflt (refine' place_u ?hx ?hy ?k1 ?k2 ?k3 ?k4 ?k5 ?kK ?kd ?ku ?_ ?_; (k_extra "tb"); (case hx => assumption); (case hy => assumption); all_goals intros; (try dsimp only); (try k_fold)))
  k_with "my call ref" => (k_here; (with_reducible show wpAny _ _ (call (Value.ref 93) _) _ _ _); k_dflt ((first | (refine' starts_u _ (st_non (by assumption)) ?hx ?hy ?k1 ?k2 ?k3 ?k4 ?k5 ?kK ?kd ?ku ?_) | (refine' starts_u _ (st_num) ?hx ?hy ?k1 ?k2 ?k3 ?k4 ?k5 ?kK ?kd ?ku ?_)); (k_extra "tb"); (case hx => assumption); (case hy => assumption); intros; (try dsimp only); (try k_fold)))
  k_with "my call ref" => (k_here; (with_reducible show wpAny _ _ (call (Value.ref 100) _) _ _ _); k_dflt ((first | (refine' contains_u _ (co_non (by assumption)) ?hx ?hy ?k1 ?k2 ?k3 ?k4 ?k5 ?kK ?kd ?ku ?_) | (refine' contains_u _ (co_num (by assumption)) ?hx ?hy ?k1 ?k2 ?k3 ?k4 ?k5 ?kK ?kd ?ku ?_)); (k_extra "tb"); (case hx => assumption); (case hy => assumption); intros; (try dsimp only); (try k_fold)))
  k_with "my call ref" => (k_here; (with_reducible show wpAny _ _ (call (Value.ref 107) _) _ _ _); k_dflt ((first | (refine' before_u _ (be_non (by assumption)) ?hx ?hy ?k1 ?k2 ?k3 ?k4 ?k5 ?kK ?kd ?ku ?_) | (refine' before_u _ (be_num (by assumption)) ?hx ?hy ?k1 ?k2 ?k3 ?k4 ?k5 ?kK ?kd ?ku ?_)); (k_extra "tb"); (case hx => assumption); (case hy => assumption); intros; (try dsimp only); (try k_fold)))
  k_with "my call ref" => (k_here; (with_reducible show wpAny _ _ (call (Value.ref 114) _) _ _ _); k_dflt ((first | (refine' after_u _ (af_non (by assumption)) ?hx ?hy ?k1 ?k2 ?k3 ?k4 ?k5 ?kK ?kd ?ku ?_) | (refine' after_u _ (af_num (by assumption)) ?hx ?hy ?k1 ?k2 ?k3 ?k4 ?k5 ?kK ?kd ?ku ?_)); (k_extra "tb"); (case hx => assumption); (case hy => assumption); intros; (try dsimp only); (try k_fold)))
  k_with "my compareOp Eq ref ref" => (k_here; k_dflt (refine' eq_two ?k1 ?k2 ?k3 ?_; (case k1 => exact News.isList (by k_asm) (by k_mem)); (case k2 => exact News.isList (by k_asm) (by k_mem)); (case k3 => ktr_units)))
  unfold Calls
  k_fill
  intros
  rename_i hret
  refine wpAny_call ?_
  k_dflt cell_enter
  k_steps
  all_goals first
    | exact marks_same (by assumption)
    | (refine' hret _ _ _ _ ⟨?e, rfl⟩ ?F (cb_drop ?N ?S)
       (case F => k_asm)
       (case N => k_asm)
       (case S => exact fun p hp => .tail _ (.tail _ hp))
       (case e => exact marks_e1))
end
end Mine
end
section
open PySem PySem.W PyProof.Rows
namespace Mine
def putL (sg ot : Str) (c : Nat) : List Nat := if Txt.find sg ⟨#[c]⟩ < 0 then [c] else (ot.cps.toList.drop (Txt.find sg ⟨#[c]⟩).toNat).take 1
theorem item_at' {x : Str} {k c : Nat} (h : k < x.length) : (Txt.item x (k : Int) == ⟨#[c]⟩) = true ↔ StrLaws.At x ⟨#[c]⟩ x.length k := by
  have hk : k < x.cps.size := h
  have e : Txt.item x (k : Int) = ⟨#[x.cps[k]]⟩ := item_meets (by omega) (by simp [hk])
  rw [e, beq_iff]
  have h1 := StrLaws.subAt_one x c k
  unfold StrLaws.At
  rw [h1]
  simp [hk]
theorem put_hit {sg ot : Str} {c : Nat} {k : Nat} (hf : Txt.find sg ⟨#[c]⟩ = (k : Int)) : Txt.slice ot (some (k : Int)) (some ((k : Int) + 1)) = strOf (putL sg ot c) := by
  unfold putL
  rw [hf, if_neg (by omega), slice_nn ot (by omega) (by omega)]
  have e : ((k : Int) + 1).toNat - ((k : Int)).toNat = 1 := by clear hf; omega
  rw [e]
theorem put_miss {sg ot : Str} {c : Nat} (hf : Txt.find sg ⟨#[c]⟩ < 0) : (⟨#[c]⟩ : Str) = strOf (putL sg ot c) := by
  unfold putL
  rw [if_pos hf]
theorem join_empty : ∀ ws : List Str, Txt.join (Str.ofString "") ws = strOf ((ws.map (·.cps.toList)).flatten) := by
  intro ws
  show Builtin.Str.glued (Str.ofString "") ws = _
  rw [StrLaws.glued_eq_join, empty_str]
  induction ws with
  | nil => rfl
  | cons a r ih =>
    cases r with
    | nil =>
      show a = _
      simp [strOf_self]
    | cons b r' =>
      have e : Str.join (strOf []) (a :: b :: r') = a ++ strOf [] ++ Str.join (strOf []) (b :: r') := rfl
      rw [e, ih]
      refine Str.ext' (Array.toList_inj.mp ?_)
      simp [Str.cps_append]
end Mine
end
section
open PySem PySem.W PyProof.Rows PySem.Calls
set_option maxRecDepth 100000
set_option maxHeartbeats 8000000
namespace Mine
section
theorem sign_put_c {w : World} {p : Program} {loose : List Str} {mean : ExcName → Option Value} {mg mb : Str → Option Value} {ch : Nat} {sg ot : Str} {tc ts to' : Tok} {news : Led}
   (hs : sg.length ≤ 9) (ho : ot.length ≤ 9) :
   Calls w p loose mean mg mb 216 1 [.str ⟨#[ch]⟩ tc, .str sg ts, .str ot to'] news
     (fun v news' => ∃ t, v = .str (strOf (putL sg ot ch)) t ∧ news' = news) := by
  w_top off
  k_with_none
  k_with "my exec For Name Call cons nil" => (k_here; k_dflt ((rename Fr _ _ _ _ => lF'); (with_unfolding_all refine' For_invVF lF' ?k1 ?k2 ?_; (case k1 => exact rfl); (case k2 => exact rfl)); k_whole))
  k_with "my pyIter ref" => (k_here; refine stopI ?_)
  unfold Calls
  k_fill
  intros
  rename_i hret
  refine wpAny_call ?_
  k_dflt cell_enter
  k_steps
  unfold Stop
  rename IsRange _ _ _ _ _ _ _ _ => hR
  rename Fr _ _ _ _ => F0
  rename News _ _ _ _ => N0
  refine' kst_range (σ := Unit) (fun _ => news) (fun _ => []) (fun _ => True) [] (fun pre _ => ∀ j : Nat, j < pre.length → ¬ StrLaws.At sg ⟨#[ch]⟩ sg.length j) () (by rfl) hR (small0 (by omega) (by omega)) (rangeSize_nat _ _) F0 N0 trivial (fun p hp => nomatch hp) (fun j hj => absurd hj (Nat.not_lt_zero _)) ?_ ?_
  · intro c pre k t u h tk own hk hlt hoff _ hP F1 N1
    clear F0 N0 hR
    try k_fold
    k_steps
    · have hlt' : pre.length < sg.length := by omega
      have hk' : k = (pre.length : Int) := by omega
      subst hk'
      have hat := (item_at' hlt').mp (by assumption)
      have hf := find_at hP hat
      refine' hret _ _ _ _ ⟨_, congrArg (fun z => Value.str z _) (put_hit hf), rfl⟩ ?F (cb_drop ?N ?S)
      case F => k_asm
      case N => k_asm
      case S => exact fun p hp => List.mem_append.mpr (.inl hp)
    · refine kst_end () (by k_asm) (by k_asm) (fun p hp => List.mem_append.mpr (.inl hp)) (fun p hp => List.mem_append.mpr (.inr hp)) rfl trivial (fun p hp => nomatch hp) (by intro z h1 h2 h3; exact (if_neg h1).trans rfl) ?_
      intro j hj
      rw [List.length_append, List.length_singleton] at hj
      by_cases hj' : j < pre.length
      · exact hP j hj'
      · have e : j = pre.length := by omega
        subst e
        intro hat
        have hk' : k = (pre.length : Int) := by omega
        subst hk'
        have hb := (item_at' (by omega)).mpr hat
        (rename (_ == _) = false => hfl)
        rw [hb] at hfl
        cases hfl
  · intro c u h tk _ hP F1 N1
    clear F0 N0 hR
    try k_fold
    k_steps
    have hf : Txt.find sg ⟨#[ch]⟩ = -1 := find_no (n := (rangeKs 0 ((sg.length : Int) - 0).toNat).length) (fun i hi => by rw [rangeKs_length]; have h1 : (⟨#[ch]⟩ : Str).length = 1 := rfl; omega) hP
    refine' hret _ _ _ _ ⟨_, congrArg (fun z => Value.str z _) (put_miss (by omega)), rfl⟩ ?F ?N
    case F => k_asm
    case N => k_asm
end
end Mine
end
section
open PySem PySem.W PyProof.Rows
namespace Mine
theorem put_A {sg ot : Str} {n : Nat} (h : Txt.find sg ⟨#[n]⟩ < 0) : (⟨#[n]⟩ : Str).cps.toList = putL sg ot n := by
  unfold putL; rw [if_pos h]
theorem put_B {sg ot : Str} {n : Nat} (h : ¬ Txt.find sg ⟨#[n]⟩ < 0) (h2 : Txt.find sg ⟨#[n]⟩ < ot.length) : (Txt.item ot (Txt.find sg ⟨#[n]⟩)).cps.toList = putL sg ot n := by
  unfold putL; rw [if_neg h]
  generalize Txt.find sg ⟨#[n]⟩ = F at *
  have hk : F.toNat < ot.cps.size := by
    have : ot.length = ot.cps.size := rfl
    omega
  have e : Txt.item ot F = ⟨#[ot.cps[F.toNat]]⟩ := item_meets (by omega) (by simp [hk])
  rw [e]
  have hk' : F.toNat < ot.cps.toList.length := by simpa using hk
  rw [List.drop_eq_getElem_cons hk']
  simp
theorem put_C {sg ot : Str} {n : Nat} (h : ¬ Txt.find sg ⟨#[n]⟩ < 0) (h2 : ¬ Txt.find sg ⟨#[n]⟩ < ot.length) : putL sg ot n = [] := by
  unfold putL; rw [if_neg h]
  have hl : ot.cps.toList.length = ot.length := by simp [Str.length]
  rw [List.drop_of_length_le (by omega)]
  rfl
theorem put_step {sg ot : Str} {ws : List Str} {w : Str} {pre : List Int} {n : Nat} (hP : (ws.map (·.cps.toList)).flatten = (pre.map Int.toNat).flatMap (putL sg ot)) (e : w.cps.toList = putL sg ot n) :
    ((ws ++ [w]).map (·.cps.toList)).flatten = ((pre ++ [(n : Int)]).map Int.toNat).flatMap (putL sg ot) := by
  rw [List.map_append, List.flatten_append, List.map_append, List.flatMap_append, hP]
  simp [e]
theorem put_stay {sg ot : Str} {ws : List Str} {pre : List Int} {n : Nat} (hP : (ws.map (·.cps.toList)).flatten = (pre.map Int.toNat).flatMap (putL sg ot)) (e : putL sg ot n = []) :
    (ws.map (·.cps.toList)).flatten = ((pre ++ [(n : Int)]).map Int.toNat).flatMap (putL sg ot) := by
  rw [List.map_append, List.flatMap_append, hP]
  simp [e]
theorem codes_nat (x : Str) : (KStt.codes x).map Int.toNat = x.cps.toList := by
  unfold KStt.codes
  rw [List.map_map]
  exact (List.map_congr_left (g := _root_.id) fun c _ => Int.toNat_natCast c).trans (List.map_id _)
theorem ones_snoc {ws : List Str} {w : Str} (h : ∀ v ∈ ws, v.length = 1) (hw : w.length = 1) : ∀ v ∈ ws ++ [w], v.length = 1 := by
  intro v hv
  rcases List.mem_append.mp hv with hv | hv
  · exact h v hv
  · rw [List.mem_singleton.mp hv]; exact hw
end Mine
end
section
open PySem PySem.W PyProof.Rows PySem.Calls
set_option maxRecDepth 100000
set_option maxHeartbeats 8000000
namespace Mine
section
theorem translated_c {w : World} {p : Program} {loose : List Str} {mean : ExcName → Option Value} {mg mb : Str → Option Value} {x sg ot : Str} {tx ts to' : Tok} {news : Led}
   (hx : x.length ≤ 9) (hs : sg.length ≤ 9) (ho : ot.length ≤ 9) :
   Calls w p loose mean mg mb 136 1 [.str x tx, .str sg ts, .str ot to'] news
     (fun v news' => ∃ t, v = .str (strOf (x.cps.toList.flatMap (putL sg ot))) t ∧ news' = news) := by
  w_top off
  k_with_none
  k_with "all" => assumption
  k_with "my exec For Name Name cons nil" => (k_here; k_dflt ((rename Fr _ _ _ _ => lF'); (with_unfolding_all refine' For_invVF lF' ?k1 ?k2 ?_; (case k1 => exact rfl); (case k2 => exact rfl)); k_whole))
  k_with "my pyIter str" => (k_here; refine stopI ?_)
  k_with "my InvPostN" => (k_here; (with_reducible show InvPostN _ _ _ _ _ _ _ Flow.next _); k_dflt (refine stopI ?_))
  k_with "my call builtin:str.join" => (k_here; k_dflt (refine' join_strs ?k1 ?k2 ?k3 ?k4 (by decide) ?_; (case k1 => exact News.isList (by k_asm) (by k_mem)); (case k2 => assumption); (case k3 => exact fun w hw => Nat.le_trans (Nat.le_of_eq ((by assumption : ∀ w ∈ _, Str.length w = 1) w hw)) (by decide)); (case k4 => omega); intro t' k'; (try k_fold)))
  unfold Calls
  k_fill
  intros
  rename_i hret
  refine wpAny_call ?_
  k_dflt cell_enter
  k_steps
  unfold Stop
  rename_i D z4 l1 hh N0
  rename Fr _ _ _ _ => F0
  refine' KStt.kst_text (σ := List Value × List Str × Nat) (fun c => (D, listOf c.1.toArray c.2.2) :: news) (fun _ => []) (fun c => StrsAre c.1 c.2.1) [Str.ofString "place"]
    (fun pre c => (c.2.1.map (·.cps.toList)).flatten = (pre.map Int.toNat).flatMap (putL sg ot) ∧ c.2.1.length ≤ pre.length ∧ ∀ w ∈ c.2.1, w.length = 1) ([], [], 0) (by rfl) F0 N0 .nil (fun p hp => nomatch hp) ⟨rfl, Nat.le_refl _, fun w hw => nomatch hw⟩ ?_ ?_
  · rintro ⟨vs, ws, cap⟩ pre post n t u h tk own hcode hoff hst ⟨hP1, hP2, hP3⟩ F1 N1
    dsimp only at hst hP1 hP2 hP3 F1 N1
    have hne : ∀ q ∈ news ++ own, q.1 ≠ D := fun q hq => (List.mem_append.mp hq).elim (fun h1 => Nat.ne_of_lt (l1 q h1)) (fun h1 => hoff q h1 D (.head _))
    have hlen : pre.length < 9 := by
      have h1 := congrArg List.length hcode
      rw [KStt.codes_length, List.length_append, List.length_cons] at h1
      omega
    have hvl : vs.length = ws.length := hst.length
    clear F0 N0 l1 hoff
    try k_fold
    k_steps
    all_goals unfold Stop
    all_goals (rename News _ _ _ _ => nE)
    all_goals (try simp only [List.push_toArray] at nE)
    · refine kst_end (vs ++ [_], ws ++ [⟨#[n]⟩], cap + 1) (by k_asm) nE (List.forall_mem_cons.mpr ⟨List.Mem.head _, fun p hp => .tail _ (List.mem_append.mpr (.inl hp))⟩) (fun p hp => .tail _ (List.mem_append.mpr (.inr hp))) rfl (kct_snoc hst) (fun p hp => nomatch hp) ?_ ⟨put_step hP1 (put_A (by assumption)), by simp only [List.length_append, List.length_singleton]; omega, ones_snoc hP3 rfl⟩
      intro z h1 h2 h3
      have hz : z ≠ Str.ofString "place" := by intro e; subst e; cases h3
      refine (if_neg hz).trans ((if_neg h1).trans ?_)
      show (if [Str.ofString "place"].contains z = true then _ else _) = _
      rw [h3]; rfl
    · refine kst_end (vs ++ [_], ws ++ [Txt.item ot (Txt.find sg ⟨#[n]⟩)], cap + 1) (by k_asm) nE (List.forall_mem_cons.mpr ⟨List.Mem.head _, fun p hp => .tail _ (List.mem_append.mpr (.inl hp))⟩) (fun p hp => .tail _ (List.mem_append.mpr (.inr hp))) rfl (kct_snoc hst) (fun p hp => nomatch hp) ?_ ⟨put_step hP1 (put_B (by assumption) (by assumption)), by simp only [List.length_append, List.length_singleton]; omega, ones_snoc hP3 rfl⟩
      intro z h1 h2 h3
      have hz : z ≠ Str.ofString "place" := by intro e; subst e; cases h3
      refine (if_neg hz).trans ((if_neg h1).trans ?_)
      show (if [Str.ofString "place"].contains z = true then _ else _) = _
      rw [h3]; rfl
    · refine kst_end (vs, ws, cap) (by k_asm) nE (List.forall_mem_cons.mpr ⟨List.Mem.head _, fun p hp => .tail _ (List.mem_append.mpr (.inl hp))⟩) (fun p hp => .tail _ (List.mem_append.mpr (.inr hp))) rfl hst (fun p hp => nomatch hp) ?_ ⟨put_stay hP1 (put_C (by assumption) (by assumption)), by simp only [List.length_append, List.length_singleton]; omega, hP3⟩
      intro z h1 h2 h3
      have hz : z ≠ Str.ofString "place" := by intro e; subst e; cases h3
      refine (if_neg hz).trans ((if_neg h1).trans ?_)
      show (if [Str.ofString "place"].contains z = true then _ else _) = _
      rw [h3]; rfl
  · rintro ⟨vs, ws, cap⟩ u h tk hst ⟨hP1, hP2, hP3⟩ F1 N1
    dsimp only at hst hP1 hP2 hP3 F1 N1
    rw [KStt.codes_length] at hP2
    rw [codes_nat] at hP1
    clear F0 N0
    try k_fold
    k_steps
    rw [join_empty, hP1]
    refine' hret _ _ _ _ ⟨_, rfl, rfl⟩ ?F (cb_drop ?N ?S)
    case F => k_asm
    case N => k_asm
    case S => exact fun p hp => .tail _ hp
end
end Mine
end
section
open PySem PySem.W PyProof.Rows PySem.Calls
namespace Mine
section
variable {prog : Program} {w : World} {A : Around} {E : Value → Shared → Prop} {s : Shared} {h₀ : Heap} {L D l : Addr} {m : Str → Option Value} {env : Env}
theorem sub_last {value slice : PySem.Expr} {vs : List Value} {lv : Value} {u : Tok} {Q : Value → Shared → Prop} (hl : s.heap.IsList l (vs ++ [lv]).toArray) (h : Q lv s)
    (hs : subscripted slice false (.ref l) (.int (-1) u) = operate [.ref l, .int (-1) u] (getItem (.ref l) (.int (-1) u)) := by with_unfolding_all rfl) :
    wpAny (model prog w) A (subscriptTail value slice (.ref l) (.int (-1) u)) Q E s := by
  refine tail_any hl.typeIs slot_list_getitem.lookup (wpAny_getItem_list_neg hl (by decide) ?_ (by decide) (x := lv) ?_ h) hs
  · simp; omega
  · have e : ((-1 : Int) + ((vs ++ [lv]).toArray.size : Int)).toNat = vs.length := by simp; omega
    rw [e]; simp
theorem setL_last : ∀ (vs : List Value) (lv v : Value), ki_setL (vs ++ [lv]) vs.length v = some (vs ++ [v])
  | [], _, _ => rfl
  | x :: r, lv, v => by
    show (match ki_setL (r ++ [lv]) r.length v with | some q => some (x :: q) | none => none) = _
    rw [setL_last r lv v]; rfl
theorem set_last {vs : List Value} {lv v : Value} {t : Tok} {n : Nat} {rest : Led} {Q : Unit → Shared → Prop} (F : Fr h₀ L s.heap m) (N : News h₀ L s.heap ((D, listOf (vs ++ [lv]).toArray n) :: rest)) (hne : ∀ p ∈ rest, p.1 ≠ D)
    (h : ∀ h', Fr h₀ L h' m → News h₀ L h' ((D, listOf (vs ++ [v]).toArray n) :: rest) → Q () { s with heap := h' }) : wpAny (model prog w) A (setItem (.ref D) (.int (-1) t) v) Q E s := by
  refine ki_setNeg F N (by decide) (by decide) (j := vs.length) ?_ (q := vs ++ [v]) ?_ (Upd.head hne) h
  · rw [PySem.seqIndex_neg (by decide) (by simp; omega)]
    congr 1
    simp; omega
  · exact setL_last vs lv v
theorem strs_at : ∀ {vs : List Value} {ws : List Str}, StrsAre vs ws → ∀ (i : Nat) (h : i < ws.length) (v : Value), vs[i]? = some v → ∃ t, v = .str ws[i] t
  | _, _, .nil, i, h, _, _ => absurd h (Nat.not_lt_zero _)
  | _, _, .cons a t r, 0, _, v, e => ⟨t, (Option.some.inj e).symm⟩
  | _, _, .cons a t r, i + 1, h, v, e => strs_at r i (Nat.lt_of_succ_lt_succ h) v e
/-- a comprehension over a list of texts that keeps some -/
theorem restT_strs {ct elt : Expr} {x : Str} {scope : Scope} {cl : List (Str × Addr)} {S : List (Addr × Obj) → Prop} {Fin : List Value → List (Addr × Obj) → Prop} {vs : List Value} {ws : List Str} {news : Led} (keep : Str → Bool) (hst : StrsAre vs ws)
    (turn : ∀ (wd : Str) t I oI C oC D m₂ ys h tk (E' : Value → Shared → Prop), LCg.NsObj oC m₂ → m₂ x = some (.str wd t) → Fr h₀ L h m → News h₀ L h ((I, oI) :: (C, oC) :: (D, LCg.lst ys) :: news) → LCg.Off3 I C D news → ((@Ne Nat I C) ∧ (@Ne Nat I D) ∧ (@Ne Nat C D)) →
      wpAny (model prog w) A (isTrue ct (compEnvC scope cl C env) (eval ct (compEnvC scope cl C env))) (fun ok s' => if ok = true then
        wpAny (model prog w) A (eval elt (compEnvC scope cl C env)) (LCg.CompEnd h₀ L m { s with heap := h, toks := tk } I oI C oC D (LCg.lst ys) S (fun y news' => keep wd = true ∧ (∃ t', y = .str wd t') ∧ news' = news)) E' s'
        else LCg.CompEnd h₀ L m { s with heap := h, toks := tk } I oI C oC D (LCg.lst ys) S (fun _ news' => keep wd = false ∧ news' = news) Value.none s') E' { s with heap := h, toks := tk })
    (fin : ∀ ys, StrsAre ys (ws.filter keep) → Fin ys news) : LCt.CompRestT prog w A h₀ L m env ct elt x scope cl s S (fun i v => vs.toArray[i]? = some v) Fin vs.toArray.size 0 [] news := by
  have hl : vs.length = ws.length := hst.length
  have key : ∀ (j i : Nat) (ys : List Value), i + j = vs.length → StrsAre ys ((ws.take i).filter keep) → LCt.CompRestT prog w A h₀ L m env ct elt x scope cl s S (fun i v => vs.toArray[i]? = some v) Fin j i ys news := by
    intro j
    induction j with
    | zero =>
      intro i ys hi hy
      have e : i = ws.length := by omega
      subst e
      rw [List.take_length] at hy
      exact LCt.CompRestT.zero (fin ys hy)
    | succ j ih =>
      intro i ys hi hy
      refine LCt.CompRestT.succ ?_
      intro v I oI C oC D m₂ h tk E' hv hC hx F N off ne
      have hlt : i < ws.length := by omega
      obtain ⟨t, hvt⟩ : ∃ t, v = .str ws[i] t := by
        exact strs_at hst i hlt v (by simpa using hv)
      subst hvt
      have hs : ws.take (i + 1) = ws.take i ++ [ws[i]] := by rw [List.take_add_one, List.getElem?_eq_getElem hlt]; rfl
      refine wpAny_mono (turn ws[i] t I oI C oC D m₂ ys h tk E' hC hx F N off ne) (fun ok s₂ hq => ?_) fun _ _ e => e
      cases ok with
      | true =>
        simp only [if_true] at hq ⊢
        refine wpAny_mono hq (fun y s₃ hq => ?_) fun _ _ e => e
        obtain ⟨h', tk', nw, e, F', N', off', hS, hk, ⟨t', hy'⟩, rfl⟩ := hq
        refine ⟨h', tk', _, e, F', N', off', hS, ?_⟩
        subst hy'
        refine ih (i + 1) _ (by omega) ?_
        rw [hs, List.filter_append]
        simpa [hk] using kct_snoc hy
      | false =>
        simp only [Bool.false_eq_true, if_false] at hq ⊢
        obtain ⟨h', tk', nw, e, F', N', off', hS, hk, rfl⟩ := hq
        refine ⟨h', tk', _, e, F', N', off', hS, ?_⟩
        refine ih (i + 1) _ (by omega) ?_
        rw [hs, List.filter_append]
        simpa [hk] using hy
  have e : vs.toArray.size = vs.length := by simp
  rw [e]
  exact key vs.length 0 [] (by omega) (by simp only [List.take_zero, List.filter_nil]; exact .nil)
end
end Mine
end
section
open PySem PySem.W PyProof.Rows
namespace Mine
def sp (c : Nat) : Bool := !(Builtin.Str.occurrences (Str.ofString " \t\n\x0d") ⟨#[c]⟩ 0 (Str.ofString " \t\n\x0d").length 1).isEmpty
def wstep (q : List (List Nat) × List Nat) (c : Nat) : List (List Nat) × List Nat := if sp c = true then (q.1 ++ [q.2], []) else (q.1, q.2 ++ [c])
def stF (l : List Nat) : List (List Nat) × List Nat := l.foldl wstep ([], [])
theorem stF_snoc (l : List Nat) (c : Nat) : stF (l ++ [c]) = wstep (stF l) c := by
  unfold stF
  rw [List.foldl_append]; rfl
def keepW (w : Str) : Bool := w != Str.ofString ""
def wordsF (x : Str) : List Str := (((stF x.cps.toList).1 ++ [(stF x.cps.toList).2]).map strOf).filter keepW
theorem stF_len : ∀ l : List Nat, (stF l).1.length ≤ l.length ∧ (stF l).2.length ≤ l.length ∧ ∀ q ∈ (stF l).1, q.length ≤ l.length := by
  intro l
  induction h : l.length generalizing l with
  | zero =>
    have : l = [] := List.eq_nil_of_length_eq_zero h
    subst this
    exact ⟨Nat.le_refl _, Nat.le_refl _, fun q hq => nomatch hq⟩
  | succ n ih =>
    obtain ⟨r, c, rfl⟩ : ∃ r c, l = r ++ [c] := by
      rcases List.eq_nil_or_concat l with rfl | ⟨r, c, e⟩
      · cases h
      · exact ⟨r, c, by simpa using e⟩
    have hr : r.length = n := by simpa using h
    obtain ⟨h1, h2, h3⟩ := ih r hr
    rw [stF_snoc]
    unfold wstep
    split
    · refine ⟨by simp; omega, Nat.zero_le _, fun q hq => ?_⟩
      rcases List.mem_append.mp hq with hq | hq
      · have := h3 q hq; omega
      · rw [List.mem_singleton.mp hq]; omega
    · exact ⟨by dsimp only; omega, by simp; omega, fun q hq => by have := h3 q hq; omega⟩
theorem codes_snoc (pre : List Int) (n : Nat) : (pre ++ [(n : Int)]).map Int.toNat = pre.map Int.toNat ++ [n] := by simp
theorem w_sp {pre : List Int} {n : Nat} {ws : List Str} {ls : Str} (h : sp n = true) (h1 : ws = (stF (pre.map Int.toNat)).1.map strOf) (h2 : ls = strOf (stF (pre.map Int.toNat)).2) :
    ws ++ [ls] = (stF ((pre ++ [(n : Int)]).map Int.toNat)).1.map strOf ∧ Str.ofString "" = strOf (stF ((pre ++ [(n : Int)]).map Int.toNat)).2 := by
  rw [codes_snoc, stF_snoc]
  unfold wstep
  rw [if_pos h]
  exact ⟨by rw [h1, h2]; simp, empty_str⟩
theorem w_no {pre : List Int} {n : Nat} {ws : List Str} {ls : Str} (h : sp n = false) (h1 : ws = (stF (pre.map Int.toNat)).1.map strOf) (h2 : ls = strOf (stF (pre.map Int.toNat)).2) :
    ws = (stF ((pre ++ [(n : Int)]).map Int.toNat)).1.map strOf ∧ ls ++ (⟨#[n]⟩ : Str) = strOf (stF ((pre ++ [(n : Int)]).map Int.toNat)).2 := by
  rw [codes_snoc, stF_snoc]
  unfold wstep
  rw [if_neg (by rw [h]; decide)]
  refine ⟨h1, ?_⟩
  rw [h2]
  refine Str.ext' (Array.toList_inj.mp ?_)
  simp [Str.cps_append]
theorem strOf_len (l : List Nat) : (strOf l).length = l.length := by simp [Str.length]
theorem sp_yes {n : Nat} (h : (Builtin.Str.occurrences (Str.ofString " \t\n\x0d") ⟨#[n]⟩ 0 (Str.ofString " \t\n\x0d").length 1).isEmpty = false) : sp n = true := by unfold sp; rw [h]; rfl
theorem sp_no {n : Nat} (h : (Builtin.Str.occurrences (Str.ofString " \t\n\x0d") ⟨#[n]⟩ 0 (Str.ofString " \t\n\x0d").length 1).isEmpty = true) : sp n = false := by unfold sp; rw [h]; rfl
end Mine
end
section
open PySem PySem.W PyProof.Rows PySem.Calls
set_option maxRecDepth 100000
set_option maxHeartbeats 8000000
namespace Mine
section
theorem words_c {w : World} {p : Program} {loose : List Str} {mean : ExcName → Option Value} {mg mb : Str → Option Value} {x : Str} {tx : Tok} {news : Led}
   (hx : x.length ≤ 9) :
   Calls w p loose mean mg mb 221 1 [.str x tx] news
     (fun v news' => ∃ D vs, v = .ref D ∧ StrsAre vs (wordsF x) ∧ news' = (D, LCg.lst vs) :: news) := by
  w_top off
  k_with_none
  k_with "all" => assumption
  k_with "my exec For Name Name cons nil" => (k_here; k_dflt ((rename Fr _ _ _ _ => lF'); (with_unfolding_all refine' For_invVF lF' ?k1 ?k2 ?_; (case k1 => exact rfl); (case k2 => exact rfl)); k_whole))
  k_with "my pyIter str" => (k_here; refine stopI ?_)
  k_with "my InvPostN" => (k_here; (with_reducible show InvPostN _ _ _ _ _ _ _ Flow.next _); k_dflt (refine stopI ?_))
  k_with "my eval ListComp" => (k_here; k_dflt (refine LCt.ListComp_T (F₀ := by k_asm) (by with_unfolding_all rfl) (by decide) (by rfl) (by decide) (by rfl) ?_))
  k_with "my CompSrcT" => (k_here; k_dflt (refine stopI ?_))
  k_with "my subscriptTail" => (k_here; (with_reducible show wpAny _ _ (subscriptTail _ _ (Value.ref _) (Value.int (-1) _)) _ _ _); (with_unfolding_all (refine' sub_last ?k1 ?_ ?k6; (case k1 => exact News.isList (by k_asm) (by k_mem)); (case k6 => with_unfolding_all rfl))); (try dsimp only))
  k_with "my setItem ref int" => (k_here; (with_reducible show wpAny _ _ (setItem (Value.ref _) (Value.int (-1) _) _) _ _ _); k_dflt (refine' set_last ?k1 ?k2 ?k3 ?_; (case k1 => k_asm); (case k2 => k_asm); (case k3 => assumption); intro h' F' N'; (try dsimp only)))
  unfold Calls
  k_fill
  intros
  rename_i hret
  refine wpAny_call ?_
  k_dflt cell_enter
  k_steps
  unfold Stop
  rename_i D z4 l1 hh N0
  rename Fr _ _ _ _ => F0
  refine' KStt.kst_text (σ := List Value × List Str × Str × Nat × Nat) (fun c => (D, listOf (c.1 ++ [Value.str c.2.2.1 c.2.2.2.1]).toArray c.2.2.2.2) :: news) (fun _ => []) (fun c => StrsAre c.1 c.2.1) []
    (fun pre c => c.2.1 = (stF (pre.map Int.toNat)).1.map strOf ∧ c.2.2.1 = strOf (stF (pre.map Int.toNat)).2) ([], [], Str.ofString "", _, 0) (by rfl) F0 ?N0 .nil (fun p hp => nomatch hp) ⟨rfl, empty_str⟩ ?_ ?_
  case N0 => exact N0
  · rintro ⟨vs, ws, ls, tl, cap⟩ pre post n t u h tk own hcode hoff hst ⟨hP1, hP2⟩ F1 N1
    dsimp only at hst hP1 hP2 F1 N1
    have hne : ∀ q ∈ news ++ own, q.1 ≠ D := fun q hq => (List.mem_append.mp hq).elim (fun h1 => Nat.ne_of_lt (l1 q h1)) (fun h1 => hoff q h1 D (.head _))
    have hlen : pre.length < 9 := by
      have h1 := congrArg List.length hcode
      rw [KStt.codes_length, List.length_append, List.length_cons] at h1
      omega
    have hvl : vs.length = ws.length := hst.length
    have hsl := stF_len (pre.map Int.toNat)
    rw [List.length_map] at hsl
    have hwl : ws.length ≤ pre.length := by rw [hP1, List.length_map]; exact hsl.1
    have hll : ls.length ≤ pre.length := by rw [hP2, strOf_len]; exact hsl.2.1
    clear F0 N0 l1 hoff hsl
    try k_fold
    k_steps
    all_goals unfold Stop
    all_goals (rename News _ _ _ _ => nE)
    all_goals (try simp only [List.push_toArray] at nE)
    all_goals first
      | (refine kst_end (vs, ws, ls ++ ⟨#[n]⟩, _, cap) (by k_asm) nE (List.forall_mem_cons.mpr ⟨List.Mem.head _, fun p hp => .tail _ (List.mem_append.mpr (.inl hp))⟩) (fun p hp => .tail _ (List.mem_append.mpr (.inr hp))) rfl hst (fun p hp => nomatch hp) ?_ (w_no (sp_no (by assumption)) hP1 hP2)
         intro z h1 h2 h3
         exact (if_neg h1).trans rfl)
      | (refine kst_end (vs ++ [.str ls tl], ws ++ [ls], Str.ofString "", _, cap + 1) (by k_asm) nE (List.forall_mem_cons.mpr ⟨List.Mem.head _, fun p hp => .tail _ (List.mem_append.mpr (.inl hp))⟩) (fun p hp => .tail _ (List.mem_append.mpr (.inr hp))) rfl (kct_snoc hst) (fun p hp => nomatch hp) ?_ (w_sp (sp_yes (by assumption)) hP1 hP2)
         intro z h1 h2 h3
         exact (if_neg h1).trans rfl)
  · rintro ⟨vs, ws, ls, tl, cap⟩ u h tk hst ⟨hP1, hP2⟩ F1 N1
    dsimp only at hst hP1 hP2 F1 N1
    rw [codes_nat] at hP1 hP2
    have hsl := stF_len x.cps.toList
    have hxl : x.cps.toList.length = x.length := by simp [Str.length]
    have hwl : ws.length ≤ x.length := by rw [hP1, List.length_map, ← hxl]; exact hsl.1
    have hvl : vs.length = ws.length := hst.length
    have hw : (ws ++ [ls]).filter keepW = wordsF x := by unfold wordsF; rw [hP1, hP2, List.map_append]; rfl
    clear F0 N0 hsl
    try k_fold
    k_steps
    unfold Stop
    refine' LCt.CompSrcT.ledger (by rfl) (by k_asm) (by k_asm) ?hm ?hsz ?_
    case hm => exact List.Mem.head _
    case hsz => (rw [PySem.sizeLine_eq, List.size_toArray, List.length_append, List.length_singleton]; omega)
    intro gg
    refine' restT_strs (ws := ws ++ [ls]) keepW (kct_snoc hst) (fun wd t I oI C oC D' m₂ ys h tk E' hC hx' F N off ne => ?_) (fun ys hys => ?_)
    · try k_fold
      k_steps
      · refine LCg.CompEnd.intro (by k_asm) (by k_asm) _ (fun _ hp => hp) off (.inr ⟨_, List.Mem.head _, rfl, _, rfl⟩) ⟨by assumption, ⟨_, rfl⟩, rfl⟩
      · refine LCg.CompEnd.intro (by k_asm) (by k_asm) _ (fun _ hp => hp) off (.inr ⟨_, List.Mem.head _, rfl, _, rfl⟩) ⟨by assumption, rfl⟩
    · rw [hw] at hys
      k_steps
      refine' hret _ ((_, LCg.lst ys) :: news) _ _ ⟨_, ys, rfl, hys, rfl⟩ ?F (cb_drop ?N ?S)
      case F => k_asm
      case N => k_asm
      case S => exact List.forall_mem_cons.mpr ⟨List.Mem.head _, fun p hp => .tail _ (.tail _ hp)⟩
end
end Mine
end
section
open PySem PySem.W PyProof.Rows
namespace Mine
/-- what space_split holds when k places are done -/
def SplitInv (x : Str) (k : Nat) (ws : List Str) (b : Int) : Prop :=
  (k ≤ x.length → ws = ((stF (x.cps.toList.take k)).1.map strOf).filter keepW ∧ 0 ≤ b ∧ b ≤ k ∧ (x.cps.toList.take k).drop b.toNat = (stF (x.cps.toList.take k)).2) ∧ (k = x.length + 1 → ws = wordsF x)
theorem keep_strOf {l : List Nat} : keepW (strOf l) = !l.isEmpty := by
  unfold keepW
  rw [empty_str]
  cases l with
  | nil => simp
  | cons a r => simp [strOf]
theorem len_list (x : Str) : x.cps.toList.length = x.length := by simp [Str.length]
theorem split_slice {x : Str} {k : Nat} {b : Int} (h0 : 0 ≤ b) (hb : b ≤ k) : Txt.slice x (some b) (some (k : Int)) = strOf ((x.cps.toList.take k).drop b.toNat) := by
  rw [slice_nn x h0 (by omega)]
  rw [List.drop_take]
  congr 2
theorem split_empty {x : Str} {k : Nat} {b : Int} (h0 : 0 ≤ b) (hk : k ≤ x.length) : ((x.cps.toList.take k).drop b.toNat).isEmpty = !decide (b < k) := by
  have hl : (x.cps.toList.take k).length = k := List.length_take_of_le (by rw [len_list]; exact hk)
  by_cases h : b < k
  · have e : ((x.cps.toList.take k).drop b.toNat).length ≠ 0 := by
      rw [List.length_drop, hl]; exact Nat.sub_ne_zero_of_lt ((Int.toNat_lt h0).mpr h)
    cases hq : (x.cps.toList.take k).drop b.toNat with
    | nil => rw [hq] at e; exact absurd rfl e
    | cons a r => simp [h]
  · have e : (x.cps.toList.take k).drop b.toNat = [] := List.drop_of_length_le (by rw [hl]; exact (Int.le_toNat h0).mpr (Int.not_lt.mp h))
    rw [e]; simp [h]
theorem split_start (x : Str) : SplitInv x 0 [] 0 := ⟨fun _ => ⟨rfl, Int.le_refl _, Int.le_refl _, rfl⟩, fun h => by omega⟩
theorem take_next {x : Str} {k c : Nat} (h : x.cps[k]? = some c) : x.cps.toList.take (k + 1) = x.cps.toList.take k ++ [c] := by
  have h' : x.cps.toList[k]? = some c := by simpa using h
  rw [List.take_add_one, h']; rfl
/-- a word ends here, and it is kept -/
theorem split_cut {x : Str} {k : Nat} {ws : List Str} {b : Int} (hI : SplitInv x k ws b) (hk : k ≤ x.length) (hs : k = x.length ∨ ∃ c, x.cps[k]? = some c ∧ sp c = true) (hlt : b < k) :
    SplitInv x (k + 1) (ws ++ [Txt.slice x (some b) (some (k : Int))]) ((k : Int) + 1) := by
  obtain ⟨h1, h2, h3, h4⟩ := hI.1 hk
  have e := split_slice (x := x) h2 h3
  have hne := split_empty h2 hk
  rw [e]
  have hf : ((((stF (x.cps.toList.take k)).1 ++ [(stF (x.cps.toList.take k)).2]).map strOf).filter keepW) = ws ++ [strOf ((x.cps.toList.take k).drop b.toNat)] := by
    rw [List.map_append, List.filter_append, ← h1, ← h4]
    simp [keep_strOf, hne, hlt]
  refine ⟨fun hk' => ?_, fun hk' => ?_⟩
  · rcases hs with hs | ⟨c, hc, hsp⟩
    · omega
    · rw [take_next hc, stF_snoc]
      unfold wstep
      rw [if_pos hsp]
      refine ⟨hf.symm, by omega, by omega, ?_⟩
      rw [← take_next hc]
      exact List.drop_of_length_le (by rw [List.length_take]; omega)
  · have hk2 : k = x.length := by omega
    unfold wordsF
    have hl := len_list x
    rw [hk2, ← hl, List.take_length] at hf
    rw [hk2, ← hl, List.take_length]
    exact hf.symm
theorem split_skip {x : Str} {k : Nat} {ws : List Str} {b : Int} (hI : SplitInv x k ws b) (hk : k ≤ x.length) (hs : k = x.length ∨ ∃ c, x.cps[k]? = some c ∧ sp c = true) (hlt : ¬ b < k) :
    SplitInv x (k + 1) ws ((k : Int) + 1) := by
  obtain ⟨h1, h2, h3, h4⟩ := hI.1 hk
  have hne := split_empty h2 hk
  have hf : ((((stF (x.cps.toList.take k)).1 ++ [(stF (x.cps.toList.take k)).2]).map strOf).filter keepW) = ws := by
    rw [List.map_append, List.filter_append, ← h1, ← h4]
    simp [keep_strOf, hne, hlt]
  refine ⟨fun hk' => ?_, fun hk' => ?_⟩
  · rcases hs with hs | ⟨c, hc, hsp⟩
    · omega
    · rw [take_next hc, stF_snoc]
      unfold wstep
      rw [if_pos hsp]
      refine ⟨hf.symm, by omega, by omega, ?_⟩
      rw [← take_next hc]
      exact List.drop_of_length_le (by rw [List.length_take]; omega)
  · have hk2 : k = x.length := by omega
    unfold wordsF
    have hl := len_list x
    rw [hk2, ← hl, List.take_length] at hf
    exact hf.symm
theorem split_on {x : Str} {k c : Nat} {ws : List Str} {b : Int} (hI : SplitInv x k ws b) (hk : k < x.length) (hc : x.cps[k]? = some c) (hsp : sp c = false) : SplitInv x (k + 1) ws b := by
  obtain ⟨h1, h2, h3, h4⟩ := hI.1 (by omega)
  refine ⟨fun hk' => ?_, fun hk' => by omega⟩
  rw [take_next hc, stF_snoc]
  unfold wstep
  rw [if_neg (by rw [hsp]; decide)]
  refine ⟨h1, h2, by omega, ?_⟩
  have hl := len_list x
  rw [List.drop_append_of_le_length (by rw [List.length_take]; omega), h4]
end Mine
end
section
open PySem PySem.W PyProof.Rows PySem.Calls
set_option maxRecDepth 100000
set_option maxHeartbeats 8000000
namespace Mine
theorem space_e {c : Nat} (h : (Builtin.Str.occurrences (Str.ofString " \t\n\x0d") ⟨#[c]⟩ 0 (Str.ofString " \t\n\x0d").length 1).isEmpty = false) : Value.bool ((⟨#[c]⟩ : Str) != Str.ofString "") = .bool (sp c) := by
  rw [sp_yes h, empty_str]
  simp [strOf]
theorem is_space_c {w : World} {p : Program} {loose : List Str} {mean : ExcName → Option Value} {mg mb : Str → Option Value} {s₀ : Str} {c : Nat} {tx : Tok} {news : Led} (hs : s₀ = ⟨#[c]⟩) :
   Calls w p loose mean mg mb 21 1 [.str s₀ tx] news (fun v news' => v = .bool (sp c) ∧ news' = news) := by
  w_top off
  k_with_none
  subst hs
  unfold Calls
  k_fill
  intros
  rename_i hret
  refine wpAny_call ?_
  k_dflt cell_enter
  k_steps
  all_goals (
    refine' hret _ _ _ _ ⟨?e, rfl⟩ ?F ?N
    case F => k_asm
    case N => k_asm
    case e => first | rfl | exact space_e (by assumption))
section
def TestEnd (h₀ : Heap) (L : Addr) (m : Str → Option Value) (news : Led) (C : Prop) (s : Shared) (b : Bool) (s' : Shared) : Prop := ∃ h' tk', s' = { s with heap := h', toks := tk' } ∧ Fr h₀ L h' m ∧ News h₀ L h' news ∧ (b = true ↔ C)
theorem test_onceH {M : Model} {A : Around} {t : Sem Bool} {Q : Bool → Shared → Prop} {E : Value → Shared → Prop} {s : Shared} {h₀ : Heap} {L : Addr} {m : Str → Option Value} {news : Led} (C : Prop) (_F : Fr h₀ L s.heap m) (_N : News h₀ L s.heap news)
    (h : wpAny M A t (TestEnd h₀ L m news C s) E s)
    (kt : C → ∀ h' tk', Fr h₀ L h' m → News h₀ L h' news → Q true { s with heap := h', toks := tk' }) (kf : ¬ C → ∀ h' tk', Fr h₀ L h' m → News h₀ L h' news → Q false { s with heap := h', toks := tk' }) : wpAny M A t Q E s := by
  refine wpAny_mono h (fun b s' => ?_) fun _ _ e => e
  rintro ⟨h', tk', rfl, F', N', hb⟩
  cases b with
  | true => exact kt (hb.mp rfl) h' tk' F' N'
  | false => exact kf (fun hc => Bool.noConfusion (hb.mpr hc)) h' tk' F' N'
theorem space_none {x : Str} {k c : Nat} (h : x.cps[k]? = some c) (hs : sp c = false) (hk : ¬ k = x.length) : ¬ (k = x.length ∨ ∃ c, x.cps[k]? = some c ∧ sp c = true) := by
  rintro (h1 | ⟨c', h1, h2⟩)
  · exact hk h1
  · rw [h] at h1; injection h1 with h1; rw [← h1, hs] at h2; cases h2
theorem split_c {w : World} {p : Program} {loose : List Str} {mean : ExcName → Option Value} {mg mb : Str → Option Value} {x : Str} {tx : Tok} {news : Led}
   (hx : x.length ≤ 9) :
   Calls w p loose mean mg mb 28 2 [.str x tx] news
     (fun v news' => ∃ D vs n, v = .ref D ∧ StrsAre vs (wordsF x) ∧ news' = (D, listOf vs.toArray n) :: news) := by
  w_top off
  k_with_none
  k_with "room" => ktr_room
  k_with "all" => assumption
  k_with "tb" => ((case k1 => k_asm); (case k2 => k_asm); (case k3 => k_asm); (case k4 => k_asm); (case k5 => k_asm); (case kK => first | exact rfl | assumption); (case kd => first | exact Mine.room1 (by assumption) (by decide) | ktr_room | k_room); (case ku => first | exact Mine.unit1 (by assumption) (by decide) | ktr_units | k_units))
  k_with "my eval Call" => (k_here; k_dflt (refine Call_ ?_))
  k_with "my call ref" => (k_here; (with_reducible show wpAny _ _ (call (Value.ref 21) _) _ _ _); k_dflt (refine' Calls.use (is_space_c ?hs) ?k1 ?k2 ?k3 ?k4 ?k5 ?kK ?kd ?ku ?_; (k_extra "tb"); (case hs => assumption); intro v' news' h' tk' hR' F' N'; obtain ⟨e', en'⟩ := hR'; subst e'; subst en'; (try dsimp only); (try k_fold)))
  k_with "my exec For Name Call cons nil" => (k_here; k_dflt ((rename Fr _ _ _ _ => lF'); (with_unfolding_all refine' For_invVF lF' ?k1 ?k2 ?_; (case k1 => exact rfl); (case k2 => exact rfl)); k_whole))
  k_with "my pyIter ref" => (k_here; refine stopI ?_)
  k_with "my InvPostN" => (k_here; (with_reducible show InvPostN _ _ _ _ _ _ _ Flow.next _); k_dflt (refine stopI ?_))
  unfold Calls
  k_fill
  intros
  rename_i hret
  refine wpAny_call ?_
  k_dflt cell_enter
  k_steps
  unfold Stop
  rename_i tkb D h5 l1 D2 h4 l1b h3 h2 h1 F' N' h' tkk t1 u1 v1 hR F0 N0 a0
  refine' kst_range (σ := List Value × List Str × Int × Nat × Nat) (fun c => (D, listOf c.1.toArray c.2.2.2.2) :: news) (fun c => [(Str.ofString "begin", .int c.2.2.1 c.2.2.2.1)]) (fun c => StrsAre c.1 c.2.1) []
    (fun pre c => SplitInv x pre.length c.2.1 c.2.2.1 ∧ c.2.1.length ≤ pre.length) ([], [], 0, tkb, 0) (by rfl) hR (small0 (by omega) (by omega)) (rangeSize_nat _ _) F0 ?N0 .nil ?hk ⟨split_start x, Nat.le_refl _⟩ ?_ ?_
  case N0 => exact cb_drop N0 (fun p hp => .tail _ hp)
  case hk => exact List.forall_mem_singleton.mpr rfl
  · rintro ⟨vs, ws, b, tb, cap⟩ pre k t u h tk own hk hlt hoff hst ⟨hP1, hP2⟩ F1 N1
    dsimp only at hst hP1 hP2 F1 N1
    have hne : ∀ q ∈ news ++ own, q.1 ≠ D := fun q hq => (List.mem_append.mp hq).elim (fun h1 => Nat.ne_of_lt (l1 q h1)) (fun h1 => hoff q h1 D (.head _))
    have hvl : vs.length = ws.length := hst.length
    have hpl : pre.length ≤ x.length := by omega
    have hb := hP1.1 hpl
    have hb0 : 0 ≤ b := hb.2.1
    have hbk : b ≤ pre.length := hb.2.2.1
    clear F0 N0 F' N' l1 l1b hR a0 hoff hb
    have hk' : k = (pre.length : Int) := by omega
    subst hk'
    try k_fold
    k_with "my isTrue BoolOp" => (k_here; refine stopI ?_)
    k_steps
    unfold Stop
    refine test_onceH (pre.length = x.length ∨ ∃ c, x.cps[pre.length]? = some c ∧ sp c = true) (by k_asm) (by k_asm) ?_ ?_ ?_
    · k_with_none
      k_with "room" => ktr_room
      k_with "all" => assumption
      k_with "tb" => ((case k1 => k_asm); (case k2 => k_asm); (case k3 => k_asm); (case k4 => k_asm); (case k5 => k_asm); (case kK => first | exact rfl | assumption); (case kd => first | exact Mine.room1 (by assumption) (by decide) | ktr_room | k_room); (case ku => first | exact Mine.unit1 (by assumption) (by decide) | ktr_units | k_units))
      k_with "my eval Call" => (k_here; k_dflt (refine Call_ ?_))
      k_with "my call ref" => (k_here; (with_reducible show wpAny _ _ (call (Value.ref 21) _) _ _ _); k_dflt (refine' Calls.use (is_space_c ?hs) ?k1 ?k2 ?k3 ?k4 ?k5 ?kK ?kd ?ku ?_; (k_extra "tb"); (case hs => assumption); intro v' news' h' tk' hR' F' N'; obtain ⟨e', en'⟩ := hR'; subst e'; subst en'; (try dsimp only); (try k_fold)))
      by_cases hend : pre.length = x.length
      · k_steps
        all_goals first
          | exact absurd hend (by omega)
          | exact ⟨_, _, rfl, by k_asm, by k_asm, ⟨fun _ => .inl hend, fun _ => rfl⟩⟩
      · have hlt' : pre.length < x.cps.size := by have : x.cps.size = x.length := rfl; omega
        have hcc : x.cps[pre.length]? = some x.cps[pre.length] := by simp [hlt']
        have hitem : Txt.item x (pre.length : Int) = ⟨#[x.cps[pre.length]]⟩ := item_meets (by omega) (by simp [hlt'])
        k_steps
        all_goals first
          | exact absurd (by omega) hend
          | exact ⟨_, _, rfl, by k_asm, by k_asm, ⟨fun _ => .inr ⟨_, hcc, by assumption⟩, fun _ => rfl⟩⟩
          | exact ⟨_, _, rfl, by k_asm, by k_asm, ⟨fun h => Bool.noConfusion h, fun hC => absurd hC (space_none hcc (by assumption) hend)⟩⟩
    · intro hC h9 tk9 F9 N9
      k_with_none
      k_with "room" => ktr_room
      k_with "all" => assumption
      k_with "my InvPostN" => (k_here; (with_reducible show InvPostN _ _ _ _ _ _ _ Flow.next _); k_dflt (refine stopI ?_))
      k_steps
      all_goals unfold Stop
      all_goals (rename News _ _ _ _ => nE)
      all_goals (try simp only [List.push_toArray] at nE)
      all_goals first
        | (refine kst_end (vs ++ [_], ws ++ [Txt.slice x (some b) (some (pre.length : Int))], (pre.length : Int) + 1, _, cap + 1) (by k_asm) nE (List.forall_mem_cons.mpr ⟨List.Mem.head _, fun p hp => .tail _ (List.mem_append.mpr (.inl hp))⟩) (fun p hp => .tail _ (List.mem_append.mpr (.inr hp))) rfl (kct_snoc hst) (List.forall_mem_singleton.mpr rfl) ?_ ⟨by rw [List.length_append, List.length_singleton]; exact split_cut hP1 hpl hC (by assumption), by simp only [List.length_append, List.length_singleton]; omega⟩
           intro z h1 h2 h3
           have hz : z ≠ Str.ofString "begin" := h2 _ (List.Mem.head _)
           exact (if_neg hz).trans ((if_neg h1).trans ((if_neg hz).trans rfl)))
        | (refine kst_end (vs, ws, (pre.length : Int) + 1, _, cap) (by k_asm) nE (List.forall_mem_cons.mpr ⟨List.Mem.head _, fun p hp => .tail _ (List.mem_append.mpr (.inl hp))⟩) (fun p hp => .tail _ (List.mem_append.mpr (.inr hp))) rfl hst (List.forall_mem_singleton.mpr rfl) ?_ ⟨by rw [List.length_append, List.length_singleton]; exact split_skip hP1 hpl hC (by assumption), by simp only [List.length_append, List.length_singleton]; omega⟩
           intro z h1 h2 h3
           have hz : z ≠ Str.ofString "begin" := h2 _ (List.Mem.head _)
           exact (if_neg hz).trans ((if_neg h1).trans ((if_neg hz).trans rfl)))
    · intro hC h9 tk9 F9 N9
      k_with_none
      k_with "room" => ktr_room
      k_with "all" => assumption
      k_with "my InvPostN" => (k_here; (with_reducible show InvPostN _ _ _ _ _ _ _ Flow.next _); k_dflt (refine stopI ?_))
      k_steps
      unfold Stop
      rename News _ _ _ _ => nE
      have hne9 : ¬ pre.length = x.length := fun e => hC (.inl e)
      have hlt9 : pre.length < x.length := by omega
      have hlt' : pre.length < x.cps.size := hlt9
      have hcc : x.cps[pre.length]? = some x.cps[pre.length] := by simp [hlt']
      have hsp9 : sp x.cps[pre.length] = false := Bool.eq_false_iff.mpr fun e => hC (.inr ⟨_, hcc, e⟩)
      first
        | (refine kst_end (vs, ws, b, tb, cap) (by k_asm) nE (List.forall_mem_cons.mpr ⟨List.Mem.head _, fun p hp => .tail _ (List.mem_append.mpr (.inl hp))⟩) (fun p hp => .tail _ (List.mem_append.mpr (.inr hp))) rfl hst (List.forall_mem_singleton.mpr rfl) ?_ ⟨by rw [List.length_append, List.length_singleton]; exact split_on hP1 hlt9 hcc hsp9, by simp only [List.length_append, List.length_singleton]; omega⟩
           intro z h1 h2 h3
           have hz : z ≠ Str.ofString "begin" := h2 _ (List.Mem.head _)
           exact (if_neg h1).trans ((if_neg hz).trans rfl))
  · rintro ⟨vs, ws, b, tb, cap⟩ u h tk hst ⟨hP1, hP2⟩ F1 N1
    dsimp only at hst hP1 hP2 F1 N1
    rw [rangeKs_length] at hP1
    have hw := hP1.2 (by omega)
    subst hw
    clear F0 N0 F' N' hR
    try k_fold
    k_steps
    refine' hret _ _ _ _ ⟨D, vs, cap, rfl, hst, rfl⟩ ?F ?N
    case F => k_asm
    case N => k_asm
end
theorem words_small {x : Str} : ∀ w ∈ wordsF x, w.length ≤ x.length := by
  intro w hw
  have h := stF_len x.cps.toList
  rw [len_list] at h
  unfold wordsF at hw
  obtain ⟨l, hl, rfl⟩ := List.mem_map.mp (List.mem_filter.mp hw).1
  rw [strOf_len]
  rcases List.mem_append.mp hl with hl | hl
  · exact h.2.2 l hl
  · rw [List.mem_singleton.mp hl]; exact h.2.1
theorem words_few {x : Str} : (wordsF x).length ≤ x.length + 1 := by
  have h := stF_len x.cps.toList
  rw [len_list] at h
  unfold wordsF
  refine Nat.le_trans (List.length_filter_le _ _) ?_
  rw [List.length_map, List.length_append, List.length_singleton]
  omega
section
theorem normalized_c {w : World} {p : Program} {loose : List Str} {mean : ExcName → Option Value} {mg mb : Str → Option Value} {x : Str} {tx : Tok} {news : Led}
   (hx : x.length ≤ 9) :
   Calls w p loose mean mg mb 143 4 [.str x tx] news
     (fun v news' => ∃ t, v = .str (Txt.join (Str.ofString " ") (wordsF x)) t ∧ news' = news) := by
  w_top off
  k_with_none
  k_with "room" => ktr_room
  k_with "tb" => ((case k1 => k_asm); (case k2 => k_asm); (case k3 => k_asm); (case k4 => k_asm); (case k5 => k_asm); (case kK => first | exact rfl | assumption); (case kd => first | exact Mine.room1 (by assumption) (by decide) | ktr_room | k_room); (case ku => first | exact Mine.unit1 (by assumption) (by decide) | ktr_units | k_units))
  k_with "my eval Call" => (k_here; k_dflt (refine Call_ ?_))
  k_with "my call ref" => (k_here; (with_reducible show wpAny _ _ (call (Value.ref 28) _) _ _ _); k_dflt (refine' Calls.use (split_c ?hx) ?k1 ?k2 ?k3 ?k4 ?k5 ?kK ?kd ?ku ?_; (k_extra "tb"); (case hx => assumption); intro v' news' h' tk' hR' F' N'; obtain ⟨D', vs', n', e', hst', en'⟩ := hR'; subst e'; subst en'; (try dsimp only); (try k_fold)))
  k_with "my call builtin:str.join" => (k_here; k_dflt (refine' join_strs ?k1 ?k2 ?k3 ?k4 (by decide) ?_; (case k1 => exact News.isList (by k_asm) (by k_mem)); (case k2 => assumption); (case k3 => exact fun w hw => Nat.le_trans (words_small w hw) (by omega)); (case k4 => exact Nat.le_trans words_few (by omega)); intro t' k'; (try k_fold)))
  unfold Calls
  k_fill
  intros
  rename_i hret
  refine wpAny_call ?_
  k_dflt cell_enter
  k_steps
  refine' hret _ _ _ _ ⟨_, rfl, rfl⟩ ?F (cb_drop ?N ?S)
  case F => k_asm
  case N => k_asm
  case S => exact fun p hp => .tail _ hp
end
end Mine
end
section
open PySem PySem.W PyProof.Rows PySem.Calls PyProof.V PySem.Spec PyProof.Rows.LCg
set_option maxRecDepth 100000
set_option maxHeartbeats 8000000
namespace Mine
section
variable {prog : Program} {w : World} {A : Around} {E : Value → Shared → Prop} {s : Shared} {h₀ : Heap} {L : Addr} {m : Str → Option Value} {env : Env}
/-- one turn of a tested comprehension over the numbered signs of a text -/
def EnTurn (prog : Program) (w : World) (A : Around) (h₀ : Heap) (L : Addr) (m : Str → Option Value) (env : Env) (c elt : PySem.Expr) (a b : Str) (scope : Scope) (cl : List (Str × Addr)) (s : Shared) (x : Str) (lo hi : Int) (news : Led) : Prop :=
  ∀ (i k : Nat) (t u : Tok) I oI C oC D J oJ m₂ ys h tk (E' : Value → Shared → Prop), x.cps[i]? = some k → i < x.length → NsObj oC m₂ → m₂ a = some (.int (i : Int) t) → m₂ b = some (.str ⟨#[k]⟩ u) → Fr h₀ L h m → News h₀ L h ((I, oI) :: (C, oC) :: (D, lst ys) :: (J, oJ) :: news) → Off3 I C D ((J, oJ) :: news) → ((@Ne Nat I C) ∧ (@Ne Nat I D) ∧ (@Ne Nat C D)) →
      wpAny (model prog w) A (isTrue c (compEnvC scope cl C env) (eval c (compEnvC scope cl C env))) (fun okb s₃ => if okb = true then
        wpAny (model prog w) A (eval elt (compEnvC scope cl C env)) (CompEnd h₀ L m { s with heap := h, toks := tk } I oI C oC D (lst ys) (fun _ => True) (fun y news' => (lo ≤ (i : Int) + 1 ∧ (i : Int) + 1 < hi) ∧ (∃ t, y = .str ⟨#[k]⟩ t) ∧ news' = (J, oJ) :: news)) E' s₃
        else CompEnd h₀ L m { s with heap := h, toks := tk } I oI C oC D (lst ys) (fun _ => True) (fun _ news' => ¬ (lo ≤ (i : Int) + 1 ∧ (i : Int) + 1 < hi) ∧ news' = (J, oJ) :: news) .none s₃) E' { s with heap := h, toks := tk }

theorem not2 {a b c : Addr} (h : c ≠ a) (h2 : c ≠ b) : c ∉ [a, b] := fun hm => by
  rcases List.mem_cons.mp hm with e | hm
  · exact h e
  · exact h2 (List.mem_singleton.mp hm)
/-- what holds ahead of each turn -/
inductive EnInv (h₀ : Heap) (L : Addr) (m : Str → Option Value) (e it C D : Addr) (s₂ : Shared) (x : Str) (lo hi : Int) (news : Led) (St : Nat → Heap → Prop) (k : Nat) (s' : Shared) : Prop
  | mk (h' : Heap) (tk i : Nat) (ys : List Value) (m' : Str → Option Value) (ws : List Str) (hs : s' = { s₂ with heap := h', toks := tk }) (hile : i ≤ x.cps.size) (hk : k = x.cps.size + 1 - i) (hyl : ys.length ≤ i) (hit : (∃ old, IsEnum h' e it (i : Nat) old) ∧ St i h')
      (F : Fr h₀ L h' m) (hn : h'.Ns C m') (N : News h₀ L h' ((D, lst ys) :: news)) (hsa : StrsAre ys ws) (hcut : (ws ++ (cutL (x.cps.toList.drop i) ((i : Int) + 1) lo hi).map fun k => ⟨#[k]⟩) = (cutL x.cps.toList 1 lo hi).map fun k => ⟨#[k]⟩)
theorem en_block {elt iter c : PySem.Expr} {a b : Str} {pa pb tp : Pos} {kk : Nat} {scope : Scope} {cl : List (Str × Addr)} {pos : Pos} {s₂ : Shared} {e it : Addr} {x : Str} {lo hi : Int} {news : Led} {St : Nat → Heap → Prop}
    {Fin : List Value → List (Addr × Obj) → Prop} {RR : Value → Addr → Result → Shared → Prop}
    (hh : A.handled = none) (DD : Draws prog w A.in1 it [it] x.cps.size (fun i v => ∃ c u, x.cps[i]? = some c ∧ v = .str ⟨#[c]⟩ u) St) (hne : e ≠ it) (hsz : x.length ≤ sizeLine)
    (he : IsEnum s₂.heap e it 0 .none) (hst : St 0 s₂.heap)
    (hcell : ∀ y ∈ scope.names, y.2 ≠ .cell) (hkind : scope.kind = .function) (hxa : scope.names.lookup a = some .local) (hxb : scope.names.lookup b = some .local) (hab : ¬ a = b)
    (F : Fr h₀ L s₂.heap m) (N : News h₀ L s₂.heap news) (hIL : L ≠ e) (hIL2 : L ≠ it) (hI₀ : h₀.get? e = none) (hI₂ : h₀.get? it = none) (off : ∀ p ∈ news, p.1 ≠ e) (off2 : ∀ p ∈ news, p.1 ≠ it)
    (R : EnTurn prog w A h₀ L m env c elt a b scope cl s₂ x lo hi news)
    (fin : ∀ ys, StrsAre ys ((cutL x.cps.toList 1 lo hi).map fun k => ⟨#[k]⟩) → Fin ys news)
    (hRR : ∀ D C h tk m' ys, Fr h₀ L h m → News h₀ L h ((D, lst ys) :: news) → Off1 D news → h.Ns C m' → h₀.get? C = none → h₀.get? D = none → C ≠ L → D ≠ L → C ≠ D → (∀ p ∈ news, p.1 ≠ C) → Fin ys news → RR (.ref D) C (.ok .next) { s₂ with heap := h, toks := tk }) :
    wpAny (model prog w) A (newList []) (fun acc s₃ => wpAny (model prog w) A (newFunctionEnv scope env.globals cl [] env.qual none .none (some env)) (fun cenv s₄ =>
      codeAny (model prog w) A (.compStart (.ListComp elt [⟨.Tuple [.Name a pa, .Name b pb] kk tp, iter, [c], 0⟩] scope pos) 0 (.ref e) acc { cenv with scope := relabel scope env }) (RR acc cenv.locals) s₄) E s₃) E s₂ := by
  refine wpAny_newObj_type (wpAny_newFunctionEnv hcell (by intro y hy; simp at hy) (fun h₁ hns₁ hsb₁ => ?_) hkind)
  dsimp only at hns₁ hsb₁ ⊢
  generalize hH2 : s₂.heap.push { cls := .type "list", dict := none, data := .seq ([] : List Value).toArray } = H2 at hns₁ hsb₁ ⊢
  have hC : H2.objs.size = s₂.heap.objs.size + 1 := by rw [← hH2, Heap.size_push]
  have hDC : s₂.heap.objs.size ≠ H2.objs.size := by rw [hC]; exact Nat.ne_of_lt (Nat.lt_succ_self _)
  have below : ∀ b, b < s₂.heap.objs.size → b ≠ H2.objs.size ∧ b ≠ s₂.heap.objs.size := fun b hb => ⟨by rw [hC]; exact Nat.ne_of_lt (Nat.lt_succ_of_lt hb), Nat.ne_of_lt hb⟩
  have hIlt : e < s₂.heap.objs.size := Heap.lt_size he
  have hItlt : it < s₂.heap.objs.size := by obtain ⟨_, y⟩ := DD.live _ _ hst; exact Heap.lt_size y
  have old : ∀ b o, s₂.heap.get? b = some o → h₁.get? b = some o := fun b o e => hsb₁.extBut b o (below b (Heap.lt_size e)).1 (Heap.get?_push_of_some _ (hH2 ▸ Heap.get?_push_of_some _ e))
  have hacc : h₁.get? s₂.heap.objs.size = some (lst []) := hsb₁.extBut _ _ hDC (Heap.get?_push_of_some _ (hH2 ▸ Heap.get?_push_size _ rfl))
  have W := WalksT.enumerateD DD e hne (by simpa using hne) (by simp)
  have hst₁ : (∃ old, IsEnum h₁ e it (0 : Nat) old) ∧ St 0 h₁ := W.frame 0 s₂.heap h₁ ⟨⟨_, he⟩, hst⟩ (fun b _ o q => old b o q)
  have fresh : ∀ a, s₂.heap.objs.size ≤ a → s₂.heap.get? a = none := fun a ha => by
    cases e : s₂.heap.get? a with
    | none => rfl
    | some o' => exact absurd (Heap.lt_size e) (Nat.not_lt.mpr ha)
  have fresh₀ : ∀ a, s₂.heap.objs.size ≤ a → h₀.get? a = none := fun a ha => by
    cases e : h₀.get? a with
    | none => rfl
    | some o' => have := F.keep a o' e; rw [fresh a ha] at this; cases this
  have hD₀ : h₀.get? s₂.heap.objs.size = none := fresh₀ _ (Nat.le_refl _)
  have hC₀ : h₀.get? H2.objs.size = none := fresh₀ _ (by rw [hC]; exact Nat.le_succ _)
  have hLlt : L < s₂.heap.objs.size := F.ns.lt
  have hDL : s₂.heap.objs.size ≠ L := Ne.symm (below L hLlt).2
  have hCL : H2.objs.size ≠ L := Ne.symm (below L hLlt).1
  have hCI : e ≠ H2.objs.size := (below e hIlt).1
  have hDI : e ≠ s₂.heap.objs.size := (below e hIlt).2
  have hCI2 : it ≠ H2.objs.size := (below it hItlt).1
  have hDI2 : it ≠ s₂.heap.objs.size := (below it hItlt).2
  have off₀ : Off3 e H2.objs.size s₂.heap.objs.size news := Off3.of fun p hp => ⟨off p hp, (below _ (Heap.lt_size (N p hp).1)).1, (below _ (Heap.lt_size (N p hp).1)).2⟩
  have off3 := off₀.mem
  have hlx : x.cps.size = x.length := rfl
  have loop : ∀ s₃ : Shared, s₃ = { s₂ with heap := h₁, toks := s₂.toks + ([] : List (Str × Value)).length } →
      codeAny (model prog w) A (.compLoop (.ListComp elt [⟨.Tuple [.Name a pa, .Name b pb] kk tp, iter, [c], 0⟩] scope pos) 0 (.ref e) (.ref s₂.heap.objs.size) (compEnvC scope cl H2.objs.size env))
        (RR (.ref s₂.heap.objs.size) H2.objs.size) s₃ := by
    rintro s₃ rfl
    refine kct_loop
      (EnInv h₀ L m e it H2.objs.size s₂.heap.objs.size s₂ x lo hi news St) ?_ (x.cps.size + 1)
      ⟨h₁, _, 0, [], _, [], rfl, Nat.zero_le _, rfl, Nat.le_refl _, hst₁, F.keeps old, hns₁, fun p hp => ?_, .nil, by simp⟩
    · rintro k s' ⟨h', tk, i, ys, m', ws, rfl, hile, rfl, hyl, hit', F', hn', N', hsa, hcut⟩
      by_cases hlt : i < x.cps.size
      · refine W.item i _ _ _ hlt hit' fun T vals h₂ tk₂ hPt hT0 hT hMd hk₂ => ?_
        obtain ⟨t, xv, ⟨kc, u, hkc, rfl⟩, rfl⟩ := hPt
        refine W.go _ _ _ i T _ _ _ hMd fun h₃ hst₃ hk₃ => ?_
        have hTw : T ∉ [e, it] := W.apart i T h₂ hMd
        have hT₃ : h₃.IsTuple T #[.int i t, .str ⟨#[kc]⟩ u] := hT.at fun o q => hk₃ T o hTw q
        have up₃ : ∀ c o, c ≠ e → c ≠ it → h'.get? c = some o → h₃.get? c = some o := fun c o hc hc2 q => hk₃ c o (not2 hc hc2) (hk₂ c o (not2 hc hc2) q)
        refine kcp_assign (env := compEnvC scope cl H2.objs.size env) hh hT₃ (lookup_relabel_local hxa) (lookup_relabel_local hxb) (by simp [compEnvC, relabel, hkind]) (hn'.at' fun o q => up₃ _ o (Ne.symm hCI) (Ne.symm hCI2) q) fun h₄ tk₄ hn₄ hs₄ => ?_
        have up : ∀ c o, c ≠ e → c ≠ it → c ≠ H2.objs.size → h'.get? c = some o → h₄.get? c = some o := fun c o h1 h2 h3 q => hs₄ c o h3 (up₃ c o h1 h2 q)
        have hst₄ := W.frame (i + 1) h₃ h₄ hst₃ (fun b hb o q => hs₄ b o (by
          rcases List.mem_cons.mp hb with rfl | hb
          · exact hCI
          · rw [List.mem_singleton.mp hb]; exact hCI2) q)
        obtain ⟨⟨oldv, heI⟩, hstI⟩ := id hst₄
        obtain ⟨oIt, hoIt⟩ := DD.live _ _ hstI
        obtain ⟨oI, heI'⟩ : ∃ oI : Obj, h₄.get? e = some oI := ⟨_, heI⟩
        obtain ⟨oC, heC, hoC⟩ := ns_obj hn₄
        have F₄ : Fr h₀ L h₄ m := ⟨F'.ns.at' fun o q => up _ o hIL hIL2 (Ne.symm hCL) q, fun c o q => up c o (fun z => by rw [z, hI₀] at q; cases q) (fun z => by rw [z, hI₂] at q; cases q) (fun z => by rw [z, hC₀] at q; cases q) (F'.keep c o q), F'.above⟩
        have N₄' : News h₀ L h₄ ((e, oI) :: (H2.objs.size, oC) :: (s₂.heap.objs.size, lst ys) :: (it, oIt) :: news) := fun q hq => by
          rcases List.mem_cons.mp hq with rfl | hq
          · exact ⟨heI', Ne.symm hIL, hI₀⟩
          · rcases List.mem_cons.mp hq with rfl | hq
            · exact ⟨heC, hCL, hC₀⟩
            · have hq2 : q = (it, oIt) ∨ q ∈ (s₂.heap.objs.size, lst ys) :: news := by
                rcases List.mem_cons.mp hq with h | hq
                · exact .inr (h ▸ .head _)
                · rcases List.mem_cons.mp hq with h | hq
                  · exact .inl h
                  · exact .inr (.tail _ hq)
              clear hq
              rcases hq2 with rfl | hq
              · exact ⟨hoIt, Ne.symm hIL2, hI₂⟩
              have z := N' q hq
              refine ⟨up _ _ ?_ ?_ ?_ z.1, z.2⟩
              · rcases List.mem_cons.mp hq with rfl | hq
                · exact Ne.symm hDI
                · exact (off3 q hq).1
              · rcases List.mem_cons.mp hq with rfl | hq
                · exact Ne.symm hDI2
                · exact off2 q hq
              · rcases List.mem_cons.mp hq with rfl | hq
                · exact hDC
                · exact (off3 q hq).2.1
        have off4 : Off3 e H2.objs.size s₂.heap.objs.size ((it, oIt) :: news) := Off3.of fun p hp => by
          rcases List.mem_cons.mp hp with rfl | hp
          · exact ⟨Ne.symm hne, hCI2, hDI2⟩
          · exact off3 p hp
        have hkl : x.cps.toList[i]'(by simpa using hlt) = kc := by
          have := hkc
          rw [Array.getElem?_eq_getElem hlt] at this
          simpa using Option.some.inj this
        have hdrop : x.cps.toList.drop i = kc :: x.cps.toList.drop (i + 1) := by
          rw [List.drop_eq_getElem_cons (by simpa using hlt), hkl]
        have fin : ∀ (ys' : List Value) ws' (h₅ : Heap) (tk₅ : Nat), ys'.length ≤ i + 1 → Fr h₀ L h₅ m → News h₀ L h₅ ((e, oI) :: (H2.objs.size, oC) :: (s₂.heap.objs.size, lst ys') :: (it, oIt) :: news) → StrsAre ys' ws' →
            (ws' ++ (cutL (x.cps.toList.drop (i + 1)) (((i + 1 : Nat) : Int) + 1) lo hi).map fun k => ⟨#[k]⟩) = ((cutL x.cps.toList 1 lo hi).map fun k => (⟨#[k]⟩ : Str)) →
            ∃ q', q' < x.cps.size + 1 - i ∧ EnInv h₀ L m e it H2.objs.size s₂.heap.objs.size s₂ x lo hi news St q' { s₂ with heap := h₅, toks := tk₅ } := by
          intro ys' ws' h₅ tk₅ hl F₅ N₅ hs5 hc5
          have zI := (N₅ (e, oI) List.mem_cons_self).1
          have zC := (N₅ (H2.objs.size, oC) (List.mem_cons_of_mem _ List.mem_cons_self)).1
          have zT := (N₅ (it, oIt) (List.mem_cons_of_mem _ (List.mem_cons_of_mem _ (List.mem_cons_of_mem _ List.mem_cons_self)))).1
          have hst₅ := W.frame (i + 1) h₄ h₅ hst₄ (fun b hb o q => by
            rcases List.mem_cons.mp hb with rfl | hb
            · rw [heI'] at q; cases q; exact zI
            · rw [List.mem_singleton.mp hb] at q ⊢; rw [hoIt] at q; cases q; exact zT)
          exact ⟨x.cps.size + 1 - (i + 1), Nat.sub_lt_sub_left (Nat.lt_succ_of_lt hlt) (Nat.lt_succ_self i), ⟨h₅, tk₅, i + 1, ys', _, ws', rfl, hlt, rfl, hl, hst₅, F₅, hoC.ns zC, List.forall_mem_cons.mpr ⟨N₅ _ (.tail _ (.tail _ (.head _))), fun q hq => N₅ q (.tail _ (.tail _ (.tail _ (.tail _ hq))))⟩, hs5, hc5⟩⟩
        rw [hdrop, cutL] at hcut
        refine wpAny_mono (R i kc t u e oI H2.objs.size oC s₂.heap.objs.size it oIt _ ys h₄ _ _ hkc hlt hoC (by simp [hab]) (by simp) F₄ N₄' off4 ⟨hCI, hDI, Ne.symm hDC⟩) (fun okb s₅ h₅ => ?_) fun _ _ e => e
        cases okb with
        | false =>
          simp only [Bool.false_eq_true, if_false] at h₅ ⊢
          obtain ⟨h₅, tk₅, news₅, rfl, F₅, N₅, off₅, -, hno, rfl⟩ := h₅
          rw [if_neg hno] at hcut
          exact fin ys ws h₅ tk₅ (Nat.le_succ_of_le hyl) F₅ N₅ hsa hcut
        | true =>
          simp only [if_true] at h₅ ⊢
          refine wpAny_mono h₅ (fun y s₆ h₆ => ?_) fun _ _ e => e
          obtain ⟨h₅, tk₅, news₅, rfl, F₅, N₅, off₅, -, hyes, ⟨ty, rfl⟩, rfl⟩ := h₆
          rw [if_pos hyes] at hcut
          have zI := (N₅ (e, oI) List.mem_cons_self).1
          have zC := (N₅ (H2.objs.size, oC) (List.mem_cons_of_mem _ List.mem_cons_self)).1
          have zD := (N₅ (s₂.heap.objs.size, lst ys) (List.mem_cons_of_mem _ (List.mem_cons_of_mem _ List.mem_cons_self))).1
          have N₅' : News h₀ L h₅ ((it, oIt) :: news) := fun q hq => N₅ q (List.mem_cons_of_mem _ (List.mem_cons_of_mem _ (List.mem_cons_of_mem _ hq)))
          refine append_at (hsz := by show ys.toArray.size ≤ sizeLine; rw [List.size_toArray]; exact Nat.le_trans hyl (Nat.le_trans hile hsz)) zD fun h₆ hs₆ hD₆ => ?_
          have off5 := off₅.mem
          refine fin (ys ++ [.str ⟨#[kc]⟩ ty]) (ws ++ [⟨#[kc]⟩]) h₆ _ (by rw [List.length_append, List.length_singleton]; exact Nat.succ_le_succ hyl) (F₅.change hs₆ hDL hD₀) (fun q hq => ?_) (kct_snoc hsa) (by
            rw [← hcut]
            simp [Int.add_assoc])
          rcases List.mem_cons.mp hq with rfl | hq
          · exact ⟨hs₆.extBut e oI hDI zI, Ne.symm hIL, hI₀⟩
          rcases List.mem_cons.mp hq with rfl | hq
          · exact ⟨hs₆.extBut _ oC (Ne.symm hDC) zC, hCL, hC₀⟩
          rcases List.mem_cons.mp hq with rfl | hq
          · exact ⟨hD₆.trans (congrArg some (lst_snoc ys _)), hDL, hD₀⟩
          · exact ⟨hs₆.extBut _ _ (off5 q hq).2.2 (N₅' q hq).1, (N₅' q hq).2⟩
      · have hin : i = x.cps.size := Nat.le_antisymm hile (Nat.not_lt.mp hlt)
        subst hin
        refine W.done _ _ _ hit' fun h₂ tk₂ hk₂ => ?_
        have hd : x.cps.toList.drop x.cps.size = [] := List.drop_eq_nil_of_le (by simp)
        rw [hd] at hcut
        simp only [cutL, List.map_nil, List.append_nil] at hcut
        subst hcut
        have hk : ∀ c o, c ≠ e → c ≠ it → h'.get? c = some o → h₂.get? c = some o := fun c o h1 h2 q => hk₂ c o (not2 h1 h2) q
        refine hRR _ _ h₂ tk₂ m' ys ⟨F'.ns.at' fun o q => hk _ o hIL hIL2 q, fun c o q => hk c o (fun z => by rw [z, hI₀] at q; cases q) (fun z => by rw [z, hI₂] at q; cases q) (F'.keep c o q), F'.above⟩ (fun p hp => ⟨hk _ _ ?_ ?_ (N' p hp).1, (N' p hp).2⟩) off₀.one (hn'.at' fun o q => hk _ o (Ne.symm hCI) (Ne.symm hCI2) q) hC₀ hD₀ hCL hDL (Ne.symm hDC) (fun p hp => (off3 p hp).2.1) (fin ys hsa)
        · rcases List.mem_cons.mp hp with rfl | hp
          · exact Ne.symm hDI
          · exact (off3 p hp).1
        · rcases List.mem_cons.mp hp with rfl | hp
          · exact Ne.symm hDI2
          · exact off2 p hp
    · rcases List.mem_cons.mp hp with rfl | hp
      · exact ⟨hacc, hDL, hD₀⟩
      · exact ⟨old _ _ (N p hp).1, (N p hp).2⟩
  exact codeAny_compStart_list (loop _ rfl) (wpAny_pyIter_enum hst₁.1.choose_spec (loop _ rfl))
inductive EnSrc (prog : Program) (w : World) (A : Around) (h₀ : Heap) (L : Addr) (m : Str → Option Value) (env : Env) (c elt : PySem.Expr) (a b : Str) (scope : Scope) (cl : List (Str × Addr)) (Fin : Shared → List Value → Led → Prop) (xv : Value) (s₁ : Shared) : Prop
  | mk (e it : Addr) (x : Str) (tx : Tok) (lo hi : Int) (news : Led) (hv : xv = .ref e) (hh : A.handled = none) (hne : e ≠ it) (h9 : x.length ≤ 9) (he : IsEnum s₁.heap e it 0 .none) (hit : s₁.heap.IsStrIter it (strIterType x) x tx 0) (F : Fr h₀ L s₁.heap m) (N : News h₀ L s₁.heap news)
    (hL1 : L ≠ e) (hL2 : L ≠ it) (h01 : h₀.get? e = none) (h02 : h₀.get? it = none) (off : ∀ p ∈ news, p.1 ≠ e) (off2 : ∀ p ∈ news, p.1 ≠ it) (R : EnTurn prog w A h₀ L m env c elt a b scope cl s₁ x lo hi news)
    (fin : ∀ ys, StrsAre ys ((cutL x.cps.toList 1 lo hi).map fun k => ⟨#[k]⟩) → Fin s₁ ys news)
theorem en_ListComp {elt iter c : PySem.Expr} {a b : Str} {pa pb tp : Pos} {kk : Nat} {scope : Scope} {cl : List (Str × Addr)} {pos : Pos} {Q : Value → Shared → Prop} (_F₀ : Fr h₀ L s.heap m)
    (hclos : closureFor scope env = pure cl) (hcell : ∀ y ∈ scope.names, y.2 ≠ .cell) (hkind : scope.kind = .function)
    (hnames : ∀ y ∈ scope.names, y.2 = .local → scope.names.lookup y.1 = some .local) (hxa : scope.names.lookup a = some .local) (hxb : scope.names.lookup b = some .local) (hab : ¬ a = b)
    (h : wpAny (model prog w) A (eval iter env) (EnSrc prog w A h₀ L m env c elt a b scope cl (fun s₂ => FinE h₀ L m s₂ Q)) E s)
    (hs : ∀ x, foldedSetIterable iter env x = pure x := by intro _; rfl) :
    wpAny (model prog w) A (eval (.ListComp elt [⟨.Tuple [.Name a pa, .Name b pb] kk tp, iter, [c], 0⟩] scope pos) env) Q E s := by
  rw [eval_ListComp]
  refine wpAny_comprehension_free (use := none) rfl hs hclos hkind hnames (wpAny_mono h (fun xv s₁ h₁ => ?_) fun _ _ e => e)
  obtain ⟨e, it, x, tx, lo, hi, news, rfl, hh, hne, h9, he, hit, F, N, hL1, hL2, h01, h02, off, off2, R, fin⟩ := h₁
  refine wpAny_pyIter_enum he ?_
  have hsz : x.length ≤ sizeLine := by rw [PySem.sizeLine_eq]; omega
  have hRR : ∀ D C h tk m' ys, Fr h₀ L h m → News h₀ L h ((D, lst ys) :: news) → Off1 D news → h.Ns C m' → h₀.get? C = none → h₀.get? D = none → C ≠ L → D ≠ L → C ≠ D → (∀ p ∈ news, p.1 ≠ C) → FinE h₀ L m s₁ Q ys news →
      ∃ m', h.Ns C m' ∧ ∀ h'', Heap.SameBut C h h'' → Q (.ref D) { s₁ with heap := h'', toks := tk } := by
    intro D C h tk m' ys F' N' o1 hn hC₀ hD₀ hCL hDL hCD offC fin
    refine ⟨m', hn, fun h'' hs'' => fin D h'' tk (F'.change hs'' hCL hC₀) (fun p hp => ?_) o1⟩
    refine ⟨hs''.extBut _ _ ?_ (N' p hp).1, (N' p hp).2⟩
    rcases List.mem_cons.mp hp with rfl | hp
    · exact Ne.symm hCD
    · exact offC p hp
  cases ha : x.cps.all (· < 128)
  · have hT : strIterType x = "str_iterator" := by simp [strIterType, ha]
    rw [hT] at hit
    exact en_block (lo := lo) (hi := hi) hh (Draws.strWide (by exact hh) it x tx) hne hsz he hit hcell hkind hxa hxb hab F N hL1 hL2 h01 h02 off off2 R fin hRR
  · have hT : strIterType x = "str_ascii_iterator" := by simp [strIterType, ha]
    rw [hT] at hit
    exact en_block (lo := lo) (hi := hi) hh (Draws.strAscii (by exact hh) it x tx) hne hsz he hit hcell hkind hxa hxb hab F N hL1 hL2 h01 h02 off off2 R fin hRR
theorem en_call {x : Str} {tx : Tok} {c elt : PySem.Expr} {a b : Str} {scope : Scope} {cl : List (Str × Addr)} {news : Led} {Fin : Shared → List Value → Led → Prop} (lo hi : Int)
    (hh : A.handled = none) (h9 : x.length ≤ 9) (F : Fr h₀ L s.heap m) (N : News h₀ L s.heap news)
    (R : ∀ g, EnTurn prog w A h₀ L m env c elt a b scope cl { s with heap := g } x lo hi news)
    (fin : ∀ g ys, StrsAre ys ((cutL x.cps.toList 1 lo hi).map fun k => ⟨#[k]⟩) → Fin { s with heap := g } ys news) :
    wpAny (model prog w) A (call (.type "enumerate") [.str x tx]) (EnSrc prog w A h₀ L m env c elt a b scope cl Fin) E s := by
  refine call_enumerate_str fun h' hE hS hz hk => ?_
  have hf : ∀ a, s.heap.objs.size ≤ a → h₀.get? a = none := fun a ha => by
    cases e : h₀.get? a with
    | none => rfl
    | some o' => exact absurd (Heap.lt_size (F.keep a o' e)) (Nat.not_lt.mpr ha)
  have hLlt : L < s.heap.objs.size := F.ns.lt
  have hN : ∀ p ∈ news, p.1 < s.heap.objs.size := fun p hp => Heap.lt_size (N p hp).1
  exact ⟨_, _, x, tx, lo, hi, news, rfl, hh, Nat.ne_of_gt (Nat.lt_succ_self _), h9, hE, hS, F.keeps hk, fun p hp => ⟨hk _ _ (N p hp).1, (N p hp).2⟩, Nat.ne_of_lt (Nat.lt_succ_of_lt hLlt), Nat.ne_of_lt hLlt, hf _ (Nat.le_succ _), hf _ (Nat.le_refl _), fun p hp => Nat.ne_of_lt (Nat.lt_succ_of_lt (hN p hp)), fun p hp => Nat.ne_of_lt (hN p hp), R _, fin _⟩
end
end Mine
end
section
open PySem PySem.W PyProof.Rows PySem.Calls
set_option maxRecDepth 100000
set_option maxHeartbeats 8000000
namespace Mine
theorem nearF_small {a b m : Int} (hab : NumOk a b) (h : nearF a b = some m) : -1000000 ≤ m ∧ m ≤ 1000000 := by
  unfold NumOk at hab
  unfold nearF at h
  split at h
  · split at h
    · cases h
    · split at h <;> (injection h with h; omega)
  · injection h with h
    rcases hab with ⟨h1, _⟩ | ⟨h1, h2, h3⟩ | ⟨h1, h2, h3, h4⟩
    · omega
    · subst h1; omega
    · subst h1; omega
theorem near_m {w : World} {p : Program} {loose : List Str} {mean : ExcName → Option Value} {mg mb : Str → Option Value} {r : Addr} {a b : Int} {ta tb : Tok} {n : Nat} {news : Led}
   (hm : (r, tupO a b ta tb n) ∈ news) (hab : NumOk a b) :
   Calls w p loose mean mg mb 190 1 [.ref r] news
     (fun v news' => (nearF a b = none ∧ v = .none ∧ news' = news) ∨ (∃ m t, nearF a b = some m ∧ -1000000 ≤ m ∧ m ≤ 1000000 ∧ v = .int m t ∧ news' = news)) :=
  Calls.weak (near_c (news := news) hab) (List.forall_mem_cons.mpr ⟨hm, fun _ h => h⟩) fun v news' ⟨h1, h2⟩ => ⟨news, by
    rcases h1 with ⟨hb, ha, e⟩ | ⟨m, t, h, e⟩
    · exact .inl ⟨by unfold nearF; rw [if_pos hb, if_pos ha], e, rfl⟩
    · exact .inr ⟨m, t, h, (nearF_small hab h).1, (nearF_small hab h).2, e, rfl⟩, fun _ q hq => h2 ▸ .tail _ hq⟩
section
variable {w : World} {p : Program} {loose : List Str} {mean : ExcName → Option Value} {mg mb : Str → Option Value}
  {dp un : Nat} {gd : Option (List Code)} {cn : Str} {cs : Scope} {a₀ : Addr} {ccd : Value} {cl : List (Str × Addr)} {outer : List Env} {A₀ : Around} {base h₀ : Heap} {L : Addr} {m : Str → Option Value} {s : Shared} {Q E : Value → Shared → Prop} {news : Led}
theorem near_u {r : Addr} {a b : Int} {ta tb : Tok} {n : Nat} (hm : (r, tupO a b ta tb n) ∈ news) (hab : NumOk a b)
    (B : Below A₀ base outer h₀) (F : Fr h₀ L s.heap m) (X : (hd.heap_39 w.params).In h₀) (N : News h₀ L s.heap news) (T : Top p loose mean mg mb h₀) (hk : cs.kind = .function) (hd : dp + 1 < recursionLimit) (hu : un + 8 * 1 < cLine)
    (non : ∀ h' tk', nearF a b = none → Fr h₀ L h' m → News h₀ L h' news → Q .none { s with heap := h', toks := tk' })
    (num : ∀ k t h' tk', nearF a b = some k → -1000000 ≤ k → k ≤ 1000000 → Fr h₀ L h' m → News h₀ L h' news → Q (.int k t) { s with heap := h', toks := tk' }) :
    wpAny (model PySem.Challenge.rw_nu0054_01.row.prog w) (ktrTop dp un gd cn cs L a₀ ccd cl outer) (call (.ref 190) [.ref r]) Q E s := by
  refine Calls.use (near_m hm hab) B F X N T hk hd hu ?_
  rintro v news' h' tk' (⟨h1, rfl, rfl⟩ | ⟨k, t, h1, h2, h3, rfl, rfl⟩) F' N'
  · exact non h' tk' h1 F' N'
  · exact num k t h' tk' h1 h2 h3 F' N'
end
theorem en_call2 {prog : Program} {w : World} {A : Around} {E : Value → Shared → Prop} {s : Shared} {h₀ : Heap} {L : Addr} {m : Str → Option Value} {env : Env} {x : Str} {tx : Tok} {c elt : PySem.Expr} {a b : Str} {scope : Scope} {cl : List (Str × Addr)} {news : Led} {Fin : Shared → List Value → Led → Prop} {lo a' b' : Int} (_hn : nearF a' b' = some lo)
    (hh : A.handled = none) (h9 : x.length ≤ 9) (F : Fr h₀ L s.heap m) (N : News h₀ L s.heap news)
    (R : ∀ g, EnTurn prog w A h₀ L m env c elt a b scope cl { s with heap := g } x lo 1000000 news)
    (fin : ∀ g ys, StrsAre ys ((cutL x.cps.toList 1 lo 1000000).map fun k => ⟨#[k]⟩) → Fin { s with heap := g } ys news) :
    wpAny (model prog w) A (call (.type "enumerate") [.str x tx]) (EnSrc prog w A h₀ L m env c elt a b scope cl Fin) E s := en_call lo 1000000 hh h9 F N R fin
theorem p6l : (10 : Int) ^ Int.toNat 6 = 1000000 := by decide
theorem cut_small {l : List Nat} : ∀ w ∈ (l.map fun k => (⟨#[k]⟩ : Str)), w.length ≤ 15 := by
  intro w hw
  obtain ⟨k, _, rfl⟩ := List.mem_map.mp hw
  exact (by decide : 1 ≤ 15)
theorem cut_len {x : Str} {lo hi : Int} (hx : x.length ≤ 9) : ((cutL x.cps.toList 1 lo hi).map fun k => (⟨#[k]⟩ : Str)).length ≤ 1048576 := by
  rw [List.length_map]
  refine Nat.le_trans cutL_len ?_
  rw [show x.cps.toList.length = x.length by simp [Str.length]]
  exact Nat.le_trans hx (by decide)
theorem join_cut (l : List Nat) : Txt.join (Str.ofString "") (l.map fun k => (⟨#[k]⟩ : Str)) = strOf l := by
  rw [join_empty, List.map_map]
  congr 1
  induction l with
  | nil => rfl
  | cons a r ih => simpa using ih
theorem part_none {x : Str} {a b : Int} (h : nearF a b = none) : Str.ofString "" = partF x a b none := by
  unfold partF
  rw [h]
  exact empty_str
theorem part_mul {x : Str} {a b m p : Int} (h : nearF a b = some m) (hm : (m = 1000000 ∨ m = -1000000) ∧ 1000000 = -m) (hp : p = if decide (m < 0) = true then 1 else 0) : Txt.mul x p = partF x a b none := by
  subst hp
  unfold partF lenF
  rw [h]
  show _ = if _ then _ else _
  rw [if_pos hm]
  have h1 : m < 0 := by omega
  simp [h1, Txt.mul]
theorem part_cut2 {x : Str} {a b m : Int} (h : nearF a b = some m) (hm : ¬ ((m = 1000000 ∨ m = -1000000) ∧ 1000000 = -m)) : Txt.join (Str.ofString "") ((cutL x.cps.toList 1 m 1000000).map fun k => (⟨#[k]⟩ : Str)) = partF x a b none := by
  rw [join_cut]
  unfold partF lenF
  rw [h]
  show _ = if _ then _ else _
  rw [if_neg hm]
  rfl
theorem storeU_C {M : Model} {A : Around} {E : Value → Shared → Prop} {s : Shared} {name : Str} {scope : Scope} {L a : Addr} {cd : Value} {h₀ : Heap} {m : Str → Option Value} {news : Led} {x : Str} {v : Value} {Q : Unit → Shared → Prop} {g : Obj → Led} {c : Addr} {o : Obj} {v₀ : Option Value} (F : Fr h₀ L s.heap m) (N : News h₀ L s.heap news) (hc : (cellsFrom (L + 1) scope.names []).lookup x = some c) (U : UpdF c o news g) (hd : o.data = .cell v₀)
    (h : ∀ h' o', Fr h₀ L h' m → News h₀ L h' (g o') → o'.data = .cell (some v) → Q () { s with heap := h' })
    (hk : scope.kind = .function := by rfl) (hx : (envOfC name scope L a cd).kindOf x = some .cell := by rfl) : wpAny M A (storeName (envOfC name scope L a cd) x v) Q E s := by
  obtain ⟨own, rest, rfl, hg, h1, h2⟩ := U.split
  exact stCN F N hc hd h1 h2 (fun h' o' F' N' d' => h h' o' F' (hg o' ▸ N') d') hk hx
theorem test_once {M : Model} {A : Around} {t : Sem Bool} {Q : Bool → Shared → Prop} {E : Value → Shared → Prop} {s : Shared} (C : Prop) (h : wpAny M A t (fun b s' => ∃ tk', s' = { s with toks := tk' } ∧ (b = true ↔ C)) E s)
    (kt : C → ∀ tk', Q true { s with toks := tk' }) (kf : ¬ C → ∀ tk', Q false { s with toks := tk' }) : wpAny M A t Q E s := by
  refine wpAny_mono h (fun b s' => ?_) fun _ _ e => e
  rintro ⟨tk', rfl, hb⟩
  cases b with
  | true => exact kt (hb.mp rfl) tk'
  | false => exact kf (fun hc => Bool.noConfusion (hb.mpr hc)) tk'
theorem abs_yes {k : Int} (h : (if k < 0 then -k else k) = 10 ^ Int.toNat 6) : k = 1000000 ∨ k = -1000000 := by
  rw [p6l] at h
  by_cases hk : k < 0
  · rw [if_pos hk] at h; exact .inr (by rw [← Int.neg_neg k, h])
  · rw [if_neg hk] at h; exact .inl h
theorem abs_no {k : Int} (h : (if k < 0 then -k else k) ≠ 10 ^ Int.toNat 6) : ¬ (k = 1000000 ∨ k = -1000000) := by
  rintro (rfl | rfl)
  · exact h rfl
  · exact h rfl
theorem test_near {M : Model} {A : Around} {t : Sem Bool} {Q : Bool → Shared → Prop} {E : Value → Shared → Prop} {s : Shared} {a b k : Int} (_hn : nearF a b = some k) (h : wpAny M A t (fun b s' => ∃ tk', s' = { s with toks := tk' } ∧ (b = true ↔ ((k = 1000000 ∨ k = -1000000) ∧ 1000000 = -k))) E s)
    (kt : ((k = 1000000 ∨ k = -1000000) ∧ 1000000 = -k) → ∀ tk', Q true { s with toks := tk' }) (kf : ¬ ((k = 1000000 ∨ k = -1000000) ∧ 1000000 = -k) → ∀ tk', Q false { s with toks := tk' }) : wpAny M A t Q E s := test_once _ h kt kf
theorem test_near2 {M : Model} {A : Around} {t : Sem Bool} {Q : Bool → Shared → Prop} {E : Value → Shared → Prop} {s : Shared} {a b c d k l : Int} (_hn : nearF a b = some k) (_hn2 : nearF c d = some l) (h : wpAny M A t (fun b s' => ∃ tk', s' = { s with toks := tk' } ∧ (b = true ↔ ((k = 1000000 ∨ k = -1000000) ∧ l = -k))) E s)
    (kt : ((k = 1000000 ∨ k = -1000000) ∧ l = -k) → ∀ tk', Q true { s with toks := tk' }) (kf : ¬ ((k = 1000000 ∨ k = -1000000) ∧ l = -k) → ∀ tk', Q false { s with toks := tk' }) : wpAny M A t Q E s := test_once _ h kt kf
theorem upd_low {L D : Addr} {o o2 d : Obj} {r : Addr} {ob : Obj} {news : Led} (hD : L + 1 + 1 < D ∧ L + 1 < D ∧ r < D ∧ AllLt D news) (hl : r < L ∧ AllLt L news) :
   UpdF (L + 1) o2 ((D, d) :: (L + 1 + 1, o) :: (L + 1, o2) :: (r, ob) :: news) (fun o' => (D, d) :: (L + 1 + 1, o) :: (L + 1, o') :: (r, ob) :: news) := by
  refine UpdF.tail (Nat.ne_of_gt hD.2.1) (UpdF.tail (Nat.ne_of_gt (Nat.lt_succ_self _)) (UpdF.head fun q hq => ?_))
  have hl' : AllLt L ((r, ob) :: news) := hl
  exact Nat.ne_of_lt (Nat.lt_succ_of_lt (all_lt hl' q hq))
theorem upd_low0 {L : Addr} {o o2 : Obj} {r : Addr} {ob : Obj} {news : Led} (hl : r < L ∧ AllLt L news) :
   UpdF (L + 1) o2 ((L + 1 + 1, o) :: (L + 1, o2) :: (r, ob) :: news) (fun o' => (L + 1 + 1, o) :: (L + 1, o') :: (r, ob) :: news) := by
  refine (UpdF.tail (Nat.ne_of_gt (Nat.lt_succ_self _)) (UpdF.head fun q hq => ?_))
  have hl' : AllLt L ((r, ob) :: news) := hl
  exact Nat.ne_of_lt (Nat.lt_succ_of_lt (all_lt hl' q hq))
theorem upd_high0 {L : Addr} {o o2 : Obj} {r : Addr} {ob : Obj} {news : Led} (hl : r < L ∧ AllLt L news) :
   UpdF (L + 1 + 1) o ((L + 1 + 1, o) :: (L + 1, o2) :: (r, ob) :: news) (fun o' => (L + 1 + 1, o') :: (L + 1, o2) :: (r, ob) :: news) := by
  refine (UpdF.head fun q hq => ?_)
  rcases List.mem_cons.mp hq with rfl | hq
  · exact Nat.ne_of_lt (Nat.lt_succ_self _)
  have hl' : AllLt L ((r, ob) :: news) := hl
  exact Nat.ne_of_lt (Nat.lt_succ_of_lt (Nat.lt_succ_of_lt (all_lt hl' q hq)))
theorem upd_high {L D : Addr} {o o2 d : Obj} {r : Addr} {ob : Obj} {news : Led} (hD : L + 1 + 1 < D ∧ L + 1 < D ∧ r < D ∧ AllLt D news) (hl : r < L ∧ AllLt L news) :
   UpdF (L + 1 + 1) o ((D, d) :: (L + 1 + 1, o) :: (L + 1, o2) :: (r, ob) :: news) (fun o' => (D, d) :: (L + 1 + 1, o') :: (L + 1, o2) :: (r, ob) :: news) :=
  UpdF.tail (Nat.ne_of_gt hD.1) (upd_high0 hl)
section
theorem part2_c {w : World} {p : Program} {loose : List Str} {mean : ExcName → Option Value} {mg mb : Str → Option Value} {x : Str} {tx : Tok} {r : Addr} {a b : Int} {ta tb : Tok} {n : Nat} {news : Led}
   (hx : x.length ≤ 9) (hab : NumOk a b) :
   Calls w p loose mean mg mb 195 3 [.str x tx, .ref r, .none] ((r, tupO a b ta tb n) :: news)
     (fun v news' => ∃ t, v = .str (partF x a b none) t ∧ news' = news) := by
  w_top off
  k_with_none
  k_with "all" => assumption
  k_with "tb" => ((case k1 => k_asm); (case k2 => k_asm); (case k3 => k_asm); (case k4 => k_asm); (case k5 => k_asm); (case kK => first | exact rfl | assumption); (case kd => first | exact Mine.room1 (by assumption) (by decide) | ktr_room | k_room); (case ku => first | exact Mine.unit1 (by assumption) (by decide) | ktr_units | k_units))
  k_with "my call ref" => (k_here; (with_reducible show wpAny _ _ (call (Value.ref 190) _) _ _ _); k_dflt (refine' near_u ?hm ?hab ?k1 ?k2 ?k3 ?k4 ?k5 ?kK ?kd ?ku ?_ ?_; (k_extra "tb"); (case hm => k_mem); (case hab => assumption); all_goals intros; (try dsimp only); (try k_fold)))
  k_with "my storeName" => (k_here; (with_reducible refine inCellsS ?_); k_dflt (refine' storeU_C ?sF ?sN ?sc ?sU ?sd ?_ ?sa ?sb; (case sa => rfl); (case sb => rfl); (case sF => k_asm); (case sN => k_asm); (case sc => rfl); (case sU => first | exact upd_low (by assumption) (by assumption) | exact upd_high (by assumption) (by assumption) | exact upd_low0 (by assumption) | exact upd_high0 (by assumption)); (case sd => k_asm)); intro h' o' F' N' d'; (try dsimp only at N'))
  k_with "my call builtin:str.join" => (k_here; refine' join_strs (News.isList (by k_asm) (by k_mem)) (by assumption) cut_small (cut_len (by assumption)) (by decide) ?_; intro t' k'; (try k_fold))
  k_with "my eval ListComp" => (k_here; k_dflt (refine en_ListComp (by k_asm) (by with_unfolding_all rfl) (by decide) (by rfl) (by decide) (by rfl) (by rfl) (by decide) ?_))
  k_with "my isTrue BoolOp" => (k_here; (with_reducible show wpAny _ _ (PySem.isTrue (PySem.Expr.BoolOp PySem.BoolOp.And (PySem.Expr.Compare (PySem.Expr.Call _ _ _ _) _ _ _ :: _) _) _ _) _ _ _); refine stopI ?_)
  k_with "my call type:enumerate" => (k_here; refine stopI ?_)
  unfold Calls
  k_fill
  intros
  rename_i hret
  refine wpAny_call ?_
  k_dflt (refine' code_defC ?k1 ?k2 ?k3 ?k4 ?k5 ?kA ?kF ?kK ?k6 ?k7 ?k8 ?k9 ?kB ?kD ?_ ?c2 ?c3 ?c4; (case kA => exact rfl); (case kF => exact rfl); (case kK => assumption); (case k1 => k_asm); (case k2 => k_asm); (case k3 => k_asm); (case k4 => k_asm); (case k5 => k_asm); (case k6 => k_is); (case k7 => k_is); (case k8 => ktr_room); (case k9 => exact BindsTo.of_eq rfl); (case kB => exact rfl); (case kD => decide +kernel); (case c2 => exact rfl); (case c3 => exact rfl); (case c4 => exact rfl); k_whole; intro g' L' h' tk' cells' FG' F' N' Y' B' X' T' l1; (try k_lt l1); k_cells Y'; (try simp only [List.cons_append, List.nil_append] at N'); (try dsimp only); (try k_lift B'); (try k_fold))
  k_steps
  all_goals (have p6 := p6l)
  all_goals first
    | (refine' str_end hret (part_none (by assumption)) ?F ?N ?S
       (case F => k_asm)
       (case N => k_asm)
       (case S => exact fun p hp => (by repeat (first | exact hp | refine List.Mem.tail _ ?_))))
    | skip
  unfold Stop
  (rename (nearF a b = some _) => hnk)
  refine test_near hnk ?_ ?_ ?_
  · k_with_none
    k_with "all" => assumption
    k_steps
    all_goals first
      | exact ⟨fun _ => ⟨abs_yes (by assumption), (p6l.symm.trans (by assumption))⟩, fun _ => rfl⟩
      | exact ⟨fun h => Bool.noConfusion h, fun hC => absurd hC.1 (abs_no (by assumption))⟩
      | exact ⟨fun h => Bool.noConfusion h, fun hC => absurd hC.2 (fun e => (by assumption : (10 : Int) ^ Int.toNat 6 ≠ -_) (p6l.trans e))⟩
      | exact ⟨fun h => Bool.noConfusion h, fun hC => absurd hC (by omega)⟩
  all_goals intro hC tk0
  all_goals k_with_none
  all_goals k_with "all" => assumption
  k_with "my storeName" => (k_here; (with_reducible refine inCellsS ?_); k_dflt (refine' storeU_C ?sF ?sN ?sc ?sU ?sd ?_ ?sa ?sb; (case sa => rfl); (case sb => rfl); (case sF => k_asm); (case sN => k_asm); (case sc => rfl); (case sU => first | exact upd_low (by assumption) (by assumption) | exact upd_high (by assumption) (by assumption) | exact upd_low0 (by assumption) | exact upd_high0 (by assumption)); (case sd => k_asm)); intro h' o' F' N' d'; (try dsimp only at N'))
  k_with "my call builtin:str.join" => (k_here; refine' join_strs (News.isList (by k_asm) (by k_mem)) (by assumption) cut_small (cut_len (by assumption)) (by decide) ?_; intro t' k'; (try k_fold))
  k_with "my eval ListComp" => (k_here; k_dflt (refine en_ListComp (by k_asm) (by with_unfolding_all rfl) (by decide) (by rfl) (by decide) (by rfl) (by rfl) (by decide) ?_))
  k_with "my call type:enumerate" => (k_here; refine stopI ?_)
  all_goals k_steps
  · refine' str_end hret (part_mul (by assumption) hC rfl) ?F ?N ?S
    case F => k_asm
    case N => k_asm
    case S => exact fun p hp => (by repeat (first | exact hp | refine List.Mem.tail _ ?_))
  unfold Stop
  refine' en_call2 (by assumption) rfl hx ?F ?N ?R ?fin
  case F => k_asm
  case N => k_asm
  case R =>
    intro g i k t u I oI C oC D J oJ m₂ ys h tk E' hk hi hC ha hb F N off ne
    simp only [LCg.Off3] at off
    try k_fold
    k_steps
    all_goals (refine LCg.CompEnd.intro (by k_asm) (by k_asm) _ (fun _ hp => hp) (by assumption) trivial ?_)
    all_goals first
      | exact ⟨⟨by omega, by omega⟩, ⟨_, rfl⟩, rfl⟩
      | exact ⟨by omega, rfl⟩
  case fin =>
    intro g ys hsa
    intro D h tk F N off
    try k_fold
    k_steps
    refine' str_end hret (part_cut2 (by assumption) hC) ?F ?N ?S
    case F => k_asm
    case N => k_asm
    case S => exact fun p hp => (by repeat (first | exact hp | refine List.Mem.tail _ ?_))
end
end Mine
end
section
open PySem PySem.W PyProof.Rows PySem.Calls
set_option maxRecDepth 100000
set_option maxHeartbeats 8000000
namespace Mine
theorem en_call3 {prog : Program} {w : World} {A : Around} {E : Value → Shared → Prop} {s : Shared} {h₀ : Heap} {L : Addr} {m : Str → Option Value} {env : Env} {x : Str} {tx : Tok} {c elt : PySem.Expr} {a b : Str} {scope : Scope} {cl : List (Str × Addr)} {news : Led} {Fin : Shared → List Value → Led → Prop} {lo many a' b' c' d' : Int} (_hn : nearF a' b' = some lo) (_hn2 : nearF c' d' = some many)
    (hh : A.handled = none) (h9 : x.length ≤ 9) (F : Fr h₀ L s.heap m) (N : News h₀ L s.heap news)
    (R : ∀ g, EnTurn prog w A h₀ L m env c elt a b scope cl { s with heap := g } x lo (lo + many) news)
    (fin : ∀ g ys, StrsAre ys ((cutL x.cps.toList 1 lo (lo + many)).map fun k => ⟨#[k]⟩) → Fin { s with heap := g } ys news) :
    wpAny (model prog w) A (call (.type "enumerate") [.str x tx]) (EnSrc prog w A h₀ L m env c elt a b scope cl Fin) E s := en_call lo (lo + many) hh h9 F N R fin
theorem part3_none {x : Str} {a b c d : Int} (h : nearF a b = none ∨ nearF c d = none) : Str.ofString "" = partF x a b (some (c, d)) := by
  unfold partF
  rw [show lenF (some (c, d)) = nearF c d from rfl]
  rcases h with h | h
  · rw [h]; exact empty_str
  · rw [h]; cases nearF a b <;> exact empty_str
theorem part3_inf {x : Str} {a b c d m k : Int} (h : nearF a b = some m) (h2 : nearF c d = some k) (hm : (m = 1000000 ∨ m = -1000000) ∧ k = -m) : Str.ofString "" = partF x a b (some (c, d)) := by
  unfold partF
  rw [show lenF (some (c, d)) = nearF c d from rfl, h, h2]
  show _ = if _ then _ else _
  rw [if_pos hm]
  exact empty_str
theorem part3_cut {x : Str} {a b c d m k : Int} (h : nearF a b = some m) (h2 : nearF c d = some k) (hm : ¬ ((m = 1000000 ∨ m = -1000000) ∧ k = -m)) : Txt.join (Str.ofString "") ((cutL x.cps.toList 1 m (m + k)).map fun k => (⟨#[k]⟩ : Str)) = partF x a b (some (c, d)) := by
  rw [join_cut]
  unfold partF
  rw [show lenF (some (c, d)) = nearF c d from rfl, h, h2]
  show _ = if _ then _ else _
  rw [if_neg hm]
  rfl
section
theorem part3_c {w : World} {p : Program} {loose : List Str} {mean : ExcName → Option Value} {mg mb : Str → Option Value} {x : Str} {tx : Tok} {r : Addr} {a b : Int} {ta tb : Tok} {n : Nat} {q : Addr} {c d : Int} {tc td : Tok} {n2 : Nat} {news : Led}
   (hx : x.length ≤ 9) (hab : NumOk a b) (hcd : NumOk c d) (hm2 : (q, tupO c d tc td n2) ∈ news) :
   Calls w p loose mean mg mb 195 3 [.str x tx, .ref r, .ref q] ((r, tupO a b ta tb n) :: news)
     (fun v news' => ∃ t, v = .str (partF x a b (some (c, d))) t ∧ news' = news) := by
  w_top off
  k_with_none
  k_with "mem" => assumption
  k_with "all" => assumption
  k_with "tb" => ((case k1 => k_asm); (case k2 => k_asm); (case k3 => k_asm); (case k4 => k_asm); (case k5 => k_asm); (case kK => first | exact rfl | assumption); (case kd => first | exact Mine.room1 (by assumption) (by decide) | ktr_room | k_room); (case ku => first | exact Mine.unit1 (by assumption) (by decide) | ktr_units | k_units))
  k_with "my call ref" => (k_here; (with_reducible show wpAny _ _ (call (Value.ref 190) _) _ _ _); k_dflt (refine' near_u ?hm ?hab ?k1 ?k2 ?k3 ?k4 ?k5 ?kK ?kd ?ku ?_ ?_; (k_extra "tb"); (case hm => k_mem); (case hab => assumption); all_goals intros; (try dsimp only); (try k_fold)))
  k_with "my storeName" => (k_here; (with_reducible refine inCellsS ?_); k_dflt (refine' storeU_C ?sF ?sN ?sc ?sU ?sd ?_ ?sa ?sb; (case sa => rfl); (case sb => rfl); (case sF => k_asm); (case sN => k_asm); (case sc => rfl); (case sU => first | exact upd_low (by assumption) (by assumption) | exact upd_high (by assumption) (by assumption) | exact upd_low0 (by assumption) | exact upd_high0 (by assumption)); (case sd => k_asm)); intro h' o' F' N' d'; (try dsimp only at N'))
  k_with "my call builtin:str.join" => (k_here; refine' join_strs (News.isList (by k_asm) (by k_mem)) (by assumption) cut_small (cut_len (by assumption)) (by decide) ?_; intro t' k'; (try k_fold))
  k_with "my eval ListComp" => (k_here; k_dflt (refine en_ListComp (by k_asm) (by with_unfolding_all rfl) (by decide) (by rfl) (by decide) (by rfl) (by rfl) (by decide) ?_))
  k_with "my isTrue BoolOp" => (k_here; (with_reducible show wpAny _ _ (PySem.isTrue (PySem.Expr.BoolOp PySem.BoolOp.And (PySem.Expr.Compare (PySem.Expr.Call _ _ _ _) _ _ _ :: _) _) _ _) _ _ _); refine stopI ?_)
  k_with "my call type:enumerate" => (k_here; refine stopI ?_)
  unfold Calls
  k_fill
  intros
  rename_i hret
  refine wpAny_call ?_
  k_dflt (refine' code_defC ?k1 ?k2 ?k3 ?k4 ?k5 ?kA ?kF ?kK ?k6 ?k7 ?k8 ?k9 ?kB ?kD ?_ ?c2 ?c3 ?c4; (case kA => exact rfl); (case kF => exact rfl); (case kK => assumption); (case k1 => k_asm); (case k2 => k_asm); (case k3 => k_asm); (case k4 => k_asm); (case k5 => k_asm); (case k6 => k_is); (case k7 => k_is); (case k8 => ktr_room); (case k9 => exact BindsTo.of_eq rfl); (case kB => exact rfl); (case kD => decide +kernel); (case c2 => exact rfl); (case c3 => exact rfl); (case c4 => exact rfl); k_whole; intro g' L' h' tk' cells' FG' F' N' Y' B' X' T' l1; (try k_lt l1); k_cells Y'; (try simp only [List.cons_append, List.nil_append] at N'); (try dsimp only); (try k_lift B'); (try k_fold))
  k_steps
  all_goals (have p6 := p6l)
  all_goals first
    | (refine' str_end hret (part3_none (by first | exact .inl (by assumption) | exact .inr (by assumption))) ?F ?N ?S
       (case F => k_asm)
       (case N => k_asm)
       (case S => exact fun p hp => (by repeat (first | exact hp | refine List.Mem.tail _ ?_))))
    | skip
  unfold Stop
  (rename (nearF a b = some _) => hnk)
  (rename (nearF c d = some _) => hnk2)
  refine test_near2 hnk hnk2 ?_ ?_ ?_
  · k_with_none
    k_with "mem" => assumption
    k_with "all" => assumption
    k_steps
    all_goals first
      | exact ⟨fun _ => ⟨abs_yes (by assumption), (by assumption)⟩, fun _ => rfl⟩
      | exact ⟨fun h => Bool.noConfusion h, fun hC => absurd hC.1 (abs_no (by assumption))⟩
      | exact ⟨fun h => Bool.noConfusion h, fun hC => absurd hC.2 (by assumption)⟩
      | exact ⟨fun h => Bool.noConfusion h, fun hC => absurd hC (by omega)⟩
  all_goals intro hC tk0
  all_goals k_with_none
  all_goals k_with "mem" => assumption
  all_goals k_with "all" => assumption
  k_with "my storeName" => (k_here; (with_reducible refine inCellsS ?_); k_dflt (refine' storeU_C ?sF ?sN ?sc ?sU ?sd ?_ ?sa ?sb; (case sa => rfl); (case sb => rfl); (case sF => k_asm); (case sN => k_asm); (case sc => rfl); (case sU => first | exact upd_low (by assumption) (by assumption) | exact upd_high (by assumption) (by assumption) | exact upd_low0 (by assumption) | exact upd_high0 (by assumption)); (case sd => k_asm)); intro h' o' F' N' d'; (try dsimp only at N'))
  k_with "my call builtin:str.join" => (k_here; refine' join_strs (News.isList (by k_asm) (by k_mem)) (by assumption) cut_small (cut_len (by assumption)) (by decide) ?_; intro t' k'; (try k_fold))
  k_with "my eval ListComp" => (k_here; k_dflt (refine en_ListComp (by k_asm) (by with_unfolding_all rfl) (by decide) (by rfl) (by decide) (by rfl) (by rfl) (by decide) ?_))
  k_with "my call type:enumerate" => (k_here; refine stopI ?_)
  all_goals k_steps
  · refine' str_end hret (part3_inf (by assumption) (by assumption) hC) ?F ?N ?S
    case F => k_asm
    case N => k_asm
    case S => exact fun p hp => (by repeat (first | exact hp | refine List.Mem.tail _ ?_))
  unfold Stop
  refine' en_call3 (a' := a) (b' := b) (c' := c) (d' := d) (by assumption) (by assumption) rfl hx ?F ?N ?R ?fin
  case F => k_asm
  case N => k_asm
  case R =>
    intro g i k t u I oI C oC D J oJ m₂ ys h tk E' hk hi hC ha hb F N off ne
    simp only [LCg.Off3] at off
    try k_fold
    k_steps
    all_goals (refine LCg.CompEnd.intro (by k_asm) (by k_asm) _ (fun _ hp => hp) (by assumption) trivial ?_)
    all_goals first
      | exact ⟨⟨by omega, by omega⟩, ⟨_, rfl⟩, rfl⟩
      | exact ⟨by omega, rfl⟩
  case fin =>
    intro g ys hsa
    intro D h tk F N off
    try k_fold
    k_steps
    refine' str_end hret (part3_cut (by assumption) (by assumption) hC) ?F ?N ?S
    case F => k_asm
    case N => k_asm
    case S => exact fun p hp => (by repeat (first | exact hp | refine List.Mem.tail _ ?_))
end
end Mine
end
section
open PySem PySem.W PyProof.Rows PySem.Calls
set_option maxRecDepth 100000
set_option maxHeartbeats 8000000
namespace Mine
section
variable {w : World} {p : Program} {loose : List Str} {mean : ExcName → Option Value} {mg mb : Str → Option Value}
theorem part2_m {r : Addr} {a b : Int} {ta tb : Tok} {n : Nat} {x : Str} {tx : Tok} {news : Led}
   (hab : NumOk a b) (hx : x.length ≤ 9) (hm : (r, tupO a b ta tb n) ∈ news) :
   Calls w p loose mean mg mb 195 3 [.str x tx, .ref r, .none] news (fun v news' => ∃ t, v = .str (partF x a b none) t ∧ news' = news) :=
  Calls.weak (part2_c (news := news) hx hab) (List.forall_mem_cons.mpr ⟨hm, fun _ h => h⟩) fun v news' ⟨t, hv, hn⟩ => ⟨news, ⟨t, hv, rfl⟩, fun _ q hq => hn ▸ hq⟩
theorem part3_m {r q : Addr} {a b c d : Int} {ta tb tc td : Tok} {n k : Nat} {x : Str} {tx : Tok} {news : Led}
   (hab : NumOk a b) (hcd : NumOk c d) (hx : x.length ≤ 9) (hm : (r, tupO a b ta tb n) ∈ news) (hm2 : (q, tupO c d tc td k) ∈ news) :
   Calls w p loose mean mg mb 195 3 [.str x tx, .ref r, .ref q] news (fun v news' => ∃ t, v = .str (partF x a b (some (c, d))) t ∧ news' = news) :=
  Calls.weak (part3_c (news := news) hx hab hcd hm2) (List.forall_mem_cons.mpr ⟨hm, fun _ h => h⟩) fun v news' ⟨t, hv, hn⟩ => ⟨news, ⟨t, hv, rfl⟩, fun _ q hq => hn ▸ hq⟩
end
end Mine
end
section
open PySem PySem.W PyProof.Rows PySem.Calls
set_option maxRecDepth 100000
set_option maxHeartbeats 8000000
namespace Mine
/-- a loop over a made list of any values, its list out of the ledger while the loop lasts -/
theorem kst_vals {prog : Program} {w : World} {A : Around} {E : Value → Shared → Prop} {s : Shared} {env : Env} {h₀ : Heap} {x : Str} {body : List Stmt} {Q : Flow → Shared → Prop}
    {σ : Type} {D : Addr} {vs : List Value} {nn : Nat} {m₀ : Str → Option Value} (Ld : σ → Led) (Facts : σ → Prop) (stored : List Str) (c₀ : σ)
    (hh : A.handled = none) (F : Fr h₀ env.locals s.heap m₀) (N : News h₀ env.locals s.heap ((D, listOf vs.toArray nn) :: Ld c₀)) (hD : ∀ q ∈ Ld c₀, q.1 ≠ D) (hf : Facts c₀)
    (turn : ∀ (c : σ) (i : Nat) (v : Value) (u : Str → Option Value) h tk own, vs[i]? = some v → OwnOff own ((Ld c₀).map (·.1)) → Facts c →
      Fr h₀ env.locals h (fun y => if y = x then some v else kstB (fun z => if stored.contains z then u z else m₀ z) [] y) → News h₀ env.locals h (Ld c ++ own) →
      wpAny (model prog w) A (execs body env) (InvPostN h₀ env.locals (KstS Ld (fun _ => []) Facts x stored m₀ (fun _ _ => True) []) own ((Ld c₀).map (·.1)) { s with heap := h, toks := tk } Q) E { s with heap := h, toks := tk })
    (done : ∀ (c : σ) (u : Str → Option Value) h tk, Facts c → Fr h₀ env.locals h (fun y => if y = x then u y else kstB (fun z => if stored.contains z then u z else m₀ z) [] y) → News h₀ env.locals h (Ld c) → Q .next { s with heap := h, toks := tk }) :
    wpAny (model prog w) A (pyIter (.ref D)) (fun it s₂ => LoopAtV prog w A h₀ env x body Q E it s₂) E s := by
  have hoD := N _ (.head _)
  have hls : s.heap.IsList D vs.toArray := ⟨_, hoD.1, rfl, nn, rfl⟩
  have hne : D ≠ s.heap.objs.size := Nat.ne_of_lt (Heap.lt_size hoD.1)
  have off : ∀ q ∈ Ld c₀, q.1 ≠ s.heap.objs.size := fun q hq => Nat.ne_of_lt (Heap.lt_size (N q (.tail _ hq)).1)
  refine wpAny_pyIter_list hls ?_
  refine loop_invN (fun _ m nx => KstS Ld (fun _ => []) Facts x stored m₀ (fun _ _ => True) [] m nx) (Walks.list hh s.heap.objs.size D hne vs.toArray) ?_ ?_ ?_ ?_ ⟨⟨_, Heap.get?_push_size _ rfl, rfl, rfl⟩, hls.at fun o e => Heap.get?_push_of_some _ e⟩ (F.push _) (news := Ld c₀) (fun p hp => ⟨Heap.get?_push_of_some _ (N p (.tail _ hp)).1, (N p (.tail _ hp)).2⟩) ⟨c₀, rfl, hf, fun _ hp => (nomatch hp), fun _ _ _ _ => rfl, trivial⟩ ?_ ?_
  · intro hm
    rcases List.mem_cons.mp hm with e | hm
    · exact absurd F.ns.lt (e ▸ Nat.lt_irrefl _)
    · exact hoD.2.1 (List.mem_singleton.mp hm).symm
  · intro b hb
    rw [List.mem_singleton.mp hb]
    exact next_is_new F
  · exact fun q hq hm => off q hq (List.mem_singleton.mp hm)
  · intro q hq hm
    rcases List.mem_cons.mp hm with e | hm
    · exact off q hq e
    · exact hD q hq (List.mem_singleton.mp hm)
  · rintro i v m₁ nx h tk own _ hv _ hoff ⟨c, rfl, hf', h1, h2, _⟩ F₁ N₁
    exact turn c i v m₁ h tk own (by simpa using hv) hoff hf' (kst_fr h1 h2 F₁) N₁
  · rintro m₁ nx h tk ⟨c, rfl, hf', h1, h2, _⟩ F₁ N₁
    exact done c m₁ h tk hf' (kst_frOut h1 h2 F₁) N₁
end Mine
end
section
open PySem PySem.W PyProof.Rows PySem.Calls PyProof.V PySem.Spec PyProof.Rows.LCg
set_option maxRecDepth 100000
set_option maxHeartbeats 8000000
namespace Mine
section
variable {prog : Program} {w : World} {A : Around} {E : Value → Shared → Prop} {s : Shared} {h₀ : Heap} {L : Addr} {m : Str → Option Value} {env : Env}
/-- what the source of a comprehension over a short text is to bring -/
def SrcS (prog : Program) (w : World) (A : Around) (h₀ : Heap) (L : Addr) (m : Str → Option Value) (env : Env) (elt : PySem.Expr) (x : Str) (scope : Scope) (cl : List (Str × Addr)) (Fin : Shared → List Value → Led → Prop) (xv : Value) (s₁ : Shared) : Prop :=
  ∃ (y : Str) (ty : Tok) (news : Led), xv = .str y ty ∧ A.handled = none ∧ y.length ≤ 9 ∧ Fr h₀ L s₁.heap m ∧ News h₀ L s₁.heap news ∧
    ∀ g, CompRest prog w A h₀ L m env elt x scope cl { s₁ with heap := g } (fun _ => True) (SignAt y) (Fin { s₁ with heap := g }) y.cps.size 0 [] news
theorem sg_st {y : Str} {ty : Tok} {I : Addr} {nm : String} : ∀ i (h h' : Heap) (o : Obj) (nw : List (Addr × Obj)), h.IsStrIter I nm y ty i → h.get? I = some o → h'.get? I = some o → (∀ b o, h₀.get? b = some o → h'.get? b = some o) → News h₀ L h' nw → True → h'.IsStrIter I nm y ty i :=
  fun i h h' o nw st e e' _ _ _ => by obtain ⟨o', q, r⟩ := st; rw [e] at q; cases q; exact ⟨o, e', r⟩
theorem sg_ListComp {elt iter : PySem.Expr} {x : Str} {px : Pos} {scope : Scope} {cl : List (Str × Addr)} {pos : Pos} {Q : Value → Shared → Prop} (_F₀ : Fr h₀ L s.heap m)
    (hclos : closureFor scope env = pure cl) (hcell : ∀ y ∈ scope.names, y.2 ≠ .cell) (hkind : scope.kind = .function)
    (hnames : ∀ y ∈ scope.names, y.2 = .local → scope.names.lookup y.1 = some .local) (hx : scope.names.lookup x = some .local)
    (h : wpAny (model prog w) A (eval iter env) (SrcS prog w A h₀ L m env elt x scope cl (fun s₂ => FinE h₀ L m s₂ Q)) E s)
    (hs : ∀ x, foldedSetIterable iter env x = pure x := by intro _; rfl) :
    wpAny (model prog w) A (eval (.ListComp elt [⟨.Name x px, iter, [], 0⟩] scope pos) env) Q E s := by
  rw [eval_ListComp]
  refine wpAny_comprehension_free (use := none) rfl hs hclos hkind hnames (wpAny_mono h (fun xv s₁ h₁ => ?_) fun _ _ e => e)
  obtain ⟨y, ty, news, rfl, hh, h9, F, N, R⟩ := h₁
  have hsz : y.cps.size ≤ sizeLine := by rw [PySem.sizeLine_eq]; exact Nat.le_trans h9 (by decide)
  have up : ∀ (o' : Obj) b o, s₁.heap.get? b = some o → (s₁.heap.push o').get? b = some o := fun o' b o e => Heap.get?_push_of_some _ e
  have hfp : ∀ (o' : Obj), ∀ b ∈ [s₁.heap.objs.size], b < (s₁.heap.push o').objs.size := fun o' b hb => by
    rw [List.mem_singleton.mp hb, Heap.size_push]; exact Nat.lt_succ_self _
  have hRR : ∀ (s₂ : Shared), ∀ D C h tk m' ys news', Fr h₀ L h m → News h₀ L h ((D, lst ys) :: news') → Off1 D news' → h.Ns C m' → h₀.get? C = none → h₀.get? D = none → C ≠ L → D ≠ L → C ≠ D → (∀ p ∈ news', p.1 ≠ C) → FinE h₀ L m s₂ Q ys news' →
      ∃ m', h.Ns C m' ∧ ∀ h'', Heap.SameBut C h h'' → Q (.ref D) { s₂ with heap := h'', toks := tk } := by
    intro s₂ D C h tk m' ys news' F' N' o1 hn hC₀ hD₀ hCL hDL hCD offC fin
    refine ⟨m', hn, fun h'' hs'' => fin D h'' tk (F'.change hs'' hCL hC₀) (fun p hp => ?_) o1⟩
    refine ⟨hs''.extBut _ _ ?_ (N' p hp).1, (N' p hp).2⟩
    rcases List.mem_cons.mp hp with rfl | hp
    · exact Ne.symm hCD
    · exact offC p hp
  cases ha : y.cps.all (· < 128)
  · refine wpAny_pyIter_wide ha ?_
    exact block_U (Walks.strWide hh s₁.heap.objs.size y ty) hsz (fun i h st => by obtain ⟨o, e, _⟩ := st; exact ⟨o, e⟩) sg_st hcell hkind hx ⟨_, Heap.get?_push_size _ rfl, rfl, rfl⟩ (hfp _)
      (F.keeps (up _)) (N.grown (up _)) (Nat.ne_of_lt F.ns.lt) (next_is_new F) (fun p hp => Nat.ne_of_lt (Heap.lt_size (N p hp).1)) trivial (R _) (hRR _)
  · refine wpAny_pyIter_ascii ha ?_
    exact block_U (Walks.strAscii hh s₁.heap.objs.size y ty) hsz (fun i h st => by obtain ⟨o, e, _⟩ := st; exact ⟨o, e⟩) sg_st hcell hkind hx ⟨_, Heap.get?_push_size _ rfl, rfl, rfl⟩ (hfp _)
      (F.keeps (up _)) (N.grown (up _)) (Nat.ne_of_lt F.ns.lt) (next_is_new F) (fun p hp => Nat.ne_of_lt (Heap.lt_size (N p hp).1)) trivial (R _) (hRR _)
theorem sg_rest {elt : PySem.Expr} {x : Str} {scope : Scope} {cl : List (Str × Addr)} {y : Str} {news : Led} {Fin : List Value → Led → Prop} (g : Nat → Str)
    (turn : ∀ (c : Nat) t I oI C oC D m₂ ys h tk (E' : Value → Shared → Prop), NsObj oC m₂ → m₂ x = some (.str ⟨#[c]⟩ t) → Fr h₀ L h m → News h₀ L h ((I, oI) :: (C, oC) :: (D, lst ys) :: news) → Off3 I C D news → ((@Ne Nat I C) ∧ (@Ne Nat I D) ∧ (@Ne Nat C D)) →
      wpAny (model prog w) A (eval elt (compEnvC scope cl C env)) (CompEnd h₀ L m { s with heap := h, toks := tk } I oI C oC D (lst ys) (fun _ => True) (fun v news' => (∃ t, v = .str (g c) t) ∧ news' = news)) E' { s with heap := h, toks := tk })
    (fin : ∀ ys, StrsAre ys (y.cps.toList.map g) → Fin ys news) :
    CompRest prog w A h₀ L m env elt x scope cl s (fun _ => True) (SignAt y) Fin y.cps.size 0 [] news := by
  have key : ∀ (j i : Nat) (ys : List Value), i + j = y.cps.size → StrsAre ys ((y.cps.toList.take i).map g) → CompRest prog w A h₀ L m env elt x scope cl s (fun _ => True) (SignAt y) Fin j i ys news := by
    intro j
    induction j with
    | zero =>
      intro i ys hi hy
      have e : i = y.cps.toList.length := by simpa using hi
      rw [e, List.take_length] at hy
      exact CompRest.zero (fin ys hy)
    | succ j ih =>
      intro i ys hi hy
      refine CompRest.succ ?_
      rintro v I oI C oC D m₂ h tk E' ⟨c, t, hc, rfl⟩ hC hx F N off ne
      refine wpAny_mono (turn c t I oI C oC D m₂ ys h tk E' hC hx F N off ne) (fun v s₂ hq => ?_) fun _ _ e => e
      obtain ⟨h', tk', nw, e, F', N', off', hS, ⟨t', hv⟩, hn⟩ := hq
      subst hn
      refine ⟨h', tk', nw, e, F', N', off', hS, ?_⟩
      subst hv
      refine ih (i + 1) _ (by omega) ?_
      have hc' : y.cps.toList[i]? = some c := by simpa using hc
      rw [List.take_add_one, hc', List.map_append]
      exact kct_snoc hy
  exact key y.cps.size 0 [] (by omega) (by simpa using StrsAre.nil)
end
end Mine
end
section
open PySem PySem.W PyProof.Rows PySem.Calls
set_option maxRecDepth 100000
set_option maxHeartbeats 8000000
namespace Mine
theorem put_small {sg ot : Str} {c : Nat} : (strOf (putL sg ot c)).length ≤ 15 := by
  unfold putL
  split
  · exact (by decide : 1 ≤ 15)
  · show (List.toArray _).size ≤ 15
    rw [List.size_toArray, List.length_take]
    omega
theorem join_puts {sg ot x : Str} : Txt.join (Str.ofString "") (x.cps.toList.map fun c => strOf (putL sg ot c)) = strOf (x.cps.toList.flatMap (putL sg ot)) := by
  rw [join_empty, List.map_map]
  congr 1
theorem join_three {x y : Str} : Txt.join (Str.ofString "") [x, y, Str.ofString ""] = x ++ y := by
  rw [join_empty]
  refine Str.ext' (Array.toList_inj.mp ?_)
  rw [Str.cps_append, Array.toList_append]
  show (List.toArray _).toList = _
  simp only [List.map_cons, List.map_nil, List.flatten_cons, List.flatten_nil, List.append_nil]
  rw [empty_str]
  show x.cps.toList ++ (y.cps.toList ++ []) = _
  rw [List.append_nil]
section
variable {w : World} {p : Program} {loose : List Str} {mean : ExcName → Option Value} {mg mb : Str → Option Value}
theorem second_m {r q : Addr} {ta tb tc td : Tok} {n k : Nat} {tx : Tok} {news : Led} (hm : (r, tupO 0 1 ta tb n) ∈ news) (hm2 : (q, tupO 3 1 tc td k) ∈ news) :
   Calls w p loose mean mg mb 129 7 [.str (Str.ofString "12345") tx, .ref r, .ref q] news (fun v news' => ∃ t, v = .str (Str.ofString "12") t ∧ news' = news) := by
  have e : partF (Str.ofString "12345") 0 1 (some (3, 1)) = Str.ofString "12" := by decide
  have h := sub3_m (w := w) (p := p) (loose := loose) (mean := mean) (mg := mg) (mb := mb) (x := Str.ofString "12345") (tx := tx) (.inr (.inl ⟨rfl, by decide, by decide⟩)) (.inr (.inl ⟨rfl, by decide, by decide⟩)) (by decide) hm hm2
  rw [e] at h
  exact h
end
section
theorem joined_c {w : World} {p : Program} {loose : List Str} {mean : ExcName → Option Value} {mg mb : Str → Option Value} {D : Addr} {x y z : Str} {tx ty tz : Tok} {n : Nat} {news : Led}
   (hx : x.length ≤ 9) (hy : y.length ≤ 9) (hz : z.length ≤ 9) (hm : (D, listOf ([.str x tx, .str y ty, .str z tz] : List Value).toArray n) ∈ news) :
   Calls w p loose mean mg mb 150 1 [.ref D] news
     (fun v news' => ∃ t, v = .str (Txt.join (Str.ofString "") [x, y, z]) t ∧ news' = news) := by
  w_top off
  k_with_none
  k_with "room" => ktr_room
  k_with "all" => assumption
  k_with "mem" => assumption
  k_with "my eval Call" => (k_here; k_dflt (refine Call_ ?_))
  k_with "my call builtin:str.join" => (k_here; k_dflt (refine' join_strs ?k1 ?k2 ?k3 ?k4 (by decide) ?_; (case k1 => exact News.isList (by k_asm) (by k_mem)); (case k2 => exact .cons _ _ (.cons _ _ (.cons _ _ .nil))); (case k3 => simp only [List.mem_cons, List.not_mem_nil, or_false, forall_eq_or_imp, forall_eq]; omega); (case k4 => exact (by decide : 3 ≤ 1048576)); intro t' k'; (try k_fold)))
  unfold Calls
  k_fill
  intros
  rename_i hret
  refine wpAny_call ?_
  k_dflt cell_enter
  k_steps
  all_goals (
    refine' str_end hret rfl ?F ?N ?S
    (case F => k_asm)
    (case N => k_asm)
    (case S => exact fun p hp => hp))
end
end Mine
end
section
open PySem PySem.W PyProof.Rows PySem.Calls
set_option maxRecDepth 100000
set_option maxHeartbeats 8000000
namespace Mine
theorem news_tail {h₀ h : Heap} {L : Addr} {q : Addr × Obj} {l : Led} (N : News h₀ L h (q :: l)) : News h₀ L h l := fun p hp => N p (.tail _ hp)
def IsCellO (o : Obj) : Prop := ∃ v, o.data = .cell v
def TwoCells (a b : Addr) (c : Obj × Obj) : Led := [(a, c.1), (b, c.2)]
def TwoAre (c : Obj × Obj) : Prop := IsCellO c.1 ∧ IsCellO c.2
theorem off_nil {r : Addr} : ∀ q ∈ ([] : Led), q.1 ≠ r := fun _ h => nomatch h
theorem off_cons {r a : Addr} {o : Obj} {l : Led} (h : (@Ne Nat a r)) (h2 : ∀ q ∈ l, q.1 ≠ r) : ∀ q ∈ (a, o) :: l, q.1 ≠ r := List.forall_mem_cons.mpr ⟨h, h2⟩
theorem off_app {r : Addr} {l l' : Led} (h : ∀ q ∈ l, q.1 ≠ r) (h2 : ∀ q ∈ l', q.1 ≠ r) : ∀ q ∈ l ++ l', q.1 ≠ r := fun q hq => (List.mem_append.mp hq).elim (h q) (h2 q)
theorem fr_as {h₀ h : Heap} {L : Addr} {m m' : Str → Option Value} (F : Fr h₀ L h m) (e : ∀ y, m y = m' y) : Fr h₀ L h m' := by
  have : m = m' := funext e
  exact this ▸ F
theorem news_out {h₀ h : Heap} {L : Addr} {pre post : Led} {x y : Addr × Obj} (N : News h₀ L h (y :: x :: (pre ++ post))) : News h₀ L h (y :: (pre ++ x :: post)) :=
  List.forall_mem_cons.mpr ⟨N _ (.head _), news_back fun p hp => N p (.tail _ hp)⟩
theorem law_range {prog : Program} {w : World} {A : Around} {E : Value → Shared → Prop} {s : Shared} {env : Env} {h₀ : Heap} {x : Str} {body : List Stmt} {Q : Flow → Shared → Prop} {r a b : Addr} {oa ob : Obj} {b₀ : Int} {t₀ u₀ v₀ : Tok} {m₀ : Str → Option Value} (stored : List Str) (scr : Str) {sv : Value}
    (hh : A.handled = none) (hr : IsRange s.heap r 0 b₀ 1 t₀ u₀ v₀) (h0 : 0 ≤ b₀) (h3 : b₀ ≤ 3) (F : Fr h₀ env.locals s.heap m₀) (N : News h₀ env.locals s.heap [(a, oa), (b, ob)]) (ha : IsCellO oa) (hb : IsCellO ob) (hs : m₀ scr = some sv) (hn : stored.contains scr = false)
    (turn : ∀ (oa ob : Obj) (k : Int) t (u : Str → Option Value) h tk own, 0 ≤ k → k < 3 → (∀ q ∈ own, q.1 ≠ a) → (∀ q ∈ own, q.1 ≠ b) → IsCellO oa → IsCellO ob →
      (∀ z, stored.contains z = false → (if z = scr then some sv else u z) = m₀ z) →
      Fr h₀ env.locals h (fun y => if y = x then some (.int k t) else if y = scr then some sv else u y) → News h₀ env.locals h ((a, oa) :: (b, ob) :: own) →
      wpAny (model prog w) A (execs body env) (InvPostN h₀ env.locals (KstS (TwoCells a b) (fun _ => []) TwoAre x stored m₀ (fun _ _ => True) []) own [a, b] { s with heap := h, toks := tk } Q) E { s with heap := h, toks := tk })
    (done : ∀ (c : Obj × Obj) (u : Str → Option Value) h tk, Fr h₀ env.locals h u → News h₀ env.locals h (TwoCells a b c) → Q .next { s with heap := h, toks := tk }) :
    wpAny (model prog w) A (pyIter (.ref r)) (fun it s₂ => LoopAtV prog w A h₀ env x body Q E it s₂) E s := by
  refine kst_range (TwoCells a b) (fun _ => []) TwoAre stored (fun _ _ => True) (oa, ob) hh hr (small0 (by omega) (by omega)) (rangeSize_nat _ _) F N ⟨ha, hb⟩ (fun p hp => nomatch hp) trivial ?_ ?_
  · rintro ⟨oa', ob'⟩ pre k t u h tk own hk hlt hoff ⟨ha', hb'⟩ _ F' N'
    have hu : ∀ z, (if z = scr then some sv else (if stored.contains z then u z else m₀ z)) = (if stored.contains z then u z else m₀ z) := by
      intro z
      by_cases e : z = scr
      · subst e; rw [if_pos rfl, hn]; exact hs.symm
      · rw [if_neg e]
    have hz : ∀ z, stored.contains z = false → (if z = scr then some sv else (if stored.contains z then u z else m₀ z)) = m₀ z := by
      intro z hz
      rw [hu z, hz]; rfl
    refine wpAny_mono (turn oa' ob' k t (fun z => if stored.contains z then u z else m₀ z) h tk own (by omega) (by omega) (fun q hq => hoff q hq a (.head _)) (fun q hq => hoff q hq b (.tail _ (.head _))) ha' hb' hz (fr_as F' fun y => ?_) N') (fun f s₂ hf => ?_) fun _ _ e => e
    · by_cases e : y = x
      · rw [if_pos e, if_pos e]
      · rw [if_neg e, if_neg e, hu y]; rfl
    cases f with
    | ret v => exact hf
    | brk => exact hf
    | next => exact hf
    | cont => exact hf
  · exact fun c u h tk _ _ F' N' => done c _ h tk F' N'
theorem law_vals {prog : Program} {w : World} {A : Around} {E : Value → Shared → Prop} {s : Shared} {env : Env} {h₀ : Heap} {x : Str} {body : List Stmt} {Q : Flow → Shared → Prop} {D q1 q2 src D' : Addr} {o oD : Obj} {a1 b1 a2 b2 : Int} {ta1 tb1 ta2 tb2 : Tok} {n1 n2 : Nat} {nn : Nat} {m₀ : Str → Option Value} {post : Led} (stored : List Str) (z1 z2 z3 : Str) {v1 v2 v3 : Value}
    (hh : A.handled = none) (F : Fr h₀ env.locals s.heap m₀) (N : News h₀ env.locals s.heap ((D, listOf ([.ref q1, .ref q2, .none] : List Value).toArray nn) :: (q2, tupO a2 b2 ta2 tb2 n2) :: (q1, tupO a1 b1 ta1 tb1 n1) :: (D', oD) :: (src, o) :: post)) (hD : AllLt D ((q2, tupO a2 b2 ta2 tb2 n2) :: (q1, tupO a1 b1 ta1 tb1 n1) :: (D', oD) :: (src, o) :: post)) (ho : SrcO o) (hab1 : NumOk a1 b1) (hab2 : NumOk a2 b2) (g1 : m₀ z1 = some v1) (g2 : m₀ z2 = some v2) (g3 : m₀ z3 = some v3) (k1 : stored.contains z1 = false ∧ z1 ≠ x) (k2 : stored.contains z2 = false ∧ z2 ≠ x) (k3 : stored.contains z3 = false ∧ z3 ≠ x)
    (turn : ∀ (o : Obj) (v : Value) (u : Str → Option Value) h tk own, SrcO o → ((∃ q c d tc td n, v = .ref q ∧ NumOk c d ∧ (q, tupO c d tc td n) ∈ [(q2, tupO a2 b2 ta2 tb2 n2), (q1, tupO a1 b1 ta1 tb1 n1)]) ∨ v = .none) → (∀ q ∈ own, q.1 ≠ src) →
      (∀ z, stored.contains z = false → (if z = z1 then some v1 else if z = z2 then some v2 else u z) = m₀ z) →
      Fr h₀ env.locals h (fun y => if y = x then some v else if y = z1 then some v1 else if y = z2 then some v2 else u y) → News h₀ env.locals h ((q2, tupO a2 b2 ta2 tb2 n2) :: (q1, tupO a1 b1 ta1 tb1 n1) :: (src, o) :: (post ++ own)) →
      wpAny (model prog w) A (execs body env) (InvPostN h₀ env.locals (KstS (fun o => (q2, tupO a2 b2 ta2 tb2 n2) :: (q1, tupO a1 b1 ta1 tb1 n1) :: (src, o) :: post) (fun _ => []) SrcO x stored m₀ (fun _ _ => True) []) own (((q2, tupO a2 b2 ta2 tb2 n2) :: (q1, tupO a1 b1 ta1 tb1 n1) :: (src, o) :: post).map (·.1)) { s with heap := h, toks := tk } Q) E { s with heap := h, toks := tk })
    (done : ∀ (o : Obj) (u : Str → Option Value) h tk, SrcO o → (∀ z, z ≠ x → stored.contains z = false → (if z = z1 then some v1 else if z = z2 then some v2 else if z = z3 then some v3 else u z) = m₀ z) →
      Fr h₀ env.locals h (fun y => if y = z1 then some v1 else if y = z2 then some v2 else if y = z3 then some v3 else u y) → News h₀ env.locals h ((src, o) :: post) → Q .next { s with heap := h, toks := tk }) :
    wpAny (model prog w) A (pyIter (.ref D)) (fun it s₂ => LoopAtV prog w A h₀ env x body Q E it s₂) E s := by
  have hu : ∀ (u : Str → Option Value) (n : Str) (v : Value), m₀ n = some v → stored.contains n = false → ∀ z, (if z = n then some v else (if stored.contains z then u z else m₀ z)) = (if stored.contains z then u z else m₀ z) := by
    intro u n v hv hn z
    by_cases e : z = n
    · subst e; rw [if_pos rfl, hn]; exact hv.symm
    · rw [if_neg e]
  have hw : ∀ (u : Str → Option Value) (n : Str) (v : Value), m₀ n = some v → stored.contains n = false → n ≠ x → ∀ z, (if z = n then some v else (if z = x then u z else if stored.contains z then u z else m₀ z)) = (if z = x then u z else if stored.contains z then u z else m₀ z) := by
    intro u n v hv hn hx z
    by_cases e : z = n
    · subst e; rw [if_pos rfl, if_neg hx, hn]; exact hv.symm
    · rw [if_neg e]
  refine kst_vals (D := D) (vs := [.ref q1, .ref q2, .none]) (nn := nn) (fun o => (q2, tupO a2 b2 ta2 tb2 n2) :: (q1, tupO a1 b1 ta1 tb1 n1) :: (src, o) :: post) SrcO stored o hh F ?_ ?_ ho ?_ ?_
  · intro p hp
    refine N p ?_
    simp only [List.mem_cons] at hp ⊢
    grind
  · intro q hq
    refine Nat.ne_of_lt (all_lt hD q ?_)
    simp only [List.mem_cons] at hq ⊢
    grind
  · intro o' i v u h tk own hv hoff ho' F' N'
    refine turn o' v (fun z => if stored.contains z then u z else m₀ z) h tk own ho' ?_ (fun q hq => hoff q hq src (.tail _ (.tail _ (.head _)))) (fun z hz => ?_) (fr_as F' fun y => ?_) N'
    rotate_left
    · rw [hu u z2 v2 g2 k2.1, hu u z1 v1 g1 k1.1, hz]; rfl
    · by_cases e : y = x
      · rw [if_pos e, if_pos e]
      · rw [if_neg e, if_neg e, hu u z2 v2 g2 k2.1, hu u z1 v1 g1 k1.1]; rfl
    match i, hv with
    | 0, hv => exact .inl ⟨q1, a1, b1, ta1, tb1, n1, by simpa using hv.symm, hab1, .tail _ (.head _)⟩
    | 1, hv => exact .inl ⟨q2, a2, b2, ta2, tb2, n2, by simpa using hv.symm, hab2, .head _⟩
    | 2, hv => exact .inr (by simpa using hv.symm)
    | n + 3, hv => simp at hv
  · intro o' u h tk ho' F' N'
    refine done o' (fun z => if z = x then u z else if stored.contains z then u z else m₀ z) h tk ho' (fun z hx hz => ?_) (fr_as F' fun y => ?_) (news_tail (news_tail N'))
    · rw [hw u z3 v3 g3 k3.1 k3.2, hw u z2 v2 g2 k2.1 k2.2, hw u z1 v1 g1 k1.1 k1.2, if_neg hx, hz]; rfl
    · rw [hw u z3 v3 g3 k3.1 k3.2, hw u z2 v2 g2 k2.1 k2.2, hw u z1 v1 g1 k1.1 k1.2]; rfl
section
variable {w : World} {p : Program} {loose : List Str} {mean : ExcName → Option Value} {mg mb : Str → Option Value}
end
end Mine
namespace Mine
section
theorem pool_s {w : World} {p : Program} {loose : List Str} {mean : ExcName → Option Value} {mg mb : Str → Option Value} {l : Addr} {vs : List Value} {ns : List Int} {k : Int} {tk₀ : Tok} {a b : Addr} {oa ob : Obj} {own : Led}
   (hi : IntsAre vs ns) (hlen : ns.length ≤ 63) (h0 : 0 ≤ k) (h3 : k < 3) {base₀ : Heap} (hl : base₀.IsList l vs.toArray)
   {dp un : Nat} {gd : Option (List Code)} {cn : Str} {cs : Scope} {c : Addr} {ccd : Value} {cl : List (Str × Addr)} {outer : List Env} {A₀ : Around} {h₀ : Heap} {L : Addr} {m : Str → Option Value} {s : Shared} {Q E : Value → Shared → Prop}
    (B : Below A₀ base₀ outer h₀) (F : Fr h₀ L s.heap m) (X : (hd.heap_39 w.params).In h₀) (N : News h₀ L s.heap ((a, oa) :: (b, ob) :: own)) (T : Top p loose mean mg mb h₀) (hk : cs.kind = .function)
    (hd : dp + 2 < recursionLimit) (hu : un + 8 * 2 < cLine)
    (ret : ∀ r o h' tk', SrcO o → (@Ne Nat a r) → (@Ne Nat b r) → (∀ q ∈ own, q.1 ≠ r) → Fr h₀ L h' m → News h₀ L h' ((r, o) :: (a, oa) :: (b, ob) :: own) → Q (.ref r) { s with heap := h', toks := tk' }) :
    wpAny (model PySem.Challenge.rw_nu0054_01.row.prog w) (ktrTop dp un gd cn cs L c ccd cl outer) (call (.ref 157) [.ref l, .int k tk₀]) Q E s :=
  pool_c hi hlen h0 h3 hl dp un gd cn cs c ccd cl outer A₀ h₀ L m s Q E B F X N T hk hd hu fun r o h' tk' ho hlt F' N' =>
    ret r o h' tk' ho (Nat.ne_of_lt (hlt _ (.head _))) (Nat.ne_of_lt (hlt _ (.tail _ (.head _)))) (fun q hq => Nat.ne_of_lt (hlt q (.tail _ (.tail _ hq)))) F' N'
end
end Mine
namespace Mine
theorem storeU_D {M : Model} {A : Around} {E : Value → Shared → Prop} {s : Shared} {name : Str} {scope : Scope} {L a : Addr} {cd : Value} {h₀ : Heap} {m : Str → Option Value} {news : Led} {x : Str} {v : Value} {Q : Unit → Shared → Prop} {g : Obj → Led} {c : Addr} {o : Obj} (F : Fr h₀ L s.heap m) (N : News h₀ L s.heap news) (hc : (cellsFrom (L + 1) scope.names []).lookup x = some c) (U : UpdF c o news g) (hd : IsCellO o)
    (h : ∀ h' o', Fr h₀ L h' m → News h₀ L h' (g o') → o'.data = .cell (some v) → Q () { s with heap := h' })
    (hk : scope.kind = .function := by rfl) (hx : (envOfC name scope L a cd).kindOf x = some .cell := by rfl) : wpAny M A (storeName (envOfC name scope L a cd) x v) Q E s := by
  obtain ⟨v₀, hd⟩ := hd
  exact storeU_C F N hc U hd h hk hx
end Mine
namespace Mine
open PyProof.Rows.LCg in
theorem sg_src {prog : Program} {w : World} {A : Around} {h₀ : Heap} {L : Addr} {m : Str → Option Value} {env : Env} {elt : PySem.Expr} {x : Str} {scope : Scope} {cl : List (Str × Addr)} {Fin : Shared → List Value → Led → Prop} {s : Shared} {y sg ot : Str} {ty ts tt : Tok} {D' src a b : Addr} {oD o oa ob : Obj} {own : Led}
    (F : Fr h₀ L s.heap m) (N : News h₀ L s.heap ((D', oD) :: (src, o) :: (a, oa) :: (b, ob) :: own)) (_d1 : ob.data = .cell (some (.str sg ts))) (_d2 : oa.data = .cell (some (.str ot tt))) (hh : A.handled = none) (h9 : y.length ≤ 9)
    (turn : ∀ (g : Heap) (c : Nat) t I oI C oC D m₂ ys h tk (E' : Value → Shared → Prop), NsObj oC m₂ → m₂ x = some (.str ⟨#[c]⟩ t) → Fr h₀ L h m → News h₀ L h ((I, oI) :: (C, oC) :: (D, lst ys) :: (D', oD) :: (src, o) :: (a, oa) :: (b, ob) :: own) → Off3 I C D ((D', oD) :: (src, o) :: (a, oa) :: (b, ob) :: own) → ((@Ne Nat I C) ∧ (@Ne Nat I D) ∧ (@Ne Nat C D)) →
      wpAny (model prog w) A (eval elt (compEnvC scope cl C env)) (CompEnd h₀ L m { s with heap := h, toks := tk } I oI C oC D (lst ys) (fun _ => True) (fun v news' => (∃ t, v = .str (strOf (putL sg ot c)) t) ∧ news' = (D', oD) :: (src, o) :: (a, oa) :: (b, ob) :: own)) E' { s with heap := h, toks := tk })
    (fin : ∀ g ys, StrsAre ys (y.cps.toList.map fun c => strOf (putL sg ot c)) → Fin { s with heap := g } ys ((D', oD) :: (src, o) :: (a, oa) :: (b, ob) :: own)) :
    SrcS prog w A h₀ L m env elt x scope cl Fin (.str y ty) s :=
  ⟨y, ty, _, rfl, hh, h9, F, N, fun g => sg_rest (fun c => strOf (putL sg ot c)) (fun c t I oI C oC D m₂ ys h tk E' hC hx F N off ne => turn g c t I oI C oC D m₂ ys h tk E' hC hx F N off ne) (fun ys hys => fin g ys hys)⟩
end Mine
namespace Mine
theorem no2 {a b z : Str} (h : z ≠ a) (h2 : z ≠ b) : [a, b].contains z = false := by
  cases e : [a, b].contains z
  · rfl
  · have h3 := List.contains_iff_mem.mp e
    simp only [List.mem_cons, List.not_mem_nil, or_false] at h3
    exact (h3.elim h h2).elim
end Mine
namespace Mine
section
variable {w : World} {p : Program} {loose : List Str} {mean : ExcName → Option Value} {mg mb : Str → Option Value}
  {dp un : Nat} {gd : Option (List Code)} {cn : Str} {cs : Scope} {a₀ : Addr} {ccd : Value} {cl : List (Str × Addr)} {outer : List Env} {A₀ : Around} {base h₀ : Heap} {L : Addr} {m : Str → Option Value} {s : Shared} {Q E : Value → Shared → Prop} {news : Led}
theorem Calls.str {f : Addr} {dn : Nat} {vs : List Value} {X : Str} (C : Calls w p loose mean mg mb f dn vs news (fun v news' => ∃ t, v = .str X t ∧ news' = news))
    (B : Below A₀ base outer h₀) (F : Fr h₀ L s.heap m) (Xk : (hd.heap_39 w.params).In h₀) (N : News h₀ L s.heap news) (T : Top p loose mean mg mb h₀) (hk : cs.kind = .function) (hd : dp + dn < recursionLimit) (hu : un + 8 * dn < cLine)
    (ret : ∀ t h' tk', Fr h₀ L h' m → News h₀ L h' news → Q (.str X t) { s with heap := h', toks := tk' }) :
    wpAny (model PySem.Challenge.rw_nu0054_01.row.prog w) (ktrTop dp un gd cn cs L a₀ ccd cl outer) (call (.ref f) vs) Q E s :=
  Calls.use C B F Xk N T hk hd hu fun v news' h' tk' ⟨t, hv, hn⟩ F' N' => by subst hv hn; exact ret t h' tk' F' N'
theorem Calls.tru {f : Addr} {dn : Nat} {vs : List Value} (C : Calls w p loose mean mg mb f dn vs news (fun v news' => v = .bool true ∧ news' = news))
    (B : Below A₀ base outer h₀) (F : Fr h₀ L s.heap m) (Xk : (hd.heap_39 w.params).In h₀) (N : News h₀ L s.heap news) (T : Top p loose mean mg mb h₀) (hk : cs.kind = .function) (hd : dp + dn < recursionLimit) (hu : un + 8 * dn < cLine)
    (ret : ∀ h' tk', Fr h₀ L h' m → News h₀ L h' news → Q (.bool true) { s with heap := h', toks := tk' }) :
    wpAny (model PySem.Challenge.rw_nu0054_01.row.prog w) (ktrTop dp un gd cn cs L a₀ ccd cl outer) (call (.ref f) vs) Q E s :=
  Calls.use C B F Xk N T hk hd hu fun v news' h' tk' ⟨hv, hn⟩ F' N' => by subst hv hn; exact ret h' tk' F' N'
theorem text_u {src : Addr} {o : Obj} {most : Int} {tm : Tok} {post : Led} (ho : SrcO o) (h2 : ∀ q ∈ post, q.1 ≠ src) (h0 : 0 ≤ most) (h9 : most ≤ 9)
    (B : Below A₀ base outer h₀) (F : Fr h₀ L s.heap m) (Xk : (hd.heap_39 w.params).In h₀) (N : News h₀ L s.heap ((src, o) :: post)) (T : Top p loose mean mg mb h₀) (hk : cs.kind = .function) (hd : dp + 3 < recursionLimit) (hu : un + 8 * 3 < cLine)
    (ret : ∀ x t o' h' tk', x.length ≤ 9 → SrcO o' → Fr h₀ L h' m → News h₀ L h' ((src, o') :: post) → Q (.str x t) { s with heap := h', toks := tk' }) :
    wpAny (model PySem.Challenge.rw_nu0054_01.row.prog w) (ktrTop dp un gd cn cs L a₀ ccd cl outer) (call (.ref 176) [.ref src, .int most tm]) Q E s := by
  refine Calls.use (text_c ho h2 h0 h9) B F Xk N T hk hd hu ?_
  rintro v news' h' tk' ⟨x, t, o', rfl, hx, ho', rfl⟩ F' N'
  exact ret x t o' h' tk' (Int.ofNat_le.mp (Int.le_trans hx h9)) ho' F' N'
theorem number_u {src : Addr} {o : Obj} (pre : Led) {post : Led} (ho : SrcO o) (h1 : ∀ q ∈ pre, q.1 ≠ src) (h2 : ∀ q ∈ post, q.1 ≠ src)
    (B : Below A₀ base outer h₀) (F : Fr h₀ L s.heap m) (Xk : (hd.heap_39 w.params).In h₀) (N : News h₀ L s.heap (pre ++ (src, o) :: post)) (T : Top p loose mean mg mb h₀) (hk : cs.kind = .function) (hd : dp + 2 < recursionLimit) (hu : un + 8 * 2 < cLine)
    (ret : ∀ r a b ta tb n o' h' tk', NumOk a b → SrcO o' → (@Ne Nat r src) → Fr h₀ L h' m → News h₀ L h' ((r, tupO a b ta tb n) :: (pre ++ (src, o') :: post)) → Q (.ref r) { s with heap := h', toks := tk' }) :
    wpAny (model PySem.Challenge.rw_nu0054_01.row.prog w) (ktrTop dp un gd cn cs L a₀ ccd cl outer) (call (.ref 183) [.ref src]) Q E s := by
  refine Calls.use (number_c ho (off_app h1 h2)) B F Xk (news_in N) T hk hd hu ?_
  rintro v news' h' tk' ⟨r, a, b, ta, tb, n, o', rfl, hab, ho', rfl, hlt⟩ F' N'
  exact ret r a b ta tb n o' h' tk' hab ho' (Nat.ne_of_gt (hlt _ (.head _))) F' (news_out N')
theorem take_n {src : Addr} {o : Obj} {top : Int} {tt : Tok} {post : Led} (ho : SrcO o) (h2 : ∀ q ∈ post, q.1 ≠ src) (ht : 0 < top) (ht2 : top ≤ 25)
    (B : Below A₀ base outer h₀) (F : Fr h₀ L s.heap m) (Xk : (hd.heap_39 w.params).In h₀) (N : News h₀ L s.heap ((src, o) :: post)) (T : Top p loose mean mg mb h₀) (hk : cs.kind = .function) (hd : dp + 1 < recursionLimit) (hu : un + 8 * 1 < cLine)
    (ret : ∀ r t o' h' tk', 0 ≤ r → r < top → SrcO o' → Fr h₀ L h' m → News h₀ L h' ((src, o') :: post) → Q (.int r t) { s with heap := h', toks := tk' }) :
    wpAny (model PySem.Challenge.rw_nu0054_01.row.prog w) (ktrTop dp un gd cn cs L a₀ ccd cl outer) (call (.ref 164) [.ref src, .int top tt]) Q E s :=
  take_u [] ho off_nil h2 ht ht2 B F Xk N T hk hd hu ret
end
theorem mem_two {q q1 q2 : Addr} {o o1 o2 : Obj} {l : Led} (h : (q, o) ∈ [(q2, o2), (q1, o1)]) : (q, o) ∈ (q2, o2) :: (q1, o1) :: l := by
  rcases List.mem_cons.mp h with e | h
  · rw [e]; exact .head _
  · rw [List.mem_singleton.mp h]; exact .tail _ (.head _)
end Mine
end
section
open PySem PySem.W PyProof.Rows PySem.Calls
set_option maxRecDepth 100000
set_option maxHeartbeats 8000000
namespace Mine
section
theorem f1 : PySem.Challenge.rw_nu0054_01.Holds := by
  w_top off
  k_with_none
  k_with "all" => (repeat' (first | assumption | exact off_nil | refine off_cons ?_ ?_ | refine off_app ?_ ?_ | k_ne))
  k_with "tb" => ((case k1 => k_asm); (case k2 => k_asm); (case k3 => k_asm); (case k4 => k_asm); (case k5 => k_asm); (case kK => first | exact rfl | assumption); (case kd => first | exact Mine.room1 (by assumption) (by decide) | ktr_room | k_room); (case ku => first | exact Mine.unit1 (by assumption) (by decide) | ktr_units | k_units))
  k_with "my call ref" => (k_here; refine stopI ?_)
  k_with "my call ref" => (k_here; (with_reducible show wpAny _ _ (call (Value.ref 129) _) _ _ _); k_dflt (refine' Calls.str (second_m ?hm ?hm2) ?k1 ?k2 ?k3 ?k4 ?k5 ?kK ?kd ?ku ?_; (k_extra "tb"); (case hm => k_mem); (case hm2 => k_mem); intros; (try dsimp only); (try k_fold)))
  k_with "my call ref" => (k_here; (with_reducible show wpAny _ _ (call (Value.ref 129) _) _ _ _); k_dflt (refine' Calls.str (first_m ?hm ?hm2) ?k1 ?k2 ?k3 ?k4 ?k5 ?kK ?kd ?ku ?_; (k_extra "tb"); (case hm => k_mem); (case hm2 => k_mem); intros; (try dsimp only); (try k_fold)))
  k_with "my exec For Name Call cons nil" => (k_here; k_dflt ((rename Fr _ _ _ _ => lF'); (with_unfolding_all refine' For_invVF lF' ?k1 ?k2 ?_; (case k1 => exact rfl); (case k2 => exact rfl)); k_whole))
  k_with "my exec For Name List cons nil" => (k_here; k_dflt ((rename Fr _ _ _ _ => lF'); (with_unfolding_all refine' For_invVF lF' ?k1 ?k2 ?_; (case k1 => exact rfl); (case k2 => exact rfl)); k_whole))
  k_with "my pyIter ref" => (k_here; refine stopI ?_)
  k_with "my call ref" => (k_here; (with_reducible show wpAny _ _ (call (Value.ref 157) _) _ _ _); k_dflt (refine' pool_s ?hi ?hlen ?h0 ?h3 ?hl ?k1 ?k2 ?k3 ?k4 ?k5 ?kK ?kd ?ku ?_; (k_extra "tb"); (case hi => assumption); (case hlen => omega); (case h0 => assumption); (case h3 => assumption); (case hl => assumption); intro r' o' h' tk' ho' ha' hb' hown' F' N'; (try dsimp only); (try k_fold)))
  k_with "my call ref" => (k_here; (with_reducible show wpAny _ _ (call (Value.ref 176) _) _ _ _); k_dflt (refine' text_u ?ho ?h2 ?g0 ?g9 ?k1 ?k2 ?k3 ?k4 ?k5 ?kK ?kd ?ku ?_; (k_extra "tb"); (case ho => assumption); (case h2 => k_all); (case g0 => decide); (case g9 => decide); intros; (try dsimp only); (try k_fold)))
  k_with "my call ref" => (k_here; (with_reducible show wpAny _ _ (call (Value.ref 183) _) _ _ _); k_dflt (first | (refine' number_u [] ?ho ?h1 ?h2 ?k1 ?k2 ?k3 ?k4 ?k5 ?kK ?kd ?ku ?_; (k_extra "tb")) | (refine' number_u [_] ?ho ?h1 ?h2 ?k1 ?k2 ?k3 ?k4 ?k5 ?kK ?kd ?ku ?_; (k_extra "tb")) | (refine' number_u [_, _] ?ho ?h1 ?h2 ?k1 ?k2 ?k3 ?k4 ?k5 ?kK ?kd ?ku ?_; (k_extra "tb"))); (case ho => assumption); (case h1 => k_all); (case h2 => k_all); intros; (rename News _ _ _ _ => N'); (try dsimp only [List.nil_append, List.cons_append] at N'); (try dsimp only); (try k_fold))
  k_with "my call ref" => (k_here; (with_reducible show wpAny _ _ (call (Value.ref 129) [_, _, _]) _ _ _); k_dflt (refine' Calls.str (sub3_m ?hab ?hcd ?hx ?hm ?hm2) ?k1 ?k2 ?k3 ?k4 ?k5 ?kK ?kd ?ku ?_; (k_extra "tb"); (case hm => k_mem); (case hm2 => exact List.Mem.tail _ (mem_two (by assumption))); (case hab => assumption); (case hcd => assumption); (case hx => assumption); intros; (try dsimp only); (try k_fold)))
  k_with "my call ref" => (k_here; (with_reducible show wpAny _ _ (call (Value.ref 129) [_, _]) _ _ _); k_dflt (refine' Calls.str (sub2_m ?hab ?hx ?hm) ?k1 ?k2 ?k3 ?k4 ?k5 ?kK ?kd ?ku ?_; (k_extra "tb"); (case hm => k_mem); (case hab => assumption); (case hx => assumption); intros; (try dsimp only); (try k_fold)))
  k_with "my call ref" => (k_here; (with_reducible show wpAny _ _ (call (Value.ref 195) [_, _, Value.ref _]) _ _ _); k_dflt (refine' Calls.str (part3_m ?hab ?hcd ?hx ?hm ?hm2) ?k1 ?k2 ?k3 ?k4 ?k5 ?kK ?kd ?ku ?_; (k_extra "tb"); (case hm => k_mem); (case hm2 => exact List.Mem.tail _ (mem_two (by assumption))); (case hab => assumption); (case hcd => assumption); (case hx => assumption); intros; (try dsimp only); (try k_fold)))
  k_with "my call ref" => (k_here; (with_reducible show wpAny _ _ (call (Value.ref 195) [_, _, Value.none]) _ _ _); k_dflt (refine' Calls.str (part2_m ?hab ?hx ?hm) ?k1 ?k2 ?k3 ?k4 ?k5 ?kK ?kd ?ku ?_; (k_extra "tb"); (case hm => k_mem); (case hab => assumption); (case hx => assumption); intros; (try dsimp only); (try k_fold)))
  k_with "my InvPostN" => (k_here; (with_reducible show InvPostN _ _ _ _ _ _ _ Flow.next _); k_dflt (refine stopI ?_))
  k_with "my call ref" => (k_here; (with_reducible show wpAny _ _ (call (Value.ref 164) _) _ _ _); k_dflt (refine' take_n ?ho ?h2 ?ht ?ht2 ?k1 ?k2 ?k3 ?k4 ?k5 ?kK ?kd ?ku ?_; (k_extra "tb"); (case ho => assumption); (case h2 => k_all); (case ht => omega); (case ht2 => omega); intros; (try dsimp only); (try k_fold)))
  k_with "my call ref" => (k_here; (with_reducible show wpAny _ _ (call (Value.ref 209) _) _ _ _); k_dflt (refine' Calls.tru (marks_c ?hx ?hy) ?k1 ?k2 ?k3 ?k4 ?k5 ?kK ?kd ?ku ?_; (k_extra "tb"); (case hx => assumption); (case hy => first | assumption | exact Nat.le_trans (by assumption) (by assumption)); intros; (try dsimp only); (try k_fold)))
  k_with "my call ref" => (k_here; (with_reducible show wpAny _ _ (call (Value.ref 136) _) _ _ _); k_dflt (refine' Calls.str (translated_c ?hx ?hs ?ho) ?k1 ?k2 ?k3 ?k4 ?k5 ?kK ?kd ?ku ?_; (k_extra "tb"); (case hx => assumption); (case hs => assumption); (case ho => assumption); intros; (try dsimp only); (try k_fold)))
  k_with "my call ref" => (k_here; (with_reducible show wpAny _ _ (call (Value.ref 216) _) _ _ _); k_dflt (refine' Calls.str (sign_put_c ?hs ?ho) ?k1 ?k2 ?k3 ?k4 ?k5 ?kK ?kd ?ku ?_; (k_extra "tb"); (case hs => assumption); (case ho => assumption); intros; (try dsimp only); (try k_fold)))
  k_with "my call ref" => (k_here; (with_reducible show wpAny _ _ (call (Value.ref 143) _) _ _ _); k_dflt (refine' Calls.str (normalized_c ?hx) ?k1 ?k2 ?k3 ?k4 ?k5 ?kK ?kd ?ku ?_; (k_extra "tb"); (case hx => assumption); intros; (try dsimp only); (try k_fold)))
  k_with "my call ref" => (k_here; (with_reducible show wpAny _ _ (call (Value.ref 221) _) _ _ _); k_dflt (refine' Calls.use (words_c ?hx) ?k1 ?k2 ?k3 ?k4 ?k5 ?kK ?kd ?ku ?_; (k_extra "tb"); (case hx => assumption); intro v' news' h' tk' hR' F' N'; obtain ⟨D', vs', e', hvs', en'⟩ := hR'; subst e'; subst en'; (try dsimp only); (try k_fold)))
  k_with "my call ref" => (k_here; (with_reducible show wpAny _ _ (call (Value.ref 150) _) _ _ _); k_dflt (refine' Calls.str (joined_c ?hx ?hy ?hz ?hm) ?k1 ?k2 ?k3 ?k4 ?k5 ?kK ?kd ?ku ?_; (k_extra "tb"); (case hm => k_mem); (case hx => assumption); (case hy => assumption); (case hz => decide); intros; (try rw [join_three]); (try dsimp only); (try k_fold)))
  k_with "my storeName" => (k_here; (with_reducible refine inCellsS ?_); k_dflt (refine' storeU_D ?sF ?sN ?sc ?sU ?sd ?_ ?sa ?sb; (case sa => rfl); (case sb => rfl); (case sF => k_asm); (case sN => k_asm); (case sc => rfl); (case sU => k_updF); (case sd => assumption)); intro h' o' F' N' d'; (try dsimp only at N'))
  k_with "my eval ListComp" => (k_here; k_dflt (refine sg_ListComp (by k_asm) (by with_unfolding_all rfl) (by decide) (by rfl) (by decide) (by rfl) ?_))
  k_with "my call builtin:str.join" => (k_here; k_dflt (refine' join_strs ?k1 ?k2 ?k3 ?k4 (by decide) ?_; (case k1 => exact News.isList (by k_asm) (by k_mem)); (case k2 => assumption); (case k3 => first | exact fun w hw => Nat.le_trans (words_small w hw) (by omega) | (intro w hw; obtain ⟨_, _, e⟩ := List.mem_map.mp hw; rw [← e]; exact put_small)); (case k4 => first | exact Nat.le_trans words_few (by omega) | (rw [List.length_map, Array.length_toList]; exact Nat.le_trans (by assumption) (by decide : 9 ≤ 1048576))); intro t' k'; (try rw [join_puts]); (try k_fold)))
  refine hd ?_
  k_go0
  all_goals try dsimp only [Top.heap] at *
  all_goals try k_fold
  k_steps
  unfold Stop
  rename IsRange _ _ _ _ _ _ _ _ => hR
  rename Fr _ _ _ _ => F0
  rename News _ _ _ _ => N0
  replace N0 := news_tail (news_tail (news_tail (news_tail N0)))
  refine' law_range [Str.ofString "source", Str.ofString "text", Str.ofString "mark", Str.ofString "length", Str.ofString "start", Str.ofString "told", Str.ofString "at"] (Str.ofString "script") (by rfl) hR ?h0 ?h3 F0 N0 ⟨_, by assumption⟩ ⟨_, by assumption⟩ rfl (by decide) ?turn ?done
  case h0 => omega
  case h3 => omega
  case turn =>
    intro oa ob k t u h tk own hk0 hk3 hoa hob ca cb hu1 F1 N1
    clear F0 N0 hR
    try k_fold
    k_steps
    unfold Stop
    rename Fr _ _ _ _ => F2
    rename News _ _ _ _ => N2
    refine' law_vals [Str.ofString "start", Str.ofString "told"] (Str.ofString "source") (Str.ofString "text") (Str.ofString "mark") (by rfl) F2 N2 (by assumption) (by assumption) (by assumption) (by assumption) rfl rfl rfl ⟨by decide, by decide⟩ ⟨by decide, by decide⟩ ⟨by decide, by decide⟩ ?turn2 ?done2
    case turn2 =>
      intro o3 v3 u3 h3 tk3 own3 ho3 hv3 hoff3 hu3 F3 N3
      clear F2 N2
      simp only [List.cons_append] at N3
      rcases hv3 with ⟨q3, c3, d3, tc3, td3, n3, rfl, hcd3, hq3⟩ | rfl
      all_goals (try k_fold)
      all_goals k_steps
      all_goals unfold Stop
      all_goals (rename SrcO _ => hS)
      all_goals (rename News _ _ _ _ => nE)
      all_goals (
        refine' kst_end hS.ob (by k_asm) nE ?hn ?ho rfl hS (fun p hp => nomatch hp) ?hr trivial
        (case hn => exact List.forall_mem_cons.mpr ⟨by k_mem, List.forall_mem_cons.mpr ⟨by k_mem, List.forall_mem_cons.mpr ⟨by k_mem, List.forall_mem_cons.mpr ⟨by k_mem, List.forall_mem_cons.mpr ⟨by k_mem, fun p hp => by repeat (first | exact List.mem_append.mpr (.inl hp) | refine List.Mem.tail _ ?_)⟩⟩⟩⟩⟩)
        (case ho => (intro p hp; repeat (first | exact List.mem_append.mpr (.inr hp) | refine List.Mem.tail _ ?_)))
        (case hr =>
          intro z h1 h2 h3
          have z1 : z ≠ Str.ofString "start" := by intro e; subst e; cases h3
          have z2 : z ≠ Str.ofString "told" := by intro e; subst e; cases h3
          exact (if_neg z2).trans ((if_neg z1).trans ((if_neg h1).trans (hu3 z h3)))))
    case done2 =>
      intro o4 u4 h4 tk4 ho4 hu4 F4 N4
      clear F2 N2
      try k_fold
      k_steps
      refine' sg_src ?F ?N ?d1 ?d2 (by rfl) ?h9 ?turn3 ?fin3
      case F => k_asm
      case N => k_asm
      case d1 => assumption
      case d2 => assumption
      case h9 => assumption
      case turn3 =>
        intro g c5 t5 I oI C oC D m₂ ys h5 tk5 E' hC hx5 F5 N5 off5 ne5
        clear F4 N4
        simp only [LCg.Off3] at off5
        try k_fold
        k_steps
        all_goals (refine LCg.CompEnd.intro (by k_asm) (by k_asm) _ (fun _ hp => hp) (by assumption) trivial ⟨⟨_, rfl⟩, rfl⟩)
      case fin3 =>
        intro g ys hsa
        intro D h6 tk6 F6 N6 off6
        clear F4 N4
        try k_fold
        k_steps
        unfold Stop
        rename News _ _ _ _ => nE
        refine' kst_end (_, _) (by k_asm) nE ?hn ?ho rfl ?hf (fun p hp => nomatch hp) ?hr trivial
        case hn => exact List.forall_mem_cons.mpr ⟨by k_mem, List.forall_mem_cons.mpr ⟨by k_mem, fun _ hp => nomatch hp⟩⟩
        case hf => exact ⟨⟨_, by assumption⟩, ⟨_, by assumption⟩⟩
        case ho => intro p hp; repeat (first | exact hp | refine List.Mem.tail _ ?_)
        case hr =>
          intro z h1 h2 h3
          have n1 : z ≠ Str.ofString "source" := by intro e; subst e; cases h3
          have n2 : z ≠ Str.ofString "text" := by intro e; subst e; cases h3
          have n3 : z ≠ Str.ofString "mark" := by intro e; subst e; cases h3
          have n4 : z ≠ Str.ofString "length" := by intro e; subst e; cases h3
          have n5 : z ≠ Str.ofString "start" := by intro e; subst e; cases h3
          have n6 : z ≠ Str.ofString "told" := by intro e; subst e; cases h3
          have n7 : z ≠ Str.ofString "at" := by intro e; subst e; cases h3
          have e4 := hu4 z n4 (no2 n5 n6)
          rw [if_neg n1, if_neg n2, if_neg n3] at e4
          refine (if_neg n7).trans ((if_neg n1).trans ((if_neg n2).trans ((if_neg n3).trans (e4.trans ?_))))
          exact (if_neg n2).trans ((if_neg n3).trans ((if_neg n1).trans ((if_neg h1).trans (hu1 z h3))))
  case done =>
    intro c u h tk F1 N1
    clear F0 N0 hR
    try k_fold
    k_steps
end
end Mine
end
end
theorem PySem.Challenge.cw_nu0054_01_holds : PySem.Challenge.rw_nu0054_01.Holds := by
  exact Mine.f1
