import PyProof.Rows.All
import Wide.All
import OpenK.AllK
import Wide.FinOn
import Lean
import PySem.Challenge.RW_pq1390_01
set_option Elab.async false
set_option maxRecDepth 100000
set_option linter.all false
set_option rowWalk.seconds 0
namespace Mine
open PySem PySem.W PySem.Calls PyProof.Rows
namespace hd
theorem tw7409287226382816078 : True := trivial
theorem tw7520025766007317126 : True := trivial
end hd

section
local macro_rules | `(tactic| refine $e:term) => `(tactic| (refine' $e; (try (case hl => assumption)); (try (case hc => assumption))))
set_option Elab.async true in
set_option maxHeartbeats 8000000 in
/-- the head of the law: what the text's top leaves behind -/
theorem hd : ∃ T U : Prop, T → U → PySem.Challenge.rw_pq1390_01.Holds := by
  refine' ⟨_, _, fun left walk => ?_⟩
  rotate_left 2
  w_on
  o_law
  k_head
  w_witness2
end

/-- waits for the head's own constants -/
theorem hd_here : hd.view_1_40 = hd.view_1_40 := rfl

theorem head_swap {q q' : Program} {K K' : Params → Frag} {loose : List Str} {lv : List (Str × WData)} {as : List Addr} {e : ∀ P, as = (K P).map (·.1)} {r : RowW} {d : DefRec} {kwd : List (Str × Expr)} {run : Value → List Value → Sem Value}
    (e1 : q = q') (e2 : K = K') (h : ∀ e' : ∀ P, as = (K' P).map (·.1), WalkO q' loose (XL q' lv) (kHook K' as e').says r d kwd run) : WalkO q loose (XL q lv) (kHook K as e).says r d kwd run := by
  subst e1; subst e2; exact h e
local macro_rules | `(tactic| walk_at $s:str) => `(tactic| k_extra $s)
local macro_rules | `(tactic| k_all) => `(tactic| k_extra "own k_all")
local macro_rules | `(tactic| k_mem) => `(tactic| k_extra "own k_mem")
local macro_rules | `(tactic| k_room) => `(tactic| k_extra "own k_room")
local macro_rules | `(tactic| ke_room) => `(tactic| k_extra "own ke_room")
local macro_rules | `(tactic| k_ne) => `(tactic| k_extra "own k_ne")

/-- a contract of a def of the text: the call of `f` upon `args`, with the ledger `news`, hands back a value and a ledger that `Post` speaks of -/
def Ct (w : World) (f : Addr) (args : List Value) (sz : Nat) (news : List (Addr × Obj)) (Post : Value → List (Addr × Obj) → Prop) : Prop :=
  ∀ (loose : List Str) (mean : ExcName → Option Value) (mg mb : Str → Option Value) (dp un : Nat) (gd : Option (List Code)) (cn : Str) (cs : Scope) (a : Addr) (ccd : Value) (cl : List (Str × Addr)) (outer : List Env) (A₀ : Around) (base h₀ : Heap) (L : Addr) (m : Str → Option Value) (s : Shared)
    (Q E : Value → Shared → Prop),
    Below A₀ base outer h₀ → Fr h₀ L s.heap m → (hd.heap_1_39 w.params).In h₀ → News h₀ L s.heap news → Top hd.view_1_40 loose mean mg mb h₀ → cs.kind = .function → dp + sz < recursionLimit → un + 8 * sz < cLine →
    (∀ r news' h' tk', Fr h₀ L h' m → News h₀ L h' news' → Post r news' → Q r { s with heap := h', toks := tk' }) →
    wpAny (model PySem.Challenge.rw_pq1390_01.row.prog w) (ktrTop dp un gd cn cs L a ccd cl outer) (call (.ref f) args) Q E s

section
variable {w : World} {f : Addr} {args : List Value} {sz : Nat} {Post : Value → List (Addr × Obj) → Prop} {loose : List Str} {mean : ExcName → Option Value} {mg mb : Str → Option Value} {dp un : Nat} {gd : Option (List Code)} {cn : Str} {cs : Scope} {a : Addr} {ccd : Value} {cl : List (Str × Addr)} {outer : List Env} {A₀ : Around} {base h₀ : Heap} {L : Addr} {m : Str → Option Value} {news : List (Addr × Obj)} {s : Shared}
  {Q E : Value → Shared → Prop}
theorem ct_use (B : Below A₀ base outer h₀) (F : Fr h₀ L s.heap m) (X : (hd.heap_1_39 w.params).In h₀) (N : News h₀ L s.heap news) (T : Top hd.view_1_40 loose mean mg mb h₀) (hk : cs.kind = .function) (C : Ct w f args sz news Post)
    (hd : dp + sz < recursionLimit) (hu : un + 8 * sz < cLine)
    (ret : ∀ r news' h' tk', Fr h₀ L h' m → News h₀ L h' news' → Post r news' → Q r { s with heap := h', toks := tk' }) :
    wpAny (model PySem.Challenge.rw_pq1390_01.row.prog w) (ktrTop dp un gd cn cs L a ccd cl outer) (call (.ref f) args) Q E s := C _ _ _ _ _ _ _ _ _ _ _ _ _ _ _ _ _ _ _ _ _ B F X N T hk hd hu ret
/-- the same, where what the call hands back is named by its parts -/
theorem ct_useK (B : Below A₀ base outer h₀) (F : Fr h₀ L s.heap m) (X : (hd.heap_1_39 w.params).In h₀) (N : News h₀ L s.heap news) (T : Top hd.view_1_40 loose mean mg mb h₀) (hk : cs.kind = .function) (C : Ct w f args sz news Post)
    {K : (Value → List (Addr × Obj) → Prop) → Prop} (cps : ∀ R : Value → List (Addr × Obj) → Prop, K R → ∀ r nw, Post r nw → R r nw) (hd : dp + sz < recursionLimit) (hu : un + 8 * sz < cLine)
    (ret : K (fun r news' => ∀ h' tk', Fr h₀ L h' m → News h₀ L h' news' → Q r { s with heap := h', toks := tk' })) :
    wpAny (model PySem.Challenge.rw_pq1390_01.row.prog w) (ktrTop dp un gd cn cs L a ccd cl outer) (call (.ref f) args) Q E s := ct_use B F X N T hk C hd hu fun r nw h' tk' F' N' P => cps _ ret r nw P h' tk' F' N'
end
theorem eq_cps {a : Value} {b : List (Addr × Obj)} : ∀ R : Value → List (Addr × Obj) → Prop, R a b → ∀ r nw, (r = a ∧ nw = b) → R r nw := by
  rintro R k r nw ⟨rfl, rfl⟩; exact k

/-- the list of nuts: ints, not many -/
def NutsL (us : List Value) : Prop := (∃ xs, IntsAre us xs) ∧ us.length ≤ 1000

theorem upd_mem {d : Addr} {o o' : Obj} : ∀ {l l' : List (Addr × Obj)}, Upd d o o' l l' → (d, o) ∈ l
  | _, _, .head _ => .head _
  | _, _, .tail _ r => .tail _ (upd_mem r)

theorem upd_same {d : Addr} {o : Obj} : ∀ {l l' : List (Addr × Obj)}, Upd d o o l l' → l = l'
  | _, _, .head _ => rfl
  | _, _, .tail _ r => by rw [upd_same r]

inductive Pull (p : Addr × Obj) : List (Addr × Obj) → List (Addr × Obj) → Prop
  | head {r} : Pull p (p :: r) r
  | tail {q l r} : Pull p l r → Pull p (q :: l) (q :: r)
theorem Pull.sub {p : Addr × Obj} {l r : List (Addr × Obj)} (h : Pull p l r) : ∀ q ∈ p :: r, q ∈ l := by
  induction h with
  | head => exact fun _ h => h
  | tail _ ih =>
    intro q hq
    rcases List.mem_cons.mp hq with rfl | hq
    · exact .tail _ (ih _ (.head _))
    · rcases List.mem_cons.mp hq with rfl | hq
      · exact .head _
      · exact .tail _ (ih _ (.tail _ hq))
theorem pull_news {h₀ h : Heap} {L : Addr} {p : Addr × Obj} {l r : List (Addr × Obj)} (N : News h₀ L h l) (hp : Pull p l r) : News h₀ L h (p :: r) := fun q hq => N q (hp.sub q hq)

theorem ne_of_allLt {d : Addr} {l : List (Addr × Obj)} (h : AllLt d l) : ∀ p ∈ l, p.1 ≠ d := fun p hp => Nat.ne_of_lt (ktn_ltOf h p hp)

/-- tuples alone -/
def Tups (tl : List (Addr × Obj)) : Prop := ∀ p ∈ tl, p.2.cls = .type "tuple"
theorem tups_ne {h₀ h : Heap} {L d : Addr} {o : Obj} {tl news : List (Addr × Obj)} (N : News h₀ L h news) (T : Tups tl) (hs : ∀ p ∈ tl, p ∈ news) (hm : (d, o) ∈ news) (hc : o.cls ≠ .type "tuple") : ∀ p ∈ tl, p.1 ≠ d := by
  intro p hp e
  have h1 := (N p (hs p hp)).1
  have h2 := (N _ hm).1
  rw [e] at h1
  have h3 := h1.symm.trans h2
  exact hc ((congrArg Obj.cls (Option.some.inj h3)) ▸ T p hp)

theorem lines1 : True := by
  k_with "mine allLt" => (first | (first | assumption | exact And.right (by assumption) | exact And.right (And.right (by assumption)) | exact And.right (And.right (And.right (by assumption))) | exact And.right (And.right (And.right (And.right (by assumption)))) | exact And.right (And.right (And.right (And.right (And.right (by assumption))))) | exact And.right (And.right (And.right (And.right (And.right (And.right (by assumption)))))) | exact And.right (And.right (And.right (And.right (And.right (And.right (And.right (by assumption))))))) | exact And.right (And.right (And.right (And.right (And.right (And.right (And.right (And.right (by assumption))))))))) | fail)
  trivial

/-- what stood ahead of the frame lies below -/
structure RestLt (d : Addr) (l : List (Addr × Obj)) : Prop where
  h : AllLt d l
theorem ne_of_restLt {d d' : Nat} {l : List (Addr × Obj)} (h : RestLt d' l) (hle : d' ≤ d) : ∀ p ∈ l, p.1 ≠ d := fun p hp => Nat.ne_of_lt (Nat.lt_of_lt_of_le (ktn_ltOf h.h p hp) hle)
theorem lines2 : True := by
  k_with "mine in" => (first | (first | assumption | (refine List.mem_append.mpr (Or.inl ?_); k_extra "mine in") | (refine List.mem_append.mpr (Or.inr ?_); k_extra "mine in") | (refine List.mem_cons_of_mem _ ?_; k_extra "mine in")) | fail)
  k_with "mine pull" => (first | (first | exact Pull.head | (refine' Pull.tail ?ptq3; (case ptq3 => k_extra "mine pull"))) | fail)
  k_with "own k_ne" => (first | ((refine neN ?_; (try dsimp only); first | with_reducible assumption | exact Ne.symm (by with_reducible assumption) | exact Nat.ne_of_lt (by with_reducible assumption) | exact Nat.ne_of_gt (by with_reducible assumption) | exact Nat.ne_of_lt (And.left (by with_reducible assumption)) | exact Nat.ne_of_gt (And.left (by with_reducible assumption)) | exact Nat.ne_of_lt (And.left (And.right (by with_reducible assumption))) | exact Nat.ne_of_gt (And.left (And.right (by with_reducible assumption))) | exact Nat.ne_of_lt (And.left (And.right (And.right (by with_reducible assumption)))) | exact Nat.ne_of_gt (And.left (And.right (And.right (by with_reducible assumption)))) | exact Nat.ne_of_lt (And.left (And.right (And.right (And.right (by with_reducible assumption))))) | exact Nat.ne_of_gt (And.left (And.right (And.right (And.right (by with_reducible assumption))))) | exact Nat.ne_of_lt (And.left (And.right (And.right (And.right (And.right (by with_reducible assumption)))))) | exact Nat.ne_of_gt (And.left (And.right (And.right (And.right (And.right (by with_reducible assumption)))))) | exact Nat.ne_of_lt (And.left (And.right (And.right (And.right (And.right (And.right (by with_reducible assumption))))))) | exact Nat.ne_of_gt (And.left (And.right (And.right (And.right (And.right (And.right (by with_reducible assumption))))))) | exact Nat.ne_of_lt (And.left (And.right (And.right (And.right (And.right (And.right (And.right (by with_reducible assumption)))))))) | exact Nat.ne_of_gt (And.left (And.right (And.right (And.right (And.right (And.right (And.right (by with_reducible assumption)))))))) | exact Nat.ne_of_lt (And.left (And.right (And.right (And.right (And.right (And.right (And.right (And.right (by with_reducible assumption))))))))) | exact Nat.ne_of_gt (And.left (And.right (And.right (And.right (And.right (And.right (And.right (And.right (by with_reducible assumption))))))))) | exact (And.left (by with_reducible assumption)) | exact Ne.symm (And.left (by with_reducible assumption)) | exact (And.left (And.right (by with_reducible assumption))) | exact Ne.symm (And.left (And.right (by with_reducible assumption))) | exact (And.right (by with_reducible assumption)) | exact Ne.symm (And.right (by with_reducible assumption)) | exact (And.right (And.right (by with_reducible assumption))) | exact Ne.symm (And.right (And.right (by with_reducible assumption))) | exact (And.left (And.right (And.right (by with_reducible assumption)))) | exact Ne.symm (And.left (And.right (And.right (by with_reducible assumption)))) | omega)) | fail)
  k_with "mine offs" => (first | (((try (have z1q5 := off9.1.1)); (try (have z2q5 := off9.1.2.1)); (try (have z3q5 := off9.1.2.2)); (try (have z4q5 := off9.2.1.1)); (try (have z5q5 := off9.2.1.2.1)); (try (have z6q5 := off9.2.1.2.2)); (try (have z7q5 := off9.2.2.1.1)); (try (have z8q5 := off9.2.2.1.2.1)); (try (have z9q5 := off9.2.2.1.2.2)); (try (have z10q5 := off9.2.2.2.1.1)); (try (have z11q5 := off9.2.2.2.1.2.1)); (try (have z12q5 := off9.2.2.2.1.2.2)); (try (have z13q5 := off9.2.2.2.2.1.1)); (try (have z14q5 := off9.2.2.2.2.1.2.1)); (try (have z15q5 := off9.2.2.2.2.1.2.2)); (try (have z16q5 := off9.2.2.2.2.2.1.1)); (try (have z17q5 := off9.2.2.2.2.2.1.2.1)); (try (have z18q5 := off9.2.2.2.2.2.1.2.2)))) | fail)
  k_with "own k_all" => (first | (first | with_reducible assumption | (refine' ne_of_restLt ?rraq6 ?rrbq6; (case rraq6 => with_reducible assumption); (case rrbq6 => omega)) | (refine' List.forall_mem_append.mpr ⟨?kpaq6, ?kpbq6⟩; (case kpaq6 => k_all); (case kpbq6 => k_all)) | (refine' tups_ne ?tnq6 ?ttq6 ?tsq6 ?tmq6 ?tcq6; (case ttq6 => assumption); (case tnq6 => k_asm); (case tsq6 => intro p9q6 h9q6; k_extra "mine in"); (case tmq6 => k_mem); (case tcq6 => dsimp only; decide))) | fail)
  trivial

theorem om1 {n : Nat} {z : Int} (e : n = (z - 0).toNat) (h0 : 0 ≤ z) (h4 : z < 4) : n ≤ 3 := by omega
theorem om2 {a b : Nat} (h : a ≤ 3) (h' : b ≤ 1) : a + b ≤ 5 := by omega
theorem len8 {n m k : Nat} (e2 : n = m) (e1 : n = ((k : Int) - 0).toNat) (h : k ≤ 5) : m ≤ 8 := by omega
theorem len63 {a b : Nat} (h : a ≤ b) (h3 : b ≤ 3) : (a : Int) < 2 ^ 63 := by omega
theorem len63a {a : Nat} (h3 : a ≤ 5) : (a : Int) < 2 ^ 63 := by omega
theorem lines3 : True := by
  k_with "call builtin:len" => (first | ((k_here; (with_reducible show wpAny _ _ (call (Value.builtin "len") [Value.ref _]) _ _ _); k_dflt (refine' kst_len ?k1q7 ?k2q7 ?k3q7 ?k4q7 ?_; (case k1q7 => k_asm); (case k2q7 => k_mem); (case k3q7 => exact rfl); (case k4q7 => first | exact len63a (by with_reducible assumption) | exact len63 (by with_reducible assumption) (by with_reducible assumption) | omega); k_whole))) | fail)
  trivial


section
variable {prog : Program} {w : World} {A : Around} {E : Value → Shared → Prop} {s : Shared} {x y : Str} {t u : Tok} {Q : Value → Shared → Prop}
theorem eqs_tt (e : (x == y) = true) (h : Q (.bool true) s) : wpAny (model prog w) A (compareOp .Eq (.str x t) (.str y u)) Q E s := eq_str (by rw [e]; exact h)
theorem eqs_ff (e : (x == y) = false) (h : Q (.bool false) s) : wpAny (model prog w) A (compareOp .Eq (.str x t) (.str y u)) Q E s := eq_str (by rw [e]; exact h)
theorem nes_tt (e : (x != y) = true) (h : Q (.bool true) s) : wpAny (model prog w) A (compareOp .NotEq (.str x t) (.str y u)) Q E s := ne_str (by rw [e]; exact h)
theorem nes_ff (e : (x != y) = false) (h : Q (.bool false) s) : wpAny (model prog w) A (compareOp .NotEq (.str x t) (.str y u)) Q E s := ne_str (by rw [e]; exact h)
end
theorem lines4 : True := by
  k_with "ite" => (first | (first | with_reducible refine ite_tt ?_ | with_reducible refine ite_ff ?_) | fail)
  k_with "compareOp Eq str str" => (first | (first | (refine' eqs_ff ?eaq9 ?_; (case eaq9 => kernel_rfl!)) | (refine' eqs_tt ?eaq9 ?_; (case eaq9 => kernel_rfl!))) | fail)
  k_with "compareOp NotEq str str" => (first | (first | (refine' nes_ff ?eaq10 ?_; (case eaq10 => kernel_rfl!)) | (refine' nes_tt ?eaq10 ?_; (case eaq10 => kernel_rfl!))) | fail)
  k_with "mine enter" => (first | ((refine wpAny_call ?_; (first | k_dflt cell_enter | fail "mine enter: the def is not entered"))) | fail)
  k_with "mine enterC" => (first | ((refine wpAny_call ?_; k_dflt (refine' code_defC ?k1q12 ?k2q12 ?k3q12 ?k4q12 ?k5q12 ?kAq12 ?kFq12 ?kKq12 ?k6q12 ?k7q12 ?k8q12 ?k9q12 ?kBq12 ?kDq12 ?_ ?c2q12 ?c3q12 ?c4q12; (case kAq12 => exact rfl); (case kFq12 => exact rfl); (case kKq12 => first | exact rfl | assumption); (case k1q12 => k_asm); (case k2q12 => k_asm); (case k3q12 => k_asm); (case k4q12 => k_asm); (case k5q12 => k_asm); (case k6q12 => k_is); (case k7q12 => k_is); (case k8q12 => ktr_room); (case k9q12 => first | exact BindsTo.of_eq rfl | exact binds_K (by k_in) rfl (by k_is) rfl rfl rfl); (case kBq12 => exact rfl); (case kDq12 => decide +kernel); (case c2q12 => exact rfl); (case c3q12 => exact rfl); (case c4q12 => exact rfl); k_whole; intro g'q12 L'q12 h'q12 tk'q12 cells'q12 FG'q12 F'q12 N'q12 Y'q12 B'q12 X'q12 T'q12 l1q12; (try k_lt l1q12); k_cells Y'q12; (try simp only [List.cons_append, List.nil_append] at N'q12); (try dsimp only); (try k_lift B'q12); (try k_fold)))) | fail)
  k_with "mine step" => (first | (first | (k_unfold; (try dsimp only)) | (walk1; all_goals (try dsimp only)) | (leave1; walk_say "STEP leave1"; all_goals (try dsimp only))) | fail)
  k_with "mine steps" => (first | (repeat' (k_extra "mine step")) | fail)
  trivial


/-- the walk stands still here -/
def Stop (P : Prop) : Prop := P
theorem stop_of {P : Prop} (h : Stop P) : P := h

/-- the new lie above the old -/
def Above (tl old : List (Addr × Obj)) : Prop := ∀ p ∈ tl, ∀ q ∈ old, @LT.lt Nat _ q.1 p.1

section
variable {prog : Program} {w : World} {A : Around} {s : Shared} {h₀ : Heap} {L : Addr} {m : Str → Option Value} {env : Env}
/-- a comprehension by what holds of the list made so far and of the ledger -/
theorem compRest_inv {elt : Expr} {x : Str} {scope : Scope} {cl : List (Str × Addr)} {S : List (Addr × Obj) → Prop} {P : Nat → Value → Prop} {Fin : List Value → List (Addr × Obj) → Prop} (n : Nat) (Inv : Nat → List Value → List (Addr × Obj) → Prop)
    (step : ∀ i ys news, i < n → Inv i ys news → ∀ v I oI C oC D m₂ h tk (E' : Value → Shared → Prop), P i v → LCg.NsObj oC m₂ → m₂ x = some v → Fr h₀ L h m → News h₀ L h ((I, oI) :: (C, oC) :: (D, LCg.lst ys) :: news) → LCg.Off3 I C D news → ((@Ne Nat I C) ∧ (@Ne Nat I D) ∧ (@Ne Nat C D)) →
      wpAny (model prog w) A (eval elt (compEnvC scope cl C env)) (LCg.CompEnd h₀ L m { s with heap := h, toks := tk } I oI C oC D (LCg.lst ys) S (fun y news' => Inv (i + 1) (ys ++ [y]) news')) E' { s with heap := h, toks := tk })
    (fin : ∀ ys news, Inv n ys news → Fin ys news) : ∀ k i ys news, i + k = n → Inv i ys news → LCg.CompRest prog w A h₀ L m env elt x scope cl s S P Fin k i ys news := by
  intro k
  induction k with
  | zero =>
    intro i ys news hk hI
    have e : i = n := by omega
    subst e
    exact LCg.CompRest.zero (fin _ _ hI)
  | succ k ih =>
    intro i ys news hk hI
    refine LCg.CompRest.succ fun v I oI C oC D m₂ h tk E' hv hC hx F N off ne => ?_
    refine wpAny_mono (step i ys news (by omega) hI v I oI C oC D m₂ h tk E' hv hC hx F N off ne) (fun y s' hE => ?_) fun _ _ e => e
    obtain ⟨h', tk', news', e, F', N', off', hS, hI'⟩ := hE
    exact ⟨h', tk', news', e, F', N', off', hS, ih _ _ _ (by omega) hI'⟩
/-- the same, with a test -/
theorem compRestT_inv {ct elt : Expr} {x : Str} {scope : Scope} {cl : List (Str × Addr)} {S : List (Addr × Obj) → Prop} {P : Nat → Value → Prop} {Fin : List Value → List (Addr × Obj) → Prop} (n : Nat) (Inv : Nat → List Value → List (Addr × Obj) → Prop)
    (step : ∀ i ys news, i < n → Inv i ys news → ∀ v I oI C oC D m₂ h tk (E' : Value → Shared → Prop), P i v → LCg.NsObj oC m₂ → m₂ x = some v → Fr h₀ L h m → News h₀ L h ((I, oI) :: (C, oC) :: (D, LCg.lst ys) :: news) → LCg.Off3 I C D news → ((@Ne Nat I C) ∧ (@Ne Nat I D) ∧ (@Ne Nat C D)) →
      wpAny (model prog w) A (isTrue ct (compEnvC scope cl C env) (eval ct (compEnvC scope cl C env))) (fun ok s' => if ok = true then
        wpAny (model prog w) A (eval elt (compEnvC scope cl C env)) (LCg.CompEnd h₀ L m { s with heap := h, toks := tk } I oI C oC D (LCg.lst ys) S (fun y news' => Inv (i + 1) (ys ++ [y]) news')) E' s'
        else LCg.CompEnd h₀ L m { s with heap := h, toks := tk } I oI C oC D (LCg.lst ys) S (fun _ news' => Inv (i + 1) ys news') Value.none s') E' { s with heap := h, toks := tk })
    (fin : ∀ ys news, Inv n ys news → Fin ys news) : ∀ k i ys news, i + k = n → Inv i ys news → LCt.CompRestT prog w A h₀ L m env ct elt x scope cl s S P Fin k i ys news := by
  intro k
  induction k with
  | zero =>
    intro i ys news hk hI
    have e : i = n := by omega
    subst e
    exact LCt.CompRestT.zero (fin _ _ hI)
  | succ k ih =>
    intro i ys news hk hI
    refine LCt.CompRestT.succ fun v I oI C oC D m₂ h tk E' hv hC hx F N off ne => ?_
    have up : ∀ {y : Value} {s' : Shared} {J : Value → List (Addr × Obj) → Prop} {J' : Value → List (Addr × Obj) → Prop}, (∀ nw, J y nw → J' y nw) →
        LCg.CompEnd h₀ L m { s with heap := h, toks := tk } I oI C oC D (LCg.lst ys) S J y s' → LCg.CompEnd h₀ L m { s with heap := h, toks := tk } I oI C oC D (LCg.lst ys) S J' y s' := by
      rintro y s' J J' hJ ⟨h', tk', news', e, F', N', off', hS, hI'⟩
      exact ⟨h', tk', news', e, F', N', off', hS, hJ _ hI'⟩
    refine wpAny_mono (step i ys news (by omega) hI v I oI C oC D m₂ h tk E' hv hC hx F N off ne) (fun ok s' hE => ?_) fun _ _ e => e
    cases ok with
    | true =>
      simp only [if_true] at hE ⊢
      exact wpAny_mono hE (fun y s₂ h2 => up (fun nw hn => ih _ _ _ (by omega) hn) h2) fun _ _ e => e
    | false =>
      simp only [Bool.false_eq_true, if_false] at hE ⊢
      exact up (fun nw hn => ih _ _ _ (by omega) hn) hE
end

theorem lines5 : True := by
  k_with "own k_room" => (first | (ktr_room) | fail)
  k_with "own ke_room" => (first | ((have hcL9q16 := cLine_is; (try simp only [units_in1, units_deeper, Around.mark_units]); (try dsimp only [ktrTop]); omega)) | fail)
  k_with "own k_mem" => (first | (((fail_if_success (with_reducible refine List.Mem.tail _ ?_)); with_reducible_and_instances assumption)) | fail)
  trivial


section
variable {prog : Program} {w : World} {A : Around} {E : Value → Shared → Prop} {s : Shared} {b : Addr} {ys : List PyData} {bs : List Addr} {t : Tok} {Q : Value → Shared → Prop}
theorem int_eq_tup {i : Int} (rb : Reads s.heap (.ref b) (.tuple ys) bs) (hb : SeqAt.shaped (.tuple ys) = true) (hu : A.units + 64 < cLine) (h : Q (.bool false) s) : wpAny (model prog w) A (compareOp .Eq (.int i t) (.ref b)) Q E s :=
  eq_dataH (Reads.int _ _) rb (by rfl) hb hu (by have e : PyData.eqv (.int i) (.tuple ys) = false := (by simp [PyData.eqv]); rw [e]; exact h)
theorem str_eq_tup {x : Str} (hx : SeqAt.shaped (.str x) = true) (rb : Reads s.heap (.ref b) (.tuple ys) bs) (hb : SeqAt.shaped (.tuple ys) = true) (hu : A.units + 64 < cLine) (h : Q (.bool false) s) : wpAny (model prog w) A (compareOp .Eq (.str x t) (.ref b)) Q E s :=
  eq_dataH (Reads.str _ _) rb hx hb hu (by have e : PyData.eqv (.str x) (.tuple ys) = false := (by simp [PyData.eqv]); rw [e]; exact h)
end
theorem lines6 : True := by
  k_with "compareOp Eq int ref" => (first | ((k_here; k_dflt (refine' int_eq_tup ?raq18 ?rbq18 ?rcq18 ?_; (case raq18 => ked_read); (case rbq18 => ked_shaped); (case rcq18 => ke_room)))) | fail)
  k_with "compareOp Eq str ref" => (first | ((k_here; k_dflt (refine' str_eq_tup ?rxq19 ?raq19 ?rbq19 ?rcq19 ?_; (case rxq19 => first | with_reducible assumption | rfl | decide); (case raq19 => ked_read); (case rbq19 => ked_shaped); (case rcq19 => ke_room)))) | fail)
  trivial

theorem execs_app_eq {rest : List Stmt} {env : Env} : ∀ pre : List Stmt, execs (pre ++ rest) env = (execs pre env >>= fun fl => match fl with | .next => execs rest env | f => pure f)
  | [] => by rw [List.nil_append, execs_nil, pure_bind]
  | st :: pre => by
    rw [List.cons_append, execs_cons, execs_cons, bind_assoc]
    refine congrArg _ (funext fun f => ?_)
    cases f with
    | next => exact execs_app_eq pre
    | ret v => rw [pure_bind]
    | brk => rw [pure_bind]
    | cont => rw [pure_bind]

section
variable {M : Model} {A : Around} {E : Value → Shared → Prop} {Q : Flow → Shared → Prop} {env : Env} {s : Shared}
theorem split_at {pre rest : List Stmt} (P : Shared → Prop) (h1 : wpAny M A (execs pre env) (fun fl s' => fl = .next ∧ P s') E s) (h2 : ∀ s', P s' → wpAny M A (execs rest env) Q E s') : wpAny M A (execs (pre ++ rest) env) Q E s := by
  rw [execs_app_eq]
  refine wpAny_bind (wpAny_mono h1 (fun fl s' h => ?_) fun _ _ e => e)
  obtain ⟨rfl, hP⟩ := h
  exact h2 s' hP
theorem split2 {s0 s1 : Stmt} {rest : List Stmt} (P : Shared → Prop) (h1 : wpAny M A (execs [s0, s1] env) (fun fl s' => fl = .next ∧ P s') E s) (h2 : ∀ s', P s' → wpAny M A (execs rest env) Q E s') : wpAny M A (execs (s0 :: s1 :: rest) env) Q E s :=
  split_at (pre := [s0, s1]) P h1 h2
end
/-- the frame and the ledger stand as they stood -/
inductive StS (h₀ : Heap) (L : Addr) (m : Str → Option Value) (nw : List (Addr × Obj)) (s s' : Shared) : Prop
  | intro (h : Heap) (tk : Nat) (e : s' = { s with heap := h, toks := tk }) (F : Fr h₀ L h m) (N : News h₀ L h nw) : StS h₀ L m nw s s'
theorem sts_intro {h₀ h : Heap} {L : Addr} {m : Str → Option Value} {nw all : List (Addr × Obj)} {s : Shared} {tk : Nat} (F : Fr h₀ L h m) (N : News h₀ L h all) (hs : ∀ p ∈ nw, p ∈ all) : StS h₀ L m nw s { s with heap := h, toks := tk } := .intro h tk rfl F fun p hp => N p (hs p hp)
theorem split_s2 {M : Model} {A : Around} {E : Value → Shared → Prop} {Q : Flow → Shared → Prop} {env : Env} {s : Shared} {h₀ : Heap} {L : Addr} {m : Str → Option Value} {nw : List (Addr × Obj)} {s0 s1 : Stmt} {rest : List Stmt} (_ : Fr h₀ L s.heap m) (_ : News h₀ L s.heap nw)
    (h1 : wpAny M A (execs [s0, s1] env) (fun fl s' => fl = .next ∧ StS h₀ L m nw s s') E s) (k : ∀ h tk, Fr h₀ L h m → News h₀ L h nw → wpAny M A (execs rest env) Q E { s with heap := h, toks := tk }) : wpAny M A (execs (s0 :: s1 :: rest) env) Q E s :=
  split2 _ h1 fun s' h9 => by cases h9 with | intro h tk e F N => subst e; exact k h tk F N
/-- a token: the walk is to stand still at the next test -/
def Halt : Prop := True
theorem halt : Halt := trivial
theorem lines7 : True := by
  k_with "exec If" => (first | (((with_reducible rename Halt => hH9q20); clear hH9q20; refine stop_of ?_)) | fail)
  trivial

/-- a test that goes on -/
def Same (h₀ : Heap) (L : Addr) (m : Str → Option Value) (s : Shared) (nw : List (Addr × Obj)) (fl : Flow) (s' : Shared) : Prop :=
  fl = .next ∧ ∃ h tk, s' = { s with heap := h, toks := tk } ∧ Fr h₀ L h m ∧ News h₀ L h nw
section
variable {M : Model} {A : Around} {E : Value → Shared → Prop} {Q : Flow → Shared → Prop} {s : Shared} {h₀ : Heap} {L : Addr} {m : Str → Option Value} {t : Sem Flow} {nw : List (Addr × Obj)}
theorem cut_same (F : Fr h₀ L s.heap m) (N : News h₀ L s.heap nw) (k : wpAny M A t (Same h₀ L m s nw) E s) (k2 : ∀ h tk', Fr h₀ L h m → News h₀ L h nw → Q .next { s with heap := h, toks := tk' }) : wpAny M A t Q E s :=
  wpAny_mono k (fun fl s' h9 => by obtain ⟨e, h, tk', e', F', N'⟩ := h9; subst e; subst e'; exact k2 h tk' F' N') fun _ _ e => e
theorem same_end {h : Heap} {tk' : Nat} {all : List (Addr × Obj)} (F : Fr h₀ L h m) (N : News h₀ L h all) (hs : ∀ p ∈ nw, p ∈ all) : Same h₀ L m s nw .next { s with heap := h, toks := tk' } := ⟨rfl, h, tk', rfl, F, fun p hp => N p (hs p hp)⟩
end

section
open PySem PySem.W PyProof.Rows
noncomputable def DK {α : Type} : Sem α → Prop
  | .pure _ => True
  | .raise _ => True
  | .unsupported _ => True
  | .finish _ => True
  | .rule _ k => DK (k ())
  | .at _ k => DK (k ())
  | .load _ _ k => ∀ o, DK (k o)
  | .update _ _ f k => (∀ o, (f o).dict = o.dict ∧ (o.isFreed = false → (f o).isFreed = false)) ∧ DK (k ())
  | .loadIfAlive _ k => ∀ o, DK (k o)
  | .point _ k => DK (k ())
  | .alloc _ k => ∀ a, DK (k a)
  | .fresh k => ∀ t, DK (k t)
  | .ask k => ∀ x, DK (k x)
  | .stack k => ∀ x, DK (k x)
  | .handled _ k => ∀ x, DK (k x)
  | _ => False

def DictAt (h : Heap) (e : Addr) (dx : Option Addr) : Prop := ∃ o, h.get? e = some o ∧ o.dict = dx

theorem DictAt.push {h : Heap} {e : Addr} {dx : Option Addr} (x : DictAt h e dx) (o : Obj) : DictAt (h.push o) e dx :=
  let ⟨o', h1, h2⟩ := x; ⟨o', Heap.get?_push_of_some _ h1, h2⟩
theorem get?_freed {h : Heap} {a : Addr} {o : Obj} (x : h.get? a = some o) : o.isFreed = false := (Heap.get?_some_iff.mp x).2
theorem DictAt.update {h : Heap} {e a : Addr} {dx : Option Addr} {f : Obj → Obj} (x : DictAt h e dx) (hf : ∀ o, (f o).dict = o.dict ∧ (o.isFreed = false → (f o).isFreed = false)) : DictAt (h.update a f) e dx := by
  obtain ⟨o, h1, h2⟩ := x
  by_cases q : a = e
  · subst q
    exact ⟨f o, Heap.get?_update_self f h1 ((hf o).2 (get?_freed h1)), (hf o).1.trans h2⟩
  · exact ⟨o, (Heap.get?_update_other _ _ q).trans h1, h2⟩

theorem wp_dk {α : Type} (M : Model) (Γ : Ctx) (e : Addr) (dx : Option Addr) : ∀ (t : Sem α) (Q : α → Pos → Shared → Prop) (E : Value → Pos → Shared → Prop) (p : Pos) (s : Shared),
    DK t → DictAt s.heap e dx → Sem.wp M Γ t Q E p s → Sem.wp M Γ t (fun a p s' => Q a p s' ∧ DictAt s'.heap e dx) (fun x p s' => E x p s' ∧ DictAt s'.heap e dx) p s := by
  intro t
  induction t with
  | pure a => intro Q E p s _ hd h; rw [Sem.wp] at h ⊢; exact ⟨h, hd⟩
  | raise a => intro Q E p s _ hd h; rw [Sem.wp] at h ⊢; exact ⟨h, hd⟩
  | «unsupported» a => intro Q E p s _ hd h; rw [Sem.wp] at h; exact h.elim
  | finish a => intro Q E p s _ hd h; rw [Sem.wp] at h; exact h.elim
  | rule t k ih => intro Q E p s k hd h; rw [Sem.wp] at h ⊢; exact ih () _ _ _ _ k hd h
  | «at» t k ih => intro Q E p s k hd h; rw [Sem.wp] at h ⊢; exact ih () _ _ _ _ k hd h
  | load a t k ih => intro Q E p s k hd h; rw [Sem.wp] at h ⊢; obtain ⟨o, h1, h2⟩ := h; exact ⟨o, h1, ih o _ _ _ _ (k o) hd h2⟩
  | update a t f k ih => intro Q E p s k hd h; rw [Sem.wp] at h ⊢; exact ⟨h.1, ih () _ _ _ _ k.2 (hd.update k.1) h.2⟩
  | loadIfAlive a k ih => intro Q E p s k hd h; rw [Sem.wp] at h ⊢; exact ih _ _ _ _ _ (k _) hd h
  | point a k ih => intro Q E p s k hd h; rw [Sem.wp] at h ⊢; exact ih _ _ _ _ _ k hd h
  | alloc o k ih => intro Q E p s k hd h; rw [Sem.wp] at h ⊢; exact ih _ _ _ _ _ (k _) (hd.push o) h
  | fresh k ih => intro Q E p s k hd h; rw [Sem.wp] at h ⊢; exact ih _ _ _ _ _ (k _) hd h
  | ask k ih => intro Q E p s k hd h; rw [Sem.wp] at h ⊢; exact ih _ _ _ _ _ (k _) hd h
  | stack k ih => intro Q E p s k hd h; rw [Sem.wp] at h ⊢; exact ih _ _ _ _ _ (k _) hd h
  | handled o k ih => intro Q E p s k hd h; rw [Sem.wp] at h ⊢; exact ih _ _ _ _ _ (k _) hd h
  | _ => intro Q E p s k hd h; exact (show False from k).elim

theorem wpAny_dk {α : Type} {M : Model} {A : Around} {e : Addr} {dx : Option Addr} {t : Sem α} {Q : α → Shared → Prop} {E : Value → Shared → Prop} {s : Shared} (k : DK t) (hd : DictAt s.heap e dx)
    (h : wpAny M A t Q E s) : wpAny M A t (fun a s' => Q a s' ∧ DictAt s'.heap e dx) (fun x s' => E x s' ∧ DictAt s'.heap e dx) s :=
  fun Γ p hΓ => wp_dk M Γ e dx t _ _ p s k hd (h Γ p hΓ)

theorem DK_bind {α β : Type} : ∀ {t : Sem α} {f : α → Sem β}, DK t → (∀ a, DK (f a)) → DK (t >>= f) := by
  intro t f
  show DK t → _ → DK (t.bind f)
  induction t with
  | pure a => intro _ k; exact k a
  | raise a => intro _ k; trivial
  | «unsupported» a => intro _ k; trivial
  | finish a => intro _ k; trivial
  | rule t k ih => intro h k'; rw [Sem.bind]; exact ih () h k'
  | «at» t k ih => intro h k'; rw [Sem.bind]; exact ih () h k'
  | load a t k ih => intro h k'; rw [Sem.bind]; exact fun o => ih o (h o) k'
  | update a t f k ih => intro h k'; rw [Sem.bind]; exact ⟨h.1, ih () h.2 k'⟩
  | loadIfAlive a k ih => intro h k'; rw [Sem.bind]; exact fun o => ih o (h o) k'
  | point a k ih => intro h k'; rw [Sem.bind]; exact ih () h k'
  | alloc o k ih => intro h k'; rw [Sem.bind]; exact fun o => ih o (h o) k'
  | fresh k ih => intro h k'; rw [Sem.bind]; exact fun o => ih o (h o) k'
  | ask k ih => intro h k'; rw [Sem.bind]; exact fun o => ih o (h o) k'
  | stack k ih => intro h k'; rw [Sem.bind]; exact fun o => ih o (h o) k'
  | handled o k ih => intro h k'; rw [Sem.bind]; exact fun o => ih o (h o) k'
  | _ => intro h; exact (show False from h).elim

theorem DK_pure {α : Type} (a : α) : DK (pure a : Sem α) := trivial
theorem DK_unsup {α : Type} (a : String) : DK (unsupported a : Sem α) := trivial
theorem DK_ite {α : Type} {c : Prop} [Decidable c] {a b : Sem α} (x : DK a) (y : DK b) : DK (if c then a else b) := by split <;> assumption
theorem mapFields_keep (f : Array Value → Array Value) (o : Obj) : (Obj.mapFields f o).dict = o.dict ∧ (o.isFreed = false → (Obj.mapFields f o).isFreed = false) := by
  obtain ⟨c, d, dt, sl⟩ := o
  cases dt <;> exact ⟨rfl, fun h => by first | rfl | exact h⟩
theorem DK_load (a : Addr) : DK (load a) := fun _ => trivial
theorem DK_fieldsOf (v : Value) : DK (fieldsOf v) := by
  unfold fieldsOf
  cases v with
  | ref a => exact DK_bind (DK_load a) fun o => by (try dsimp only); split <;> trivial
  | _ => trivial
theorem DK_field (v : Value) (i : Nat) : DK (field v i) := by
  unfold field
  refine DK_bind (DK_fieldsOf v) fun a => ?_
  split <;> trivial
theorem DK_setField (v : Value) (i : Nat) (x : Value) : DK (setField v i x) := by
  unfold setField
  cases v with
  | ref a =>
    unfold updateField
    refine DK_bind (DK_load a) fun o => ?_
    split
    · split
      · exact ⟨fun o => mapFields_keep _ o, trivial⟩
      · trivial
    · trivial
  | _ => trivial
theorem DK_stack : DK stack := fun _ => trivial
theorem DK_frameEnvs : DK frameEnvs := DK_bind DK_stack fun _ => trivial
theorem DK_under : DK underTheClaimsCaller := by
  unfold underTheClaimsCaller
  exact DK_bind DK_stack fun _ => trivial
theorem DK_keptBack (env : Env) (b : Bool) (l : List Env) : DK (keptBack env b l) := by
  unfold keptBack
  cases l with
  | nil =>
    dsimp only
    split
    · trivial
    · exact DK_bind DK_under fun _ => trivial
  | cons _ _ => trivial
theorem DK_behind (env : Env) (l : List Env) : DK (behindIsImport env l) := by
  unfold behindIsImport
  try dsimp only
  split
  · trivial
  · split
    · trivial
    · exact DK_bind (DK_field _ _) fun _ => trivial
theorem DK_readyFrames : ∀ l : List Env, DK (readyFrames l)
  | [] => trivial
  | env :: outer => by
    rw [readyFrames]
    split
    · refine DK_bind (DK_load _) fun o => ?_
      split
      · trivial
      · refine DK_bind (DK_behind _ _) fun _ => DK_bind (DK_keptBack _ _ _) fun _ => DK_bind ⟨fun o => ⟨rfl, fun h => (kts_isFreed o _).trans h⟩, trivial⟩ fun _ => DK_readyFrames outer
    · trivial
theorem DK_frameObject : ∀ l : List Env, DK (frameObject l)
  | [] => trivial
  | _ :: _ => DK_bind (DK_readyFrames _) fun _ => trivial
theorem DK_frameOf (env : Env) : DK (PySem.frameOf env) := by
  unfold PySem.frameOf
  refine DK_bind DK_frameEnvs fun _ => DK_bind (DK_frameObject _) fun o => ?_
  cases o <;> trivial
theorem DK_entryPlaceOf (f : Addr) (b : Bool) : DK (entryPlaceOf f b) := by
  unfold entryPlaceOf
  refine DK_bind DK_stack fun _ => ?_
  split <;> trivial
theorem DK_newAs (x : String) (y : Data) : DK (newObjAsIs (.type x) y) := fun _ => trivial
theorem DK_newEntry (a b c d e : Value) (pl : List Value) : DK (EntryCells.newEntry a b c d e pl) := by
  unfold EntryCells.newEntry newFields newObj
  dsimp only
  have z : ∀ x y, DK (newObjAsIs (.type x) y) := fun x y => DK_newAs x y
  split
  all_goals split
  all_goals first
    | exact z _ _
    | exact DK_bind (show DK (unsupported _ : Sem PUnit) from trivial) fun _ => z _ _
theorem DK_setFlight (v : Value) (f : Option Addr) : DK (setFlight v f) := by
  unfold setFlight
  refine DK_bind (DK_field _ _) fun a => ?_
  split
  · exact DK_setField _ _ _
  · trivial
theorem DK_noteFrame (v : Value) (env : Env) : DK (noteFrame v env) := by
  unfold noteFrame
  split
  · refine DK_bind (DK_field _ _) fun a => ?_
    have z : ∀ f, DK (do setField v 1 (← EntryCells.newEntry a (← PySem.frameOf env) .none (rawInt f) .none (← entryPlaceOf f (a != .none)))) := fun f =>
      DK_bind (DK_frameOf _) fun _ => DK_bind (DK_entryPlaceOf _ _) fun _ => DK_bind (DK_newEntry _ _ _ _ _ _) fun _ => DK_setField _ _ _
    split
    · refine DK_bind (DK_field _ _) fun b => ?_
      split
      · trivial
      · exact DK_bind (DK_setField _ _ _) fun _ => z _
    · exact z _
  · trivial
theorem DK_leaving (env : Env) (v : Value) : DK (leaving env v) := DK_bind (DK_noteFrame _ _) fun _ => DK_setFlight _ _
end

section
open PySem PySem.W PySem.Calls PyProof.Rows Builtin Builtin.ObjectAttr
section
variable {prog : Program} {w : World} {A : Around} {E : Value → Shared → Prop} {h : Heap} {g : Array GenState} {d : Drawn} {t : Nat} {os : OsState}
variable {nm q : Str} {C N : Addr} {bs bm bmB : List Value} {hdct : Bool} {sn : List Str} {sub : List Value} {ab : Bool} {col : Option Bool} {dd : Option Addr} {k0 k1 k2 k3 k5 : Option Value} {B Bn newId nid initId inN : String} {bmN : List Value}

theorem type_call_init (Fn : ExcBaseFacts Bn newId inN bmN) (hBn : bmB.contains (.type Bn) = true) (F : ExcBaseFacts B nid initId bmB) (T : OwnTail h bmB bm) {mN : Str → Option Value} {rest : List Value} {fI : Addr} {oI : Obj} {Q : Fin → Shared → Prop}
    (hC : h.get? C = some (excClassObj nm q C N bs bm hdct sn sub ab col dd k0 k1 k2 k3 k5 newId)) (hn : h.Ns N mN) (hi : mN "__init__" = some (.ref fI)) (hfI : h.get? fI = some oI) (hfc : oI.cls = .type "function")
    (hq : ∀ h' e, Heap.MadeExcOf h h' e (.ref C) rest → wpAny (model prog w) A (call (.ref fI) (.ref e :: rest)) (fun r s' => r = .none ∧ Q (.done (.ret (.ref e))) s') E ⟨h', g, d, t, os⟩) (hrest : rest.length ≤ sizeLine := by size_fits) :
    wpAny (model prog w) A (Builtin.«type.__call__» ⟨.ref C :: rest, []⟩) Q E ⟨h, g, d, t, os⟩ := by
  repeat (first | with_reducible refine wpAny_loadPart_at hC ?_ | with_reducible refine wpAny_madeBy_exc hC ?_ | wp_step)
  refine codeAny_call_builtin_code (Code.quiet_builtin _ Fn.quiet) (wpAny_check_new_subU Fn hBn T hC ?_)
  refine codeAny_exc_new_subU Fn hBn F T hC ?_ hrest
  show wpAny _ _ _ _ _ _
  have hC₁ := Heap.get?_push_of_some { cls := .ref C, data := .fields #[.ref h.objs.size, .none, .none, .none, .bool false, .none] }
    (Heap.get?_push_of_some { cls := .type "tuple", data := .seq rest.toArray } hC)
  have hfI₁ := Heap.get?_push_of_some { cls := .ref C, data := .fields #[.ref h.objs.size, .none, .none, .none, .bool false, .none] }
    (Heap.get?_push_of_some { cls := .type "tuple", data := .seq rest.toArray } hfI)
  have hn₁ : ((h.push { cls := .type "tuple", data := .seq rest.toArray }).push { cls := .ref C, data := .fields #[.ref h.objs.size, .none, .none, .none, .bool false, .none] }).Ns N mN :=
    let ⟨o, es, ep, e, r⟩ := hn; ⟨o, es, ep, Heap.get?_push_of_some _ (Heap.get?_push_of_some _ e), r⟩
  have hget : ((h.push { cls := .type "tuple", data := .seq rest.toArray }).push
      { cls := .ref C, data := .fields #[.ref h.objs.size, .none, .none, .none, .bool false, .none] }).get? (h.objs.size + 1) = some
      { cls := .ref C, data := .fields #[.ref h.objs.size, .none, .none, .none, .bool false, .none] } := by heap_get
  have hcC : (Value.ref C :: bm).contains (.ref C) = true := by simp
  have T₁ := T.keeps (h' := (h.push { cls := .type "tuple", data := .seq rest.toArray }).push { cls := .ref C, data := .fields #[.ref h.objs.size, .none, .none, .none, .bool false, .none] })
    fun b o e => Heap.get?_push_of_some _ (Heap.get?_push_of_some _ e)
  unfold isInstance
  repeat (first | with_reducible refine wpAny_loadPart_at hget ?_ | (with_reducible refine wpAny_isSubtype_exc hC₁ ?_; rw [hcC]) | wp_step)
  show wpAny _ _ (typeLookup (.ref C) _) _ _ _
  refine wpAny_typeLookup_tail hC₁ hn₁ T₁ F.mroIs F.init.lookup ?_
  rw [hi]
  refine wpAny_holding (wpAny_bind ?_)
  unfold bindSpecial
  refine wpAny_bind (wpAny_typeOf (T := "function") ⟨_, hfI₁, hfc⟩ ?_)
  rw [if_pos (by decide)]
  refine wpAny_pure (wpAny_bind (wpAny_mono (hq _ (h.objs.size + 1) ⟨fun b o hb => Heap.get?_push_of_some _ (Heap.get?_push_of_some _ hb), Heap.get?_none_of_le (Nat.le_succ _), h.objs.size, hget, Heap.get?_none_of_le (Nat.le_refl _), ?_⟩) (fun r s' hr => ?_) fun _ _ x => x))
  · exact Heap.get?_push_of_some _ (Heap.get?_push_at rfl rfl)
  · obtain ⟨rfl, hQ⟩ := hr
    wp_walk
    exact hQ

theorem call_init (Fn : ExcBaseFacts Bn newId inN bmN) (hBn : bmB.contains (.type Bn) = true) (F : ExcBaseFacts B nid initId bmB) (T : OwnTail h bmB bm) {mN : Str → Option Value} {rest : List Value} {fI : Addr} {oI : Obj} {Q : Value → Shared → Prop}
    (hC : h.get? C = some (excClassObj nm q C N bs bm hdct sn sub ab col dd k0 k1 k2 k3 k5 newId)) (hn : h.Ns N mN) (hi : mN "__init__" = some (.ref fI)) (hfI : h.get? fI = some oI) (hfc : oI.cls = .type "function")
    (hq : ∀ h' e, Heap.MadeExcOf h h' e (.ref C) rest → wpAny (model prog w) (A.under (.builtin "type.__call__" ⟨.ref C :: rest, []⟩)) (call (.ref fI) (.ref e :: rest)) (fun r s' => r = .none ∧ Q (.ref e) s') E ⟨h', g, d, t, os⟩)
    (hrest : rest.length ≤ sizeLine := by size_fits) :
    wpAny (model prog w) A (call (.ref C) rest) Q E ⟨h, g, d, t, os⟩ := by
  have f1 := tc_lookup
  have f2 := tc_bind (.ref C)
  have hT : (⟨h, g, d, t, os⟩ : Shared).TypeIs (.ref C) "type" := ⟨_, hC, rfl⟩
  refine wpAny_call (codeAny_of_tree ?_)
  show wpAny _ _ (callAny (.ref C) _) _ _ _
  repeat (any_goals (first | assumption | with_reducible refine wpAny_loadPart_at hC ?_ | wp_step))
  refine ⟨rfl, ?_⟩
  refine codeAny_call_builtin_at (Code.quiet_builtin _ (by decide +kernel)) entry_typeCall (wpAny_check_type_call_sub hC (type_call_init (hrest := hrest) Fn hBn F T hC hn hi hfI hfc fun h' e hm => ?_))
  exact hq h' e hm
end

section
variable {M : Model} {A : Around} {E : Value → Shared → Prop} {env : Env}
variable {nm q : Str} {C N : Addr} {bs bm : List Value} {hdct : Bool} {sn : List Str} {sub : List Value} {ab : Bool} {col : Option Bool} {dd : Option Addr} {k0 k1 k2 k3 k5 : Option Value} {newId : String}
theorem raiseStmt_own {s : Shared} {x : Sem Value} {Q : Flow → Shared → Prop} (hbase : bm.contains (.type "BaseException") = true) (hh : A.handled = none)
    (h : wpAny M A x (fun v s₁ => ∃ e t dx sl, v = .ref e ∧ s₁.heap.get? C = some (excClassObj nm q C N bs bm hdct sn sub ab col dd k0 k1 k2 k3 k5 newId) ∧
      s₁.heap.get? e = some { cls := .ref C, data := .fields #[.ref t, .none, .none, .none, .bool false, .none], dict := dx, slots := sl } ∧ E (.ref e) s₁) E s) :
    wpAny M A (raiseStmt env (some x) none) Q E s := by
  have hcB : (Value.ref C :: bm).contains (.type "BaseException") = true := by rw [List.contains_cons, hbase, Bool.or_true]
  unfold raiseStmt
  refine wpAny_bind (wpAny_mono h (fun v s₁ h₁ => ?_) fun _ _ x => x)
  obtain ⟨e, t, dx, sl, rfl, hC, he, hE⟩ := h₁
  obtain ⟨hp, g, d, tk, os⟩ := s₁
  repeat (first | with_reducible refine wpAny_loadPart_at he ?_ | with_reducible refine wpAny_loadPart_at hC ?_ | (with_reducible refine wpAny_isSubtype_exc hC ?_; rw [hcB]) | wp_step)
  exact wpAny_raiseNew_none hh hE
end

section
variable {prog : Program} {w : World} {A : Around} {E : Value → Shared → Prop} {s : Shared} {env : Env}
variable {nm q : Str} {C N : Addr} {bs bm bmB : List Value} {hdct : Bool} {sn : List Str} {sub : List Value} {ab : Bool} {col : Option Bool} {dd : Option Addr} {k0 k1 k2 k3 k5 : Option Value} {B Bn newId nid initId inN : String} {bmN : List Value}

theorem Raise_call_init (Fn : ExcBaseFacts Bn newId inN bmN) (hBn : bmB.contains (.type Bn) = true) (F : ExcBaseFacts B nid initId bmB) {mN : Str → Option Value} {x : Str} {np cpos pos : Pos} {args : List Expr} {Q : Flow → Shared → Prop} {fI : Addr} {oI : Obj}
    (hbase : bm.contains (.type "BaseException") = true) (hh : A.handled = none) (hplain : (backTo cpos (starEach args env)).any (·.1) = false) (hi : mN "__init__" = some (.ref fI)) (hfc : oI.cls = .type "function")
    (h : wpAny (model prog w) A (eval (.Name x np) env) (fun f s₁ => f = .ref C ∧ wpAny (model prog w) A (evalArgs (.ref C) true (backTo cpos (starEach args env)) [])
      (fun a s₂ => a.kw = [] ∧ a.pos.length ≤ sizeLine ∧ s₂.heap.get? C = some (excClassObj nm q C N bs bm hdct sn sub ab col dd k0 k1 k2 k3 k5 newId) ∧ s₂.heap.Ns N mN ∧ OwnTail s₂.heap bmB bm ∧ s₂.heap.get? fI = some oI ∧
        ∀ h' e, Heap.MadeExcOf s₂.heap h' e (.ref C) a.pos → wpAny (model prog w) (A.under (.builtin "type.__call__" ⟨.ref C :: a.pos, []⟩)) (call (.ref fI) (.ref e :: a.pos)) (fun r s' => r = .none ∧
          s'.heap.get? C = some (excClassObj nm q C N bs bm hdct sn sub ab col dd k0 k1 k2 k3 k5 newId) ∧ (∃ t dx sl, s'.heap.get? e = some { cls := .ref C, data := .fields #[.ref t, .none, .none, .none, .bool false, .none], dict := dx, slots := sl }) ∧ E (.ref e) s') E { s₂ with heap := h' }) E s₁) E s) :
    wpAny (model prog w) A (exec (.Raise (some (.Call (.Name x np) args [] cpos)) none pos) env) Q E s := by
  rw [arm_exec_Raise]
  first
    | refine wpAny_bind (wpAny_standAt (raiseStmt_own (C := C) (nm := nm) (q := q) (N := N) (bs := bs) (bm := bm) (hdct := hdct) (sn := sn) (sub := sub) (ab := ab) (col := col) (dd := dd) (k0 := k0) (k1 := k1) (k2 := k2) (k3 := k3) (k5 := k5) (newId := newId) hbase hh (wpAny_bind (wpAny_mono (wpAny_Call_ofName (wpAny_mono h (fun f s₁ h₁ => ?_) fun _ _ x => x)) (fun v s₃ h₃ => wpAny_bind (wpAny_standAt (wpAny_pure h₃))) fun _ _ x => x))))
    | (simp only [evalOpt, Option.map]; refine wpAny_bind (wpAny_standAt (raiseStmt_own (C := C) (nm := nm) (q := q) (N := N) (bs := bs) (bm := bm) (hdct := hdct) (sn := sn) (sub := sub) (ab := ab) (col := col) (dd := dd) (k0 := k0) (k1 := k1) (k2 := k2) (k3 := k3) (k5 := k5) (newId := newId) hbase hh (wpAny_bind (wpAny_mono (wpAny_Call_ofName (wpAny_mono h (fun f s₁ h₁ => ?_) fun _ _ x => x)) (fun v s₃ h₃ => wpAny_bind (wpAny_standAt (wpAny_pure h₃))) fun _ _ x => x)))))
    | (refine wpAny_bind (wpAny_standAt (raiseStmt_own (C := C) (nm := nm) (q := q) (N := N) (bs := bs) (bm := bm) (hdct := hdct) (sn := sn) (sub := sub) (ab := ab) (col := col) (dd := dd) (k0 := k0) (k1 := k1) (k2 := k2) (k3 := k3) (k5 := k5) (newId := newId) hbase hh ?_)); refine wpAny_bind (wpAny_mono (wpAny_Call_ofName (wpAny_mono h (fun f s₁ h₁ => ?_) fun _ _ x => x)) (fun v s₃ h₃ => wpAny_bind (wpAny_standAt (wpAny_pure h₃))) fun _ _ x => x))
  obtain ⟨rfl, h₁⟩ := h₁
  unfold callWith
  refine wpAny_bind (wpAny_holding (wpAny_mono h₁ (fun a s₂ h₂ => wpAny_bind (wpAny_standAt ?_)) fun _ _ x => x))
  obtain ⟨apos, akw⟩ := a
  obtain ⟨hkw, hlen, hC, hn, T, hfI, h₂⟩ := h₂
  obtain rfl : akw = [] := hkw
  obtain ⟨hp, g, d, tk, os⟩ := s₂
  simp only [hplain]
  refine wpAny_bind (wpAny_keeperOf_exc hC ?_)
  refine wpAny_bind (call_init (hrest := hlen) Fn hBn F T hC hn hi hfI hfc fun h' e hm => wpAny_mono (h₂ h' e hm) (fun r s' hr => ?_) fun _ _ x => x)
  obtain ⟨rfl, hC', ⟨t, dx, sl, he⟩, hE⟩ := hr
  exact ⟨rfl, wpAny_bind (wpAny_holding (wpAny_point (wpAny_pure ⟨e, t, dx, sl, rfl, hC', he, hE⟩)))⟩
end
end

section
open PySem PySem.W PySem.Calls PyProof.Rows Builtin Builtin.ObjectAttr
def isRefV : Value → Bool
  | .ref _ => true
  | _ => false
def isTyV (x : String) : Value → Bool
  | .type a => a == x
  | _ => false
theorem isRefV_of {v : Value} (h : isRefV v = true) : ∃ a, v = .ref a := by
  cases v with
  | ref a => exact ⟨a, rfl⟩
  | _ => cases h
theorem isTyV_of {x : String} {v : Value} (h : isTyV x v = true) : v = .type x := by
  cases v with
  | type a => exact congrArg Value.type (beq_iff_eq.mp h)
  | _ => cases h
/-- over Exception -/
def overMro : List Value → Bool
  | a :: b :: r => isRefV a && (isRefV b && (match r with
    | c :: d :: q => isTyV "Exception" c && (isTyV "BaseException" d && (match q with
      | e :: z => isTyV "object" e && z.isEmpty
      | [] => false))
    | _ => false))
  | _ => false
theorem overMro_of : ∀ {l : List Value}, overMro l = true → ∃ a b, l = [.ref a, .ref b, .type "Exception", .type "BaseException", .type "object"]
  | [], h => nomatch h
  | [_], h => nomatch h
  | [_, _], h => by cases (Bool.and_eq_true_iff.mp (Bool.and_eq_true_iff.mp h).2).2
  | [_, _, _], h => by cases (Bool.and_eq_true_iff.mp (Bool.and_eq_true_iff.mp h).2).2
  | [_, _, _, _], h => by cases (Bool.and_eq_true_iff.mp (Bool.and_eq_true_iff.mp (Bool.and_eq_true_iff.mp (Bool.and_eq_true_iff.mp h).2).2).2).2
  | a :: b :: c :: d :: e :: z, h => by
    have g1 := Bool.and_eq_true_iff.mp h
    have g2 := Bool.and_eq_true_iff.mp g1.2
    have g3 := Bool.and_eq_true_iff.mp g2.2
    have g4 := Bool.and_eq_true_iff.mp g3.2
    have g5 := Bool.and_eq_true_iff.mp g4.2
    obtain ⟨x, e1⟩ := isRefV_of g1.1
    obtain ⟨y, e2⟩ := isRefV_of g2.1
    rw [e1, e2, isTyV_of g3.1, isTyV_of g4.1, isTyV_of g5.1, List.isEmpty_iff.mp g5.2]
    exact ⟨x, y, rfl⟩
def excOver (K : Frag) (C : Addr) : Bool := (clsIn K C).any fun cd => overMro cd.mro
theorem excOver_mro {K : Frag} {C : Addr} (h : excOver K C = true) : ∃ cd a b, clsIn K C = some cd ∧ cd.mro = [.ref a, .ref b, .type "Exception", .type "BaseException", .type "object"] := by
  obtain ⟨cd, hc, ho⟩ := any_some h
  obtain ⟨a, b, e⟩ := overMro_of ho
  exact ⟨cd, a, b, hc, e⟩

section
variable {prog : Program} {w : World} {A : Around} {E : Value → Shared → Prop} {s : Shared} {K : Frag} {x C L : Addr} {h₀ : Heap} {m : Str → Option Value} {news : List (Addr × Obj)} {ox : Obj} {od : Option Obj} {name : Str} {v : Value} {R : Result → Shared → Prop}

theorem exc_osa {tk : Tok} {r : Option Value} (X : K.In s.heap) (I : InstAt s.heap x ox C od) (hp : excOver K C = true) (ht : takerIn K C name = some r)
    (h : ∀ b, wpAny (model prog w) A.in1 (match r with | some a => setByDescriptor a (.ref x) v | none => storeInOwnDict (.ref x) (.ref C) (.str name tk) name v b)
      (fun fin s' => match fin with | .done f => R (.ok f) s' | .again c' => c'.quiet = true ∧ codeAny (model prog w) A c' R s') (fun e s' => R (.error e) s') s) :
    codeAny (model prog w) A (.call (.builtin "object.__setattr__") ⟨[.ref x, .str name tk, v], []⟩) R s := by
  have SF := PySem.F.store_object
  obtain ⟨cd, a, b, hc, hm'⟩ := excOver_mro hp
  have ne : cd.mro.isEmpty = false := by rw [hm']; rfl
  have sub : Looks (model prog w) s.heap (isInstance (.ref x) (.type "object")) true := I.type.andThen (looks_mroIn X (by unfold mroIn; rw [hc, Option.bind_some, if_neg (by rw [ne]; decide), hm']; simp))
  refine codeAny_call_builtin SF.slot.plain SF.entry (@check_slot (model prog w) _ _ s "object.__setattr__" "object" "__setattr__" (.ref x) [.str name tk, v] [] _ SF.kind SF.split sub (SF.args (.ref x) (.str name tk) v) ?_)
  obtain ⟨attr, ha, hr⟩ := Option.bind_eq_some_iff.mp ht
  have hm : Looks (model prog w) s.heap (mroOf (.ref C)) cd.mro := (looks_clsIn X hc).andThen .now
  have L3 : Looks (model prog w) s.heap (storeTaker? attr) r := by
    cases attr with
    | none => cases hr; exact .now
    | some a =>
      obtain ⟨b, hb, rfl⟩ := Option.map_eq_some_iff.mp hr
      refine (looks_takesIn X hb).andThen ?_
      cases b <;> exact .now
  rw [osa_eq, refuse_eq]
  refine wpAny_bind (wpAny_bind (I.type.here (wpAny_bind (hm.here ?_))))
  rw [hm', refuseLoop_ref, refuseLoop_ref, PySem.F.store_Exception.passes]
  refine wpAny_pure (wpAny_bind (I.type.here (wpAny_bind ((looks_findIn X ha).here (wpAny_bind (L3.here ?_))))))
  exact h _

theorem exc_set {Q : Unit → Shared → Prop} {vs : Array Value} {sl : Array (Option Value)} (F : Fr h₀ L s.heap m) (X₀ : K.In h₀) (N : News h₀ L s.heap ((x, ⟨.ref C, none, .fields vs, sl⟩) :: news)) (hne : ∀ p ∈ news, p.1 ≠ x)
    (hs : findIn K (.ref C) "__setattr__" = some (some (.builtin "object.__setattr__"))) (hp : excOver K C = true) (ht : takerIn K C name = some none) (hh : hasDictIn K C = true)
    (h : ∀ d h', Fr h₀ L h' m → News h₀ L h' ((d, dictOf [⟨PyData.keyHash w.params name, .str name (s.toks + 1), v⟩] 1) :: (x, ⟨.ref C, some d, .fields vs, sl⟩) :: news) → (∀ p ∈ news, @LT.lt Nat _ p.1 d) → @LT.lt Nat _ x d → Q () { s with heap := h', toks := s.toks + 2 }) :
    wpAny (model prog w) A (setAttr (.ref x) name v) Q E s := by
  have X := X₀.keeps F.keep
  have hx := (N _ (.head _)).1
  have I : InstAt s.heap x ⟨.ref C, none, .fields vs, sl⟩ C none := ⟨hx, rfl, rfl, trivial⟩
  refine set_plain X I hs ?_
  refine exc_osa (s := { s with toks := s.toks + 1 }) X I hp ht fun b => ?_
  obtain ⟨cd, hc, hd'⟩ := any_some hh
  have F1 := F.push { cls := .type "dict", data := .dict #[] }
  have N1 := N.push F { cls := .type "dict", data := .dict #[] }
  have xd : x ≠ s.heap.objs.size := Nat.ne_of_lt (Heap.lt_size hx)
  obtain ⟨F2, N2⟩ := news_upd (pre := [(s.heap.objs.size, { cls := .type "dict", data := .dict #[] })]) (post := news) (d := x) (f := fun o => { o with dict := some s.heap.objs.size }) F1 N1
    (fun p hp => by rw [List.mem_singleton.mp hp]; exact xd.symm) hne rfl rfl
  have D := (N2 (s.heap.objs.size, _) (.head _)).1
  obtain ⟨F3, N3⟩ := news_upd (pre := []) (post := (x, (⟨.ref C, some s.heap.objs.size, .fields vs, sl⟩ : Obj)) :: news) (d := s.heap.objs.size) (f := Obj.putName name (PyData.keyHash w.params name) (.str name (s.toks + 1)) v) F2 N2
    (fun p hp => nomatch hp) (fun p hp => by
      rcases List.mem_cons.mp hp with rfl | hp
      · exact xd
      · exact Nat.ne_of_lt (Heap.lt_size (N p (.tail _ hp)).1)) (putName_dict name (PyData.keyHash w.params name) (.str name (s.toks + 1)) v [] 0) rfl
  have D' := (N3 (s.heap.objs.size, _) (.head _)).1
  unfold storeInOwnDict ownDictForStores instanceDict
  refine wpAny_bind (wpAny_pure (wpAny_bind (wpAny_bind (wpAny_loadPart hx ?_))))
  dsimp only
  refine wpAny_bind (looks_clsIn (M := model prog w) X hc _ _ _ _ (fun _ _ e => e) ?_)
  rw [hd']
  simp only [typeHasDict, Bool.not_true, Bool.false_eq_true, if_false, Bool.or_self]
  refine wpAny_bind (wpAny_alloc' ?_)
  refine wpAny_bind (wpAny_update' (N1 (x, _) (.tail _ (.head _))).1 ?_)
  refine wpAny_pure ?_
  show wpAny _ _ (storeInDict s.heap.objs.size (.str name _) name v) _ _ _
  unfold storeInDict newKeyGuard nsSet
  refine wpAny_bind (wpAny_pure (wpAny_bind ?_))
  refine wpAny_bind (wpAny_bind (wpAny_askSetting (wpAny_pure (wpAny_bind (wpAny_mkText (wpAny_bind (wpAny_loadPart D ?_)))))))
  dsimp only
  rw [aRefKeyMayBeTheName_at]
  rw [if_neg (by simp)]
  refine wpAny_updatePart D ?_
  refine wpAny_bind (wpAny_lookBehind D' (by exact pastItsLine_dict (by simp [putL, sizeLine_eq])) ?_)
  exact wpAny_pure (h _ _ F3 N3 (fun p hp => Heap.lt_size (N p (.tail _ hp)).1) (Heap.lt_size hx))
end
section
variable {prog : Program} {w : World} {A : Around} {E : Value → Shared → Prop} {s : Shared} {K : Frag} {x C L : Addr} {h₀ : Heap} {m : Str → Option Value} {news : List (Addr × Obj)} {ox : Obj} {od : Option Obj} {name : Str} {v : Value} {R : Result → Shared → Prop}

theorem exc_get {expr : Bool} {Q : Value → Shared → Prop} {es : List DictEntry} {n : Nat} (F : Fr h₀ L s.heap m) (X₀ : K.In h₀) (I : InstAt s.heap x ox C (some (dictOf es n)))
    (hga : findIn K (.ref C) "__getattribute__" = some (some (.builtin "BaseException.__getattribute__"))) (hgn : findIn K (.ref C) "__getattr__" = some none) (hm : mroIn K C (.type "BaseException") = some true) (hh : hasDictIn K C = true)
    (ha : findIn K (.ref C) name = some none) (hl : getL name es = some (some v)) (hv : handedIn v = true) (h : Q v { s with toks := s.toks + 1 }) :
    wpAny (model prog w) A (getAttr (.ref x) name expr) Q E s := by
  have X := X₀.keeps F.keep
  obtain ⟨hh', g, d, t, os⟩ := s
  have L0 := I.type (M := model prog w)
  have L1 := looks_findIn (M := model prog w) X hga
  have L2 := looks_findIn (M := model prog w) X hgn
  have L3 := looks_find (M := model prog w) X I (findObj_own hh ha rfl hl)
  have L4 : Looks (model prog w) hh' (isInstance (.ref x) (.type "BaseException")) true := L0.andThen (looks_mroIn X hm)
  have f3 := PySem.F.attr_Exception.ga.bind (.ref x)
  have hx0 : (expr && onTheHeap (Value.builtin "BaseException.__getattribute__")) = false := by cases expr <;> rfl
  have hx2 : (Value.builtin "BaseException.__getattribute__" == Value.builtin "object.__getattribute__") = false := by decide +kernel
  have hx1 : (onTheHeap (Value.ref C) && Value.builtin "BaseException.__getattribute__" == Value.builtin "object.__getattribute__") = false := by rw [hx2]; rfl
  have hk : builtinKind "BaseException.__getattribute__" = some .slot := by decide +kernel
  have hsplit : splitId "BaseException.__getattribute__" = some ("BaseException", "__getattribute__") := by decide +kernel
  unfold getAttr getAttrBy
  refine wpAny_bind (wpAny_mkText (wpAny_holding (wpAny_bind (L0.at (wpAny_bind (L1.at ?_))))))
  dsimp only
  rw [hx1]
  show wpAny _ _ (getAttrByItsOwn _ _ _ _ _ _) _ _ _
  unfold getAttrByItsOwn hookBefore
  refine wpAny_bind (L2.at ?_)
  unfold callGetattribute boundAndCalled
  rw [hx0]
  repeat (any_goals (first | assumption | with_reducible refine Looks.at (by assumption) ?_ | wp_step))
  have ha2 := PySem.F.args_bexc_ga (.ref x) (.str name t)
  refine codeAny_call_builtin PySem.F.attr_Exception.ga.plain PySem.F.entry_bexc_ga (@check_slot (model prog w) _ _ _ "BaseException.__getattribute__" "BaseException" "__getattribute__" (.ref x) [.str name t] [] _ hk hsplit L4 ha2 ?_)
  unfold Builtin.«object.__getattribute__»
  repeat (any_goals (first | assumption | with_reducible refine Looks.at (by assumption) ?_ | wp_step))
  show wpAny _ _ (handedOut v) _ _ _
  rw [handedOut_of hv]
  exact wpAny_pure h
end
end

section
open PySem PySem.W PySem.Calls PySem.Spec PyProof.Rows
theorem wpAny_dk' {α : Type} {M : Model} {A : Around} {e : Addr} {dx : Option Addr} {t : Sem α} {Q : α → Shared → Prop} {E : Value → Shared → Prop} {s : Shared} (k : DK t) (hd : DictAt s.heap e dx)
    (h : wpAny M A t (fun a s' => DictAt s'.heap e dx → Q a s') E s) : wpAny M A t Q E s :=
  wpAny_mono (wpAny_dk k hd h) (fun _ _ x => x.1 x.2) fun _ _ x => x.1

/-- an exception in flight, with its own dict -/
structure RaisedD (base G : Heap) (l : List Env) (e : Addr) (cls : Value) (t : Addr) (vs : List Value) (dx : Addr) (news : List (Addr × Obj)) (h : Heap) : Prop where
  r : RaisedS base G l e cls t vs news h
  d : DictAt h e (some dx)

section
variable {M : Model} {A : Around} {E : Value → Shared → Prop} {s' : Shared} {base g g₂ : Heap} {outer : List Env} {L a e t dx : Addr} {m : Str → Option Value} {name : Str} {scope : Scope} {cd : Value} {Q : Unit → Shared → Prop} {news : List (Addr × Obj)}
theorem leave_raiseD {cls : Value} {vs : List Value} {sl sl' : Array (Option Value)} (K : Below A base outer g) (F : Fr g L s'.heap m)
    (N : News g L s'.heap ((e, (⟨cls, some dx, .fields #[.ref t, .none, .none, .none, .bool false, .none], sl⟩ : Obj)) :: (t, ({ cls := .type "tuple", data := .seq vs.toArray, slots := sl' } : Obj)) :: news))
    (hne : ∀ p ∈ news, p.1 ≠ e) (hnt : ∀ p ∈ news, p.1 ≠ t) (het : @Ne Nat e t)
    (hQ : ∀ h', RaisedD base g outer e cls t vs dx news h' → g.UpToSlots h' → Q () { s' with heap := h' }) (hk : scope.kind = .function := by rfl) :
    wpAny M (A.deeper (envOf name scope L a cd)) (leaving (envOf name scope L a cd) (.ref e)) Q E s' := by
  have Ne := N _ (.head _)
  have Nt := N _ (.tail _ (.head _))
  have n2 : ∀ b, b ≠ e → b ≠ t → b ∉ [e, t] := fun b h1 h2 q => by
    rcases List.mem_cons.mp q with q | q
    · exact h1 q
    · exact h2 (List.mem_singleton.mp q)
  have Fh : Fr g L (hideAll s'.heap [e, t]) m := by
    obtain ⟨oL, es, ep, hL, r⟩ := F.ns
    exact ⟨⟨oL, es, ep, hideAll_get _ hL (n2 _ (fun q => Ne.2.1 q.symm) (fun q => Nt.2.1 q.symm)), r⟩, fun b o q => hideAll_get _ (F.keep b o q) (n2 _ (fun z => by have := Ne.2.2; dsimp only at this; rw [← z, q] at this; cases this) (fun z => by have := Nt.2.2; dsimp only at this; rw [← z, q] at this; cases this)), F.above⟩
  have Nh : News g L (hideAll s'.heap [e, t]) news := fun p hp => ⟨hideAll_get _ (N p (.tail _ (.tail _ hp))).1 (n2 _ (hne p hp) (hnt p hp)), (N p (.tail _ (.tail _ hp))).2⟩
  have K' := K.push (name := name) (a := a) (cd := cd) Fh hk
  have hin : ∀ env ∈ (envOf name scope L a cd :: outer), ∀ b, env.frame = some b → b ∈ (envOf name scope L a cd :: outer).filterMap (·.frame) := fun env he b hb => List.mem_filterMap.mpr ⟨env, he, hb⟩
  have st : base.StaysIn (hideAll (hideAll s'.heap [e, t]) ((envOf name scope L a cd :: outer).filterMap (·.frame))) := fun b o q => hideAll_get _ (K'.stays b o q) fun hm => by
    rw [(K'.frames.mem hm).1] at q; cases q
  have sg : ∀ b o, g.get? b = some o → b ∉ outer.filterMap (·.frame) → (hideAll (hideAll s'.heap [e, t]) ((envOf name scope L a cd :: outer).filterMap (·.frame))).get? b = some o := fun b o q nm => hideAll_get _ (Fh.keep b o q) fun hm => by
    rcases kts_mem hm with z | z
    · rw [z, kts_self Fh] at q
      cases q
    · exact nm z
  have hl : ∀ q ∈ news, (hideAll (hideAll s'.heap [e, t]) ((envOf name scope L a cd :: outer).filterMap (·.frame))).get? q.1 = some q.2 ∧ g.get? q.1 = none ∧ base.get? q.1 = none := fun q hq => by
    refine ⟨hideAll_get _ (Nh q hq).1 fun hm => ?_, (Nh q hq).2.2, fresh_of_stays K.stays (Nh q hq).2.2⟩
    obtain ⟨env, he, hf⟩ := List.mem_filterMap.mp hm
    rcases List.mem_cons.mp he with rfl | he
    · exact (Nh q hq).2.1 (Option.some.inj hf).symm
    · obtain ⟨o, ho, _⟩ := (K.frames.mem (List.mem_filterMap.mpr ⟨env, he, hf⟩)).2
      rw [(Nh q hq).2.2] at ho; cases ho
  have fresh : ∀ b, (hideAll s'.heap [e, t]).get? b = none → (hideAll (hideAll s'.heap [e, t]) ((envOf name scope L a cd :: outer).filterMap (·.frame))).get? b = none := fun b hb => by
    cases hq : (hideAll (hideAll s'.heap [e, t]) ((envOf name scope L a cd :: outer).filterMap (·.frame))).get? b with
    | none => rfl
    | some o' => have := of_hideAll _ hq; rw [hb] at this; cases this
  have hE : (hideAll s'.heap [e, t]).get? e = none := hideAll_none _ (.head _)
  have hT : (hideAll s'.heap [e, t]).get? t = none := hideAll_none _ (.tail _ (.head _))
  refine wpAny_dk' (DK_leaving _ _) ⟨_, Ne.1, rfl⟩ ?_
  refine wpAny_leaving_firstW (a0 := .ref t) K'.stack ((funFrames_hide K'.frames hin).of_keeps fun b o hb _ => ⟨o, of_hideAll _ hb, rfl⟩) rfl Ne.1
    (fun b o hb => of_hideAll _ (of_hideAll _ hb)) (fresh e hE) rfl rfl rfl fun h' hL hD => ?_
  obtain ⟨k1, ⟨_, _, k2⟩, k3, k4⟩ := hL
  exact hQ h' ⟨⟨⟨_, st, sg, hl, ⟨k1, fresh e hE, k2, k3⟩, fresh t hT⟩, Heap.TupAt.of_slots ⟨_, _, Nt.1, rfl, rfl⟩ k4⟩, hD⟩ ((Heap.UpToSlots.of_keeps F.keep).trans k4)

theorem leave_onD {cls : Value} {vs : List Value} (K : Below A base outer g) (F : Fr g L g₂ m) (R : RaisedD base g₂ (envOf name scope L a cd :: outer) e cls t vs dx news s'.heap) (hsm : g₂.UpToSlots s'.heap)
    (hQ : ∀ h', RaisedD base g outer e cls t vs dx news h' → g.UpToSlots h' → Q () { s' with heap := h' }) :
    wpAny M (A.deeper (envOf name scope L a cd)) (leaving (envOf name scope L a cd) (.ref e)) Q E s' :=
  wpAny_dk' (DK_leaving _ _) R.d (leave_onS K F R.r hsm fun h' R' _ U' D' => hQ h' ⟨R', D'⟩ U')
end

section
variable {prog : Program} {w : World} {A₀ : Around} {E : Value → Shared → Prop} {s' : Shared} {base g g₀ G : Heap} {outer : List Env} {L a e t C dx : Addr} {m : Str → Option Value} {name : Str} {scope : Scope} {cd : Value}
  {vs : List Value} {n : Str} {b₀ : Stmt} {suite : List Stmt} {pos np : Pos} {rest : List ExceptHandler} {Q : Flow → Shared → Prop} {news : List (Addr × Obj)} {KF : Frag}
  {p : Program} {loose : List Str} {mean : ExcName → Option Value} {mg mb : Str → Option Value} {x : Str}

theorem caught_D (RD : RaisedD base G (envOf name scope L a cd :: outer) e (.ref C) t vs dx news s'.heap) (F : Fr g L G m) (K : Below A₀ base outer g) (hsm : G.UpToSlots s'.heap) (XB : KF.In base) (TB : Top p loose mean mg mb base)
    (T0 : KtsTurn (outer.filterMap (·.frame)) g₀ g) (D : KtsDicts (outer.filterMap (·.frame)) g)
    (ex : nsIn KF mainGlobals x = some (some (.ref C))) (q : ktsIn KF C "BaseException" = true)
    (k : ∀ h' g' ws sl tk, KtsTurn (outer.filterMap (·.frame)) g₀ g' → Fr g' L h' (fun y => if y = n then some (.ref e) else m y) → News g' L h' ((e, (⟨.ref C, some dx, .fields ws, sl⟩ : Obj)) :: news) → Below A₀ base outer g' → KF.In g' → Top p loose mean mg mb g' → KtsDicts (outer.filterMap (·.frame)) g' →
      wpAny (model prog w) ((A₀.deeper (envOf name scope L a cd)).mark (some (.ref e))) (execs (b₀ :: suite) (envOf name scope L a cd))
        (fun f s₄ => wpAny (model prog w) (A₀.deeper (envOf name scope L a cd)) (do bindName (envOf name scope L a cd) n .none; unbindBehindTheSuite (envOf name scope L a cd) n pos) (fun _ s₅ => Q f s₅) E s₄)
        (AsSuiteRaised (model prog w) ((A₀.deeper (envOf name scope L a cd)).mark (some (.ref e))) (envOf name scope L a cd) n pos (notedBy (model prog w) ((A₀.deeper (envOf name scope L a cd)).mark (some (.ref e))) (envOf name scope L a cd) (cameBackBy (model prog w) (A₀.deeper (envOf name scope L a cd)) (envOf name scope L a cd) E)))
        { s' with heap := h', toks := tk })
    (hk : scope.kind = .function := by rfl) (hlo : (envOf name scope L a cd).kindOf n = some .local := by rfl) (hx : (envOf name scope L a cd).kindOf x = some .globalImplicit := by rfl) (hd : (x == ("__debug__" : Str)) = false := by decide) :
    wpAny (model prog w) (A₀.deeper (envOf name scope L a cd)) (noteFrame (.ref e) (envOf name scope L a cd))
      (fun _ s₂ => wpAny (model prog w) (A₀.deeper (envOf name scope L a cd)) (setFlight (.ref e) none) (fun _ s₃ =>
        wpAny (model prog w) (A₀.deeper (envOf name scope L a cd)) (handleBy (.ref e) (envOf name scope L a cd) (.ExceptHandler (some (.Name x np)) (some n) (b₀ :: suite) pos :: rest)) Q E s₃) E s₂) E s' := by
  obtain ⟨⟨⟨B, hB, hBG, hl, hfl, hnew⟩, htup⟩, hD⟩ := RD
  have hL : B.get? L = none := by
    obtain ⟨_, ⟨L', _, hf, hn', _⟩, _⟩ := hfl.2.2.1
    obtain rfl : L = L' := Option.some.inj hf
    exact hn'
  refine wpAny_dk' (DK_noteFrame _ _) hD (wpAny_looks_onW (Around.frames_deeper K.stack) rfl hfl fun h₄ hheld₄ hsm₄ hD₄ => ?_)
  refine wpAny_dk' (DK_setFlight _ _) hD₄ (wpAny_landsW hheld₄ fun h₅ hheld hsm₅' hD₅ => ?_)
  have hsm₅ := hsm₄.trans hsm₅'
  obtain ⟨g₅, T₅, F₅, K₅⟩ := kts_ground K F hBG hheld.1 (hsm.trans hsm₅)
  have X₅ : KF.In g₅ := XB.keeps K₅.stays
  have P₅ : TopRead p loose mg mb g₅ := topRead_of (TB.keeps K₅.stays)
  obtain ⟨ob, hob, hobc⟩ := hheld.there
  obtain ⟨nm, q', N, bs, bm, hdct, sn, sub, ab, col, dd, k0, k1, k2, k3, k5, newId, hC, hbase, hbT⟩ := kts_cls X₅ q
  have hC₅ := F₅.keep _ _ hC
  refine wpAny_handleBy_cons (codeAny_handlers_test (name_K F₅ X₅ P₅ ex ?_ hk hx hd)) (by intro q; cases q)
  refine wpAny_excMatches_sub_self hC₅ hob hobc hbase (codeAny_handlers_suite_as ?_)
  refine wpAny_dk' (DK_setFlight _ _) hD₅ (lands_againW hheld fun h₆ hfl₆ hsm₆ hD₆ => ?_)
  obtain ⟨g₆, T₆, F₆, K₆⟩ := kts_ground K F hBG hfl₆.1 ((hsm.trans hsm₅).trans hsm₆)
  obtain ⟨oe, ws, hoe, hoec, hoed, hoe0⟩ := hfl₆.first
  obtain ⟨oe', hoe', hoeD⟩ := hD₆
  obtain rfl : oe = oe' := Option.some.inj (hoe.symm.trans hoe')
  have ne₆ : g₆.get? e = none := T₆.none_ _ (kts_fresh F hBG hfl₆.2.1 fun o ho m => by
    obtain ⟨_, o', ho', hd⟩ := K.frames.mem m
    rw [ho] at ho'
    cases ho'
    obtain ⟨sl, hs⟩ := ((hsm.trans hsm₅).trans hsm₆) _ _ (F.keep _ _ ho) hd
    rw [hoe] at hs
    cases hs
    exact hd _ hoed)
  obtain ⟨oc, odd, oda, osl⟩ := oe
  dsimp only at hoec hoed hoeD
  subst hoec hoed hoeD
  have N₆ := News.more F₆ News.nil hoe (fun es n q => by cases q) ne₆
  have Nl : News g₆ L h₆ news := fun q hq => ⟨hfl₆.1 _ _ (hl q hq).1, (fun z => by have := (hl q hq).1; rw [z, hL] at this; cases this), T₆.none_ _ (kts_none F.keep (hl q hq).2.1)⟩
  have X₆ : KF.In g₆ := XB.keeps K₆.stays
  have P₆ : Top p loose mean mg mb g₆ := TB.keeps K₆.stays
  have D₆ : KtsDicts (outer.filterMap (·.frame)) g₆ := D.turn T₆
  refine stN F₆ (news := _ ++ news) (fun q hq => (List.mem_append.mp hq).elim (N₆ q) (Nl q)) (fun h₇ F₇ N₇ => ?_) hk hlo
  exact k h₇ g₆ _ _ _ (T0.trans T₆) F₇ N₇ K₆ X₆ P₆ D₆
end
end

section
open PySem PySem.W PySem.Calls PySem.Spec PyProof.Rows LCg
section
variable {prog : Program} {w : World} {A : Around} {E : Value → Shared → Prop} {s : Shared} {h₀ : Heap} {L : Addr} {m : Str → Option Value} {env : Env}

/-- one turn of a dict's comprehension -/
def DTurn (prog : Program) (w : World) (A : Around) (h₀ : Heap) (L : Addr) (m : Str → Option Value) (env : Env) (kx vx : Expr) (x : Str) (scope : Scope) (cl : List (Str × Addr)) (s₂ : Shared) (S : List (Addr × Obj) → Prop) (P : Nat → Value → Prop) (n : Nat)
    (Inv : Nat → List (Str × Value) → List (Addr × Obj) → Prop) : Prop :=
  ∀ i kvs nw, i < n → Inv i kvs nw → ∀ v I oI C oC D oD m₂ h tk (E' : Value → Shared → Prop), P i v → NsObj oC m₂ → m₂ x = some v → Fr h₀ L h m → News h₀ L h ((I, oI) :: (C, oC) :: (D, oD) :: nw) → Off3 I C D nw → ((@Ne Nat I C) ∧ (@Ne Nat I D) ∧ (@Ne Nat C D)) →
    wpAny (model prog w) A (eval kx (compEnvC scope cl C env)) (fun kv s₄ => wpAny (model prog w) A (eval vx (compEnvC scope cl C env)) (fun vv s₅ => ∃ k, (PySem.strKind prog w).is k kv = true ∧
      CompEnd h₀ L m { s₂ with heap := h, toks := tk } I oI C oC D oD S (fun vv nw' => Inv (i + 1) (stored kvs k vv) nw') vv s₅) E' s₄) E' { s₂ with heap := h, toks := tk }

/-- where the loop of the dict's comprehension stands -/
inductive LoopD (prog : Program) (w : World) (h₀ : Heap) (L : Addr) (m : Str → Option Value) (s₂ : Shared) (I C D : Addr) (n : Nat) (St : Nat → Heap → Prop) (S : List (Addr × Obj) → Prop) (Inv : Nat → List (Str × Value) → List (Addr × Obj) → Prop) (k : Nat) (s' : Shared) : Prop
  | intro (h' : Heap) (tk i : Nat) (kvs : List (Str × Value)) (oD : Obj) (m' : Str → Option Value) (news' : List (Addr × Obj)) (e : s' = { s₂ with heap := h', toks := tk }) (hi : i ≤ n) (hk : k = n + 1 - i) (hst : St i h') (F : Fr h₀ L h' m) (hn : h'.Ns C m') (N : News h₀ L h' ((D, oD) :: news'))
    (hd : oD.IsDictOf (PySem.strKind prog w) kvs) (off : Off3 I C D news') (hS : S news') (hI : Inv i kvs news') : LoopD prog w h₀ L m s₂ I C D n St S Inv k s'

theorem block_D {kx vx iter : Expr} {x : Str} {px : Pos} {scope : Scope} {cl : List (Str × Addr)} {pos : Pos} {s₂ : Shared} {I : Addr} {fp : List Addr} {n : Nat} {P : Nat → Value → Prop} {St : Nat → Heap → Prop} {S : List (Addr × Obj) → Prop} {news : List (Addr × Obj)}
    {Inv : Nat → List (Str × Value) → List (Addr × Obj) → Prop} {RR : Value → Addr → Result → Shared → Prop}
    (W : Walks prog w A I fp [I] n P St) (hIo : ∀ i h, St i h → ∃ o, h.get? I = some o)
    (hSt : ∀ i h h' o nw, St i h → h.get? I = some o → h'.get? I = some o → (∀ b o, h₀.get? b = some o → h'.get? b = some o) → News h₀ L h' nw → S nw → St i h')
    (hcell : ∀ y ∈ scope.names, y.2 ≠ .cell) (hkind : scope.kind = .function) (hx : scope.names.lookup x = some .local) (hst : St 0 s₂.heap) (hfp : ∀ b ∈ fp, b < s₂.heap.objs.size)
    (F : Fr h₀ L s₂.heap m) (N : News h₀ L s₂.heap news) (hIL : L ≠ I) (hI₀ : h₀.get? I = none) (off : ∀ p ∈ news, p.1 ≠ I) (hS : S news) (hlow : sysModules < h₀.objs.size)
    (hI0 : Inv 0 [] news) (hlen : ∀ i kvs nw, Inv i kvs nw → kvs.length ≤ sizeLine)
    (step : DTurn prog w A h₀ L m env kx vx x scope cl s₂ S P n Inv)
    (hRR : ∀ D C h tk m' oD kvs news', Fr h₀ L h m → News h₀ L h ((D, oD) :: news') → oD.IsDictOf (PySem.strKind prog w) kvs → (D == sysModules) = false → Off1 D news' → h.Ns C m' → h₀.get? C = none → h₀.get? D = none → C ≠ L → D ≠ L → C ≠ D → (∀ p ∈ news', p.1 ≠ C) → Inv n kvs news' →
      RR (.ref D) C (.ok .next) { s₂ with heap := h, toks := tk }) :
    wpAny (model prog w) A newDict (fun acc s₃ => wpAny (model prog w) A (newFunctionEnv scope env.globals cl [] env.qual none .none (some env)) (fun cenv s₄ =>
      codeAny (model prog w) A (.compStart (.DictComp kx vx [⟨.Name x px, iter, [], 0⟩] scope pos) 0 (.ref I) acc { cenv with scope := relabel scope env }) (RR acc cenv.locals) s₄) E s₃) E s₂ := by
  refine wpAny_newObj_type (wpAny_newFunctionEnv hcell (by intro y hy; simp at hy) (fun h₁ hns₁ hsb₁ => ?_) hkind)
  dsimp only at hns₁ hsb₁ ⊢
  have hnew : (s₂.heap.push { cls := .type "dict", dict := none, data := .dict #[] }).DictOf (PySem.strKind prog w) s₂.heap.objs.size [] := Heap.DictOf.new s₂.heap
  generalize hH2 : s₂.heap.push { cls := .type "dict", dict := none, data := .dict #[] } = H2 at hns₁ hsb₁ hnew ⊢
  have hC : H2.objs.size = s₂.heap.objs.size + 1 := by rw [← hH2, Heap.size_push]
  have hDC : s₂.heap.objs.size ≠ H2.objs.size := by rw [hC]; exact Nat.ne_of_lt (Nat.lt_succ_self _)
  have below : ∀ b, b < s₂.heap.objs.size → b ≠ H2.objs.size ∧ b ≠ s₂.heap.objs.size := fun b hb => ⟨by rw [hC]; exact Nat.ne_of_lt (Nat.lt_succ_of_lt hb), Nat.ne_of_lt hb⟩
  have hDf : s₂.heap.objs.size ∉ fp := fun hm => Nat.lt_irrefl _ (hfp _ hm)
  have hCf : H2.objs.size ∉ fp := fun hm => by have := hfp _ hm; rw [hC] at this; exact Nat.lt_irrefl _ (Nat.lt_of_succ_lt this)
  have hIf : I ∈ fp := W.sub I (List.mem_singleton.mpr rfl)
  have hIlt : I < s₂.heap.objs.size := hfp I hIf
  have old : ∀ b o, s₂.heap.get? b = some o → h₁.get? b = some o := fun b o e => hsb₁.extBut b o (below b (Heap.lt_size e)).1 (Heap.get?_push_of_some _ (hH2 ▸ Heap.get?_push_of_some _ e))
  have hacc : h₁.DictOf (PySem.strKind prog w) s₂.heap.objs.size [] := hnew.at fun o e => hsb₁.extBut _ _ hDC (Heap.get?_push_of_some _ e)
  have hst₁ : St 0 h₁ := W.frame _ _ _ hst fun b _ o e => old b o e
  have fresh : ∀ a, s₂.heap.objs.size ≤ a → s₂.heap.get? a = none := fun a ha => by
    cases e : s₂.heap.get? a with
    | none => rfl
    | some o' => exact absurd (Heap.lt_size e) (Nat.not_lt.mpr ha)
  have fresh₀ : ∀ a, s₂.heap.objs.size ≤ a → h₀.get? a = none := fun a ha => by
    cases e : h₀.get? a with
    | none => rfl
    | some o' => have := F.keep a o' e; rw [fresh a ha] at this; cases this
  have hD₀ : h₀.get? s₂.heap.objs.size = none := fresh₀ _ (Nat.le_refl _)
  have hC₀ : h₀.get? H2.objs.size = none := fresh₀ _ (by rw [hC]; exact Nat.le_succ _)
  have hLlt : L < s₂.heap.objs.size := F.ns.lt
  have hlo : (s₂.heap.objs.size == sysModules) = false := by
    have h1 : sysModules < s₂.heap.objs.size := Nat.lt_trans (Nat.lt_of_lt_of_le hlow F.above) hLlt
    exact beq_eq_false_iff_ne.mpr (Nat.ne_of_gt h1)
  have hDL : s₂.heap.objs.size ≠ L := Ne.symm (below L hLlt).2
  have hCL : H2.objs.size ≠ L := Ne.symm (below L hLlt).1
  have hCI : I ≠ H2.objs.size := (below I hIlt).1
  have hDI : I ≠ s₂.heap.objs.size := (below I hIlt).2
  have off₀ : Off3 I H2.objs.size s₂.heap.objs.size news := Off3.of fun p hp => ⟨off p hp, (below _ (Heap.lt_size (N p hp).1)).1, (below _ (Heap.lt_size (N p hp).1)).2⟩
  obtain ⟨oD₀, hoD₀, hdD₀⟩ := Heap.dictOf_iff.mp hacc
  have loop : ∀ s₃ : Shared, s₃ = { s₂ with heap := h₁, toks := s₂.toks + ([] : List (Str × Value)).length } →
      codeAny (model prog w) A (.compLoop (.DictComp kx vx [⟨.Name x px, iter, [], 0⟩] scope pos) 0 (.ref I) (.ref s₂.heap.objs.size) (compEnvC scope cl H2.objs.size env))
        (RR (.ref s₂.heap.objs.size) H2.objs.size) s₃ := by
    rintro s₃ rfl
    refine codeAny_compLoop_testsD
      (LoopD prog w h₀ L m s₂ I H2.objs.size s₂.heap.objs.size n St S Inv) ?_ (n + 1)
      (LoopD.intro h₁ _ 0 [] oD₀ _ news rfl (Nat.zero_le _) rfl hst₁ (F.keeps old) hns₁ (fun p hp => ?_) hdD₀ off₀ hS hI0)
    · intro k s' h9
      cases h9 with | intro h' tk i kvs oD m' news' e hi hk hst' F' hn' N' hd' off' hS' hI' => ?_
      subst e
      subst hk
      by_cases hlt : i < n
      · refine W.item i _ _ _ hlt hst' fun v h₂ tk₂ hPv hst₂ hk₂ => ?_
        refine wpAny_assign_Name (wpAny_storeName_local (lookup_relabel_local hx) (hn'.at' fun o e => hk₂ _ o (by simpa using Ne.symm hCI) e) (fun h₃ hn₃ hs₃ => ?_) (by simp [compEnvC, relabel, hkind]))
        refine wpAny_tests_nil ?_
        simp only [if_true]
        have hst₃ : St (i + 1) h₃ := W.frame _ _ _ hst₂ fun b hb o e => hs₃.extBut b o (fun q => hCf (by have q' : b = H2.objs.size := q; rw [← q']; exact hb)) e
        obtain ⟨oI, heI⟩ := hIo _ _ hst₃
        obtain ⟨oC, heC, hoC⟩ := ns_obj hn₃
        have F₃ : Fr h₀ L h₃ m := (fr_but F' hk₂ hIL hI₀).change hs₃ hCL hC₀
        have off3 := off'.mem
        have N₂ : News h₀ L h₂ ((s₂.heap.objs.size, oD) :: news') := news_but N' hk₂ fun p hp => by
          rcases List.mem_cons.mp hp with rfl | hp
          · exact Ne.symm hDI
          · exact (off3 p hp).1
        have N₃ : News h₀ L h₃ ((I, oI) :: (H2.objs.size, oC) :: (s₂.heap.objs.size, oD) :: news') := fun p hp => by
          rcases List.mem_cons.mp hp with rfl | hp
          · exact ⟨heI, Ne.symm hIL, hI₀⟩
          · rcases List.mem_cons.mp hp with rfl | hp
            · exact ⟨heC, hCL, hC₀⟩
            · have z := N₂ p hp
              refine ⟨hs₃.extBut _ _ ?_ z.1, z.2⟩
              rcases List.mem_cons.mp hp with rfl | hp
              · exact hDC
              · exact (off3 p hp).2.1
        refine wpAny_mono (step i kvs news' hlt hI' v I oI H2.objs.size oC s₂.heap.objs.size oD _ h₃ _ _ hPv hoC (by simp) F₃ N₃ off' ⟨hCI, hDI, Ne.symm hDC⟩) (fun kv s₄ h₄ => wpAny_mono h₄ (fun y s₅ h₅ => ?_) fun _ _ e => e) fun _ _ e => e
        obtain ⟨kk, hkk, h₄, tk₄, news₄, rfl, F₄, N₄, off₄, hS₄, R₄⟩ := h₅
        have zI := (N₄ (I, oI) List.mem_cons_self).1
        have zC := (N₄ (H2.objs.size, oC) (List.mem_cons_of_mem _ List.mem_cons_self)).1
        have zD := (N₄ (s₂.heap.objs.size, oD) (List.mem_cons_of_mem _ (List.mem_cons_of_mem _ List.mem_cons_self))).1
        have N₄' : News h₀ L h₄ news₄ := fun p hp => N₄ p (List.mem_cons_of_mem _ (List.mem_cons_of_mem _ (List.mem_cons_of_mem _ hp)))
        have hst₄ : St (i + 1) h₄ := hSt _ _ _ _ _ hst₃ heI zI F₄.keep N₄' hS₄
        refine wpAny_dictSet_pairs (hsz := hlen _ _ _ hI') hkk (Heap.dictOf_iff.mpr ⟨oD, zD, hd'⟩) fun h₅ hd₅ hs₅ => ?_
        obtain ⟨oD₅, hD₅, hdD₅⟩ := Heap.dictOf_iff.mp hd₅
        have off4 := off₄.mem
        refine ⟨n + 1 - (i + 1), by omega, .intro h₅ _ (i + 1) (stored kvs kk y) oD₅ _ news₄ rfl hlt rfl (W.frame _ _ _ hst₄ fun b hb o e => hs₅.extBut b o (fun q => hDf (q ▸ hb)) e) (F₄.change hs₅ hDL hD₀)
          ((hoC.ns zC).sameBut hs₅ (Ne.symm hDC)) (fun p hp => ?_) hdD₅ off₄ hS₄ R₄⟩
        rcases List.mem_cons.mp hp with rfl | hp
        · exact ⟨hD₅, hDL, hD₀⟩
        · exact ⟨hs₅.extBut _ _ (off4 p hp).2.2 (N₄' p hp).1, (N₄' p hp).2⟩
      · obtain rfl : i = n := Nat.le_antisymm hi (Nat.not_lt.mp hlt)
        refine W.done _ _ _ hst' fun h₂ tk₂ hk₂ => ?_
        have off3 := off'.mem
        exact hRR _ _ h₂ tk₂ _ oD kvs news' (fr_but F' hk₂ hIL hI₀) (news_but N' hk₂ fun p hp => by
          rcases List.mem_cons.mp hp with rfl | hp
          · exact Ne.symm hDI
          · exact (off3 p hp).1) hd' hlo off'.one (hn'.at' fun o e => hk₂ _ o (by simpa using Ne.symm hCI) e) hC₀ hD₀ hCL hDL (Ne.symm hDC) (fun p hp => (off3 p hp).2.1) hI'
    · rcases List.mem_cons.mp hp with rfl | hp
      · exact ⟨hoD₀, hDL, hD₀⟩
      · exact ⟨old _ _ (N p hp).1, (N p hp).2⟩
  exact codeAny_compStart_dict (loop _ rfl) (W.self 0 _ _ _ hst₁ (loop _ rfl))

/-- the dict that is gone through -/
def DSrc (prog : Program) (w : World) (A : Around) (h₀ : Heap) (L : Addr) (m : Str → Option Value) (env : Env) (kx vx : Expr) (x : Str) (scope : Scope) (cl : List (Str × Addr)) (Q : Value → Shared → Prop) (xv : Value) (s₁ : Shared) : Prop :=
  ∃ (da : Addr) (oda : Obj) (kvs₀ : List (Str × Value)) (news : List (Addr × Obj)) (Inv : Nat → List (Str × Value) → List (Addr × Obj) → Prop), xv = .ref da ∧ A.handled = none ∧ Fr h₀ L s₁.heap m ∧ News h₀ L s₁.heap news ∧ (da, oda) ∈ news ∧ oda.IsDictOf (PySem.strKind prog w) kvs₀ ∧ (da == sysModules) = false ∧ sysModules < h₀.objs.size ∧
    Inv 0 [] news ∧ (∀ i kvs nw, Inv i kvs nw → kvs.length ≤ sizeLine) ∧ (∀ i kvs nw, Inv i kvs nw → True) ∧
    (∀ g, DTurn prog w A h₀ L m env kx vx x scope cl { s₁ with heap := g } (fun nw => (da, oda) ∈ nw) (fun i v => ∃ k y t, kvs₀[i]? = some (k, y) ∧ v = .str k t) kvs₀.length Inv) ∧
    (∀ kvs nw, Inv kvs₀.length kvs nw → ∀ D oD h tk, Fr h₀ L h m → News h₀ L h ((D, oD) :: nw) → oD.IsDictOf (PySem.strKind prog w) kvs → (D == sysModules) = false → Off1 D nw → Q (.ref D) { s₁ with heap := h, toks := tk })

theorem DictComp_I {kx vx iter : Expr} {x : Str} {px : Pos} {scope : Scope} {cl : List (Str × Addr)} {pos : Pos} {Q : Value → Shared → Prop}
    (hclos : closureFor scope env = pure cl) (hcell : ∀ y ∈ scope.names, y.2 ≠ .cell) (hkind : scope.kind = .function)
    (hnames : ∀ y ∈ scope.names, y.2 = .local → scope.names.lookup y.1 = some .local) (hx : scope.names.lookup x = some .local)
    (h : wpAny (model prog w) A (eval iter env) (DSrc prog w A h₀ L m env kx vx x scope cl Q) E s)
    (hs : ∀ x, foldedSetIterable iter env x = pure x := by intro _; rfl) :
    wpAny (model prog w) A (eval (.DictComp kx vx [⟨.Name x px, iter, [], 0⟩] scope pos) env) Q E s := by
  rw [arm_eval_DictComp]
  refine wpAny_comprehension_free (use := none) rfl hs hclos hkind hnames (wpAny_mono h (fun xv s₁ h₁ => ?_) fun _ _ e => e)
  obtain ⟨da, oda, kvs₀, news, Inv, rfl, hh, F, N, hm, hd, lo, hlow, hI0, hlen, _, turn, fin⟩ := h₁
  obtain ⟨ep, ha⟩ := KdkAt.of hd
  have hda := (N _ hm).1
  have hlt : da < s₁.heap.objs.size := Heap.lt_size hda
  have hne : da ≠ s₁.heap.objs.size := Nat.ne_of_lt hlt
  refine wpAny_pyIter_dict lo (ha.dictAt hda) ?_
  have up : ∀ b o, s₁.heap.get? b = some o → (s₁.heap.push { cls := .type "dict_keyiterator", data := .fields #[.ref da, .int 0 0, .int kvs₀.length 0, .int ep 0] }).get? b = some o := fun b o e => Heap.get?_push_of_some _ e
  refine block_D (S := fun nw => (da, oda) ∈ nw) (P := fun i v => ∃ k y t, kvs₀[i]? = some (k, y) ∧ v = .str k t) (Inv := Inv)
    ((Walks.dictKeys (knd := PySem.strKind prog w) hh s₁.heap.objs.size da hne kvs₀ ep).weaken ?_)
    (fun i h st => by obtain ⟨o, e, _⟩ := st.1; exact ⟨o, e⟩)
    (fun i h h' o nw st e e' k N S => ⟨by obtain ⟨o', q, r⟩ := st.1; rw [e] at q; cases q; exact ⟨o, e', r⟩, ha.dictAt (N _ S).1⟩) hcell hkind hx
    ⟨⟨_, Heap.get?_push_size _ rfl, rfl, rfl⟩, ha.dictAt (up _ _ hda)⟩ (fun b hb => ?_)
      (F.keeps up) (N.grown up) (Nat.ne_of_lt F.ns.lt) (next_is_new F) (fun p hp => Nat.ne_of_lt (Heap.lt_size (N p hp).1)) hm hlow hI0 hlen (turn _) ?_
  · rintro i v ⟨k, y, hx, hkey⟩
    obtain ⟨t, rfl⟩ := Value.isStrOf_shape hkey
    exact ⟨k, y, t, hx, rfl⟩
  · show b < (s₁.heap.push _).objs.size
    rw [Heap.size_push]
    rcases List.mem_cons.mp hb with rfl | hb
    · exact Nat.lt_succ_self _
    · rw [List.mem_singleton.mp hb]; exact Nat.lt_succ_of_lt hlt
  · intro D C h tk m' oD kvs news' F' N' hd' lo' o1 hn hC₀ hD₀ hCL hDL hCD offC fin'
    refine ⟨m', hn, fun h'' hs'' => fin kvs news' fin' D oD h'' tk (F'.change hs'' hCL hC₀) (fun p hp => ?_) hd' lo' o1⟩
    refine ⟨hs''.extBut _ _ ?_ (N' p hp).1, (N' p hp).2⟩
    rcases List.mem_cons.mp hp with rfl | hp
    · exact Ne.symm hCD
    · exact offC p hp
end
end

section
open PySem PySem.W PySem.Calls PySem.Spec PyProof.Rows PySem.SeqAt
/-- pairs of a dict, told by rows of texts -/
inductive KvR (R : Value → List Str → Prop) : List (Str × Value) → List (Str × List Str) → Prop
  | nil : KvR R [] []
  | cons {k : Str} {v : Value} {ss : List Str} {kvs : List (Str × Value)} {rows : List (Str × List Str)} : R v ss → KvR R kvs rows → KvR R ((k, v) :: kvs) ((k, ss) :: rows)

def rowAt (rows : List (Str × List Str)) (k : Str) : Option (List Str) := (rows.find? fun q => q.1 = k).map (·.2)
def rowPut (rows : List (Str × List Str)) (k : Str) (ss : List Str) : List (Str × List Str) :=
  if rows.any (fun q => q.1 = k) then rows.map (fun q => if q.1 = k then (q.1, ss) else q) else rows ++ [(k, ss)]

section
variable {R R' : Value → List Str → Prop} {kvs : List (Str × Value)} {rows : List (Str × List Str)}
theorem KvR.mono (h : KvR R kvs rows) (f : ∀ v ss, R v ss → R' v ss) : KvR R' kvs rows := by
  induction h with
  | nil => exact .nil
  | cons r _ ih => exact .cons (f _ _ r) ih
theorem KvR.len (h : KvR R kvs rows) : kvs.length = rows.length := by
  induction h with
  | nil => rfl
  | cons r _ ih => simp [ih]
theorem KvR.keys (h : KvR R kvs rows) : kvs.map (·.1) = rows.map (·.1) := by
  induction h with
  | nil => rfl
  | cons r _ ih => simp [ih]
theorem KvR.at_none (h : KvR R kvs rows) {k : Str} (hn : rowAt rows k = none) : valueAt kvs k = none := by
  induction h with
  | nil => rfl
  | cons r _ ih =>
    rename_i k' v ss kvs rows _
    unfold rowAt valueAt at *
    rw [List.find?_cons] at hn ⊢
    by_cases e : k' = k
    · simp [e] at hn
    · simp only [e, decide_false] at hn ⊢
      exact ih hn
theorem KvR.at_some (h : KvR R kvs rows) {k : Str} {ss : List Str} (hn : rowAt rows k = some ss) : ∃ v, valueAt kvs k = some v ∧ R v ss := by
  induction h with
  | nil => exact nomatch hn
  | cons r _ ih =>
    rename_i k' v ss' kvs rows _
    unfold rowAt valueAt at *
    rw [List.find?_cons] at hn ⊢
    by_cases e : k' = k
    · simp only [e, decide_true, Option.map_some, Option.some.injEq] at hn ⊢
      subst hn
      exact ⟨v, rfl, r⟩
    · simp only [e, decide_false] at hn ⊢
      exact ih hn
theorem KvR.any (h : KvR R kvs rows) (k : Str) : kvs.any (fun kv => kv.1 = k) = rows.any (fun q => q.1 = k) := by
  induction h with
  | nil => rfl
  | cons r _ ih => simp only [List.any_cons, ih]
theorem KvR.map (h : KvR R kvs rows) {k : Str} {v : Value} {ss : List Str} (r : R v ss) : KvR R (kvs.map fun kv => if kv.1 = k then (kv.1, v) else kv) (rows.map fun q => if q.1 = k then (q.1, ss) else q) := by
  induction h with
  | nil => exact .nil
  | cons r' _ ih =>
    rename_i k' v' ss' kvs rows _
    simp only [List.map_cons]
    by_cases e : k' = k
    · simp only [e, if_true]; exact .cons r ih
    · simp only [e, if_false]; exact .cons r' ih
theorem KvR.app (h : KvR R kvs rows) {kvs' : List (Str × Value)} {rows' : List (Str × List Str)} (h' : KvR R kvs' rows') : KvR R (kvs ++ kvs') (rows ++ rows') := by
  induction h with
  | nil => exact h'
  | cons r' _ ih => exact .cons r' ih
theorem KvR.put (h : KvR R kvs rows) {k : Str} {v : Value} {ss : List Str} (r : R v ss) : KvR R (stored kvs k v) (rowPut rows k ss) := by
  unfold stored rowPut
  rw [h.any k]
  by_cases e : rows.any (fun q => q.1 = k) = true
  · simp only [e, if_true]; exact h.map r
  · simp only [e, Bool.false_eq_true, if_false]; exact h.app (.cons r .nil)
theorem KvR.idx (h : KvR R kvs rows) {i : Nat} {k : Str} {y : Value} (hi : kvs[i]? = some (k, y)) : ∃ ss, rows[i]? = some (k, ss) ∧ R y ss := by
  induction h generalizing i with
  | nil => simp at hi
  | cons r _ ih =>
    cases i with
    | zero =>
      simp only [List.getElem?_cons_zero, Option.some.injEq, Prod.mk.injEq] at hi
      obtain ⟨rfl, rfl⟩ := hi
      exact ⟨_, rfl, r⟩
    | succ i =>
      simp only [List.getElem?_cons_succ] at hi ⊢
      exact ih hi
end
theorem rowPut_len {rows : List (Str × List Str)} {k : Str} {ss : List Str} : (rowPut rows k ss).length ≤ rows.length + 1 := by
  unfold rowPut
  split
  · rw [List.length_map]; omega
  · rw [List.length_append]; exact Nat.le_refl _
theorem valueAt_idx {kvs : List (Str × Value)} (hn : (kvs.map (·.1)).Nodup) {i : Nat} {k : Str} {y : Value} (hi : kvs[i]? = some (k, y)) : valueAt kvs k = some y := by
  induction kvs generalizing i with
  | nil => simp at hi
  | cons p r ih =>
    obtain ⟨k', v'⟩ := p
    rw [List.map_cons, List.nodup_cons] at hn
    unfold valueAt at *
    rw [List.find?_cons]
    cases i with
    | zero =>
      simp only [List.getElem?_cons_zero, Option.some.injEq, Prod.mk.injEq] at hi
      obtain ⟨rfl, rfl⟩ := hi
      simp
    | succ i =>
      simp only [List.getElem?_cons_succ] at hi
      have hm : k ∈ r.map (·.1) := List.mem_map.mpr ⟨_, List.mem_of_getElem? hi, rfl⟩
      have e : ¬ k' = k := fun e => hn.1 (e ▸ hm)
      simp only [e, decide_false]
      exact ih hn.2 hi
theorem rowPut_new {rows : List (Str × List Str)} (hn : (rows.map (·.1)).Nodup) {i : Nat} {k : Str} {ss : List Str} (hi : rows[i]? = some (k, ss)) : rowPut (rows.take i) k ss = rows.take (i + 1) := by
  have hlt : i < rows.length := (List.getElem?_eq_some_iff.mp hi).1
  have hg : rows[i] = (k, ss) := (List.getElem?_eq_some_iff.mp hi).2
  have hno : (rows.take i).any (fun q => q.1 = k) = false := by
    rw [List.any_eq_false]
    intro q hq
    simp only [decide_eq_true_eq]
    intro e
    obtain ⟨j, hj, hq'⟩ := List.mem_take_iff_getElem.mp hq
    have hj' : j < rows.length := by omega
    have h1 : (rows.map (·.1))[j]? = some k := by rw [List.getElem?_map, List.getElem?_eq_getElem hj', hq', ← e]; rfl
    have h2 : (rows.map (·.1))[i]? = some k := by rw [List.getElem?_map, hi]; rfl
    have := (List.getElem?_inj (by rw [List.length_map]; exact hj') hn).mp (h1.trans h2.symm)
    omega
  unfold rowPut
  rw [hno, List.take_succ, hi]
  rfl

/-- the texts are plain -/
def Plain (ss : List Str) : Prop := (∀ x ∈ ss, SeqAt.shaped (.str x) = true) ∧ ss.length ≤ 8
/-- a list of texts lies in the ledger -/
def TxtAt (news : List (Addr × Obj)) (i : Addr) (ss : List Str) : Prop := ∃ vs n, (i, listOf vs.toArray n) ∈ news ∧ StrsAre vs ss ∧ ss.length ≤ 8

/-- a vector of texts lies in the ledger -/
def ChrAt (P : Params) (news : List (Addr × Obj)) (v : Value) (ss : List Str) : Prop :=
  ∃ (x d i : Addr) (m : Nat) (vs : List Value) (t0 t1 t2 t3 t4 tk : Tok), v = .ref x ∧ (x, instObj 106 d) ∈ news ∧ (d, dictOf [⟨PyData.keyHash P "kind", .str "kind" t0, .str "character" tk⟩, ⟨PyData.keyHash P "items", .str "items" t1, .ref i⟩, ⟨PyData.keyHash P "attrs", .str "attrs" t2, .none⟩, ⟨PyData.keyHash P "shared", .str "shared" t3, .bool false⟩, ⟨PyData.keyHash P "loose", .str "loose" t4, .bool false⟩] 5) ∈ news ∧
    (i, listOf vs.toArray m) ∈ news ∧ StrsAre vs ss ∧ ss.length ≤ 8
theorem chr_at {P : Params} {news : List (Addr × Obj)} {x d i : Addr} {m : Nat} {vs : List Value} {ss : List Str} {t0 t1 t2 t3 t4 tk : Tok} (hx : (x, instObj 106 d) ∈ news) (hd : (d, dictOf [⟨PyData.keyHash P "kind", .str "kind" t0, .str "character" tk⟩, ⟨PyData.keyHash P "items", .str "items" t1, .ref i⟩, ⟨PyData.keyHash P "attrs", .str "attrs" t2, .none⟩, ⟨PyData.keyHash P "shared", .str "shared" t3, .bool false⟩, ⟨PyData.keyHash P "loose", .str "loose" t4, .bool false⟩] 5) ∈ news)
    (hi : (i, listOf vs.toArray m) ∈ news) (hr : StrsAre vs ss) (hl : ss.length ≤ 8) : ChrAt P news (.ref x) ss := ⟨x, d, i, m, vs, t0, t1, t2, t3, t4, tk, rfl, hx, hd, hi, hr, hl⟩
theorem chrAt_mono {P : Params} {news news' : List (Addr × Obj)} {v : Value} {ss : List Str} (h : ChrAt P news v ss) (hs : ∀ p ∈ news, p ∈ news') : ChrAt P news' v ss := by
  obtain ⟨x, d, i, m, vs, t0, t1, t2, t3, t4, tk, e, hx, hd, hi, hr, hl⟩ := h
  exact ⟨x, d, i, m, vs, t0, t1, t2, t3, t4, tk, e, hs _ hx, hs _ hd, hs _ hi, hr, hl⟩

/-- a pair (kind, list of texts) lies in the ledger -/
def TupR (news : List (Addr × Obj)) (v : Value) (ss : List Str) : Prop :=
  ∃ (tp li : Addr) (n m : Nat) (vs : List Value) (tk : Tok), v = .ref tp ∧ (tp, ({ cls := .type "tuple", data := .seq #[.str "character" tk, .ref li] n } : Obj)) ∈ news ∧ (li, listOf vs.toArray m) ∈ news ∧ StrsAre vs ss ∧ ss.length ≤ 8
theorem tupR_mono {news news' : List (Addr × Obj)} {v : Value} {ss : List Str} (h : TupR news v ss) (hs : ∀ p ∈ news, p ∈ news') : TupR news' v ss := by
  obtain ⟨tp, li, n, m, vs, tk, e, h1, h2, h3, h4⟩ := h
  exact ⟨tp, li, n, m, vs, tk, e, hs _ h1, hs _ h2, h3, h4⟩

abbrev prg : Program := PySem.Challenge.rw_pq1390_01.row.prog

/-- a dict of rows -/
structure DictRows (w : World) (R : Value → List Str → Prop) (news : List (Addr × Obj)) (D : Addr) (oD : Obj) (kvs : List (Str × Value)) (rows : List (Str × List Str)) : Prop where
  at_ : (D, oD) ∈ news
  is : oD.IsDictOf (PySem.strKind prg w) kvs
  lo : (D == sysModules) = false
  rel : KvR R kvs rows
  few : rows.length ≤ 8
theorem DictRows.nodup {w : World} {R : Value → List Str → Prop} {news : List (Addr × Obj)} {D : Addr} {oD : Obj} {kvs : List (Str × Value)} {rows : List (Str × List Str)} (h : DictRows w R news D oD kvs rows) : (kvs.map (·.1)).Nodup := by
  obtain ⟨_, _, _, _, _, _, hn⟩ := h.is
  exact hn
theorem DictRows.nodupR {w : World} {R : Value → List Str → Prop} {news : List (Addr × Obj)} {D : Addr} {oD : Obj} {kvs : List (Str × Value)} {rows : List (Str × List Str)} (h : DictRows w R news D oD kvs rows) : (rows.map (·.1)).Nodup := by
  rw [← h.rel.keys]; exact h.nodup

/-- what a seen dict tells -/
def SeenAt (w : World) (news : List (Addr × Obj)) (D : Addr) (rows : List (Str × List Str)) : Prop := ∃ oD kvs, DictRows w (TupR news) news D oD kvs rows
theorem seenAt_mono {w : World} {news news' : List (Addr × Obj)} {D : Addr} {rows : List (Str × List Str)} (h : SeenAt w news D rows) (hs : ∀ p ∈ news, p ∈ news') : SeenAt w news' D rows := by
  obtain ⟨oD, kvs, h1, h2, h3, h4, h5⟩ := h
  exact ⟨oD, kvs, hs _ h1, h2, h3, h4.mono fun _ _ r => tupR_mono r hs, h5⟩
/-- what lies at attrs -/
def AttrAt (w : World) (news : List (Addr × Obj)) (av : Value) : Option (List (Str × List Str)) → Prop
  | none => av = .none
  | some rows => ∃ ad oa kvs, av = .ref ad ∧ DictRows w (ChrAt w.params news) news ad oa kvs rows
theorem attrAt_mono {w : World} {news news' : List (Addr × Obj)} {av : Value} {am : Option (List (Str × List Str))} (h : AttrAt w news av am) (hs : ∀ p ∈ news, p ∈ news') : AttrAt w news' av am := by
  cases am with
  | none => exact h
  | some rows =>
    obtain ⟨ad, oa, kvs, e, h1, h2, h3, h4, h5⟩ := h
    exact ⟨ad, oa, kvs, e, hs _ h1, h2, h3, h4.mono fun _ _ r => chrAt_mono r hs, h5⟩

/-! equality -/
section
variable {A : Around} {s : Shared} {h₀ : Heap} {L : Addr} {news : List (Addr × Obj)}
theorem strs_eq : ∀ {vs us : List Value} {ss : List Str}, StrsAre vs ss → StrsAre us ss → vs.length = us.length ∧ ∀ j (h1 : j < vs.length) (h2 : j < us.length), EqAt A s vs[j] us[j] true
  | _, _, _, .nil, .nil => ⟨rfl, fun _ h => absurd h (Nat.not_lt_zero _)⟩
  | _, _, _, .cons y t h, .cons _ u h' => by
    obtain ⟨e, k⟩ := strs_eq h h'
    refine ⟨by simp [e], fun j h1 h2 => ?_⟩
    cases j with
    | zero => have := EqAt.str_str (A := A) (s := s) y t y u; rw [beq_self_eq_true] at this; exact this
    | succ j => exact k j (Nat.lt_of_succ_lt_succ h1) (Nat.lt_of_succ_lt_succ h2)
theorem range_all_true {n : Nat} : (List.range n).all (fun _ => true) = true := by simp
theorem rc_lists {a b : Addr} {vs us : List Value} {n m : Nat} (N : News h₀ L s.heap news) (ha : (a, listOf vs.toArray n) ∈ news) (hb : (b, listOf us.toArray m) ∈ news) (hl : vs.length = us.length)
    (he : ∀ j (h1 : j < vs.length) (h2 : j < us.length), EqAt A.in1 s vs[j] us[j] true) (hu : A.units < cLine) : RcAt A s (.ref a) (.ref b) true ∧ RcNeAt A s (.ref a) (.ref b) false := by
  have h1 := RcAt.lists (A := A) (e := fun _ => true) (News.isList N ha) (News.isList N hb) (by simpa using hl) hu (fun j j1 j2 => by simpa using he j (by simpa using j1) (by simpa using j2))
  have h2 := RcNeAt.lists (A := A) (e := fun _ => true) (News.isList N ha) (News.isList N hb) (by simpa using hl) hu (fun j j1 j2 => by simpa using he j (by simpa using j1) (by simpa using j2))
  rw [range_all_true] at h1 h2
  exact ⟨h1, h2⟩
theorem eq_of_rc {a b : Addr} (h : RcAt A s (.ref a) (.ref b) true) : EqAt A s (.ref a) (.ref b) true := by
  by_cases e : a = b
  · subst e; exact EqAt.same _
  · exact EqAt.of_refs e h
theorem rc_tup2 {a b : Addr} {v1 v2 u1 u2 : Value} {n m : Nat} (N : News h₀ L s.heap news) (ha : (a, ({ cls := .type "tuple", data := .seq #[v1, v2] n } : Obj)) ∈ news) (hb : (b, ({ cls := .type "tuple", data := .seq #[u1, u2] m } : Obj)) ∈ news)
    (e1 : EqAt A.in1 s v1 u1 true) (e2 : EqAt A.in1 s v2 u2 true) (hu : A.units < cLine) : RcAt A s (.ref a) (.ref b) true ∧ RcNeAt A s (.ref a) (.ref b) false := by
  have ta : s.heap.IsTuple a #[v1, v2] := ⟨_, N.get ha, rfl, _, rfl⟩
  have tb : s.heap.IsTuple b #[u1, u2] := ⟨_, N.get hb, rfl, _, rfl⟩
  have he : ∀ j (h1 : j < #[v1, v2].size) (h2 : j < #[u1, u2].size), EqAt A.in1 s #[v1, v2][j] #[u1, u2][j] ((fun _ => true) j) := fun j h1 h2 => by
    match j, h1, h2 with
    | 0, _, _ => exact e1
    | 1, _, _ => exact e2
  exact ⟨RcAt.tuples (A := A) (e := fun _ => true) ta tb hu he, RcNeAt.tuples (A := A) (e := fun _ => true) ta tb hu he⟩
theorem tupR_eq {v y : Value} {ss : List Str} (N : News h₀ L s.heap news) (h : TupR news v ss) (h' : TupR news y ss) (hu : A.units + 1 < cLine) : EqAt A s v y true := by
  obtain ⟨tp, li, n, m, vs, tk, rfl, h1, h2, h3, h4⟩ := h
  obtain ⟨tp', li', n', m', vs', tk', rfl, h1', h2', h3', h4'⟩ := h'
  refine eq_of_rc (rc_tup2 N h1 h1' ?_ (eq_of_rc ?_) (by omega)).1
  · have := EqAt.str_str (A := A.in1) (s := s) "character" tk "character" tk'; rw [beq_self_eq_true] at this; exact this
  · obtain ⟨e, k⟩ := strs_eq (A := A.in1.in1) (s := s) h3 h3'
    exact (rc_lists N h2 h2' e k (by rw [units_in1]; omega)).1
end
section
variable {w : World} {A : Around} {E : Value → Shared → Prop} {s : Shared} {h₀ : Heap} {L : Addr} {news : List (Addr × Obj)}
theorem hits_of {kb : List (Str × Value)} (N : News h₀ L s.heap news) (hu : A.units + 1 < cLine) : ∀ {ka ka' kb' : List (Str × Value)} {rows : List (Str × List Str)}, KvR (TupR news) ka rows → KvR (TupR news) kb' rows → (∀ k v, (k, v) ∈ kb' → valueAt kb k = some v) → KeqHits A s kb ka true
  | _, _, _, _, .nil, .nil, _ => .nil
  | _, ka', _, _, .cons r h, .cons r' h', hk => by
    have := hits_of (ka' := ka') N hu h h' fun k v hm => hk k v (.tail _ hm)
    exact KeqHits.hit (e := true) (hk _ _ (.head _)) (tupR_eq N r r' hu) this
theorem seen_hits {D D' : Addr} {oD oD' : Obj} {kvs kvs' : List (Str × Value)} {rows : List (Str × List Str)} (N : News h₀ L s.heap news) (hu : A.units + 1 < cLine)
    (h : DictRows w (TupR news) news D oD kvs rows) (h' : DictRows w (TupR news) news D' oD' kvs' rows) : KeqHits A s kvs' kvs true := by
  refine hits_of (ka' := kvs) N hu h.rel h'.rel fun k v hm => ?_
  obtain ⟨i, hi⟩ := List.mem_iff_getElem?.mp hm
  exact valueAt_idx h'.nodup hi
theorem seen_eq {D D' : Addr} {rows : List (Str × List Str)} {Q : Value → Shared → Prop} (N : News h₀ L s.heap news) (h : SeenAt w news D rows) (h' : SeenAt w news D' rows) (hu : A.units + 2 < cLine) (k : Q (.bool true) s) :
    wpAny (model prg w) A (compareOp .Eq (.ref D) (.ref D')) Q E s := by
  obtain ⟨oD, kvs, h⟩ := h
  obtain ⟨oD', kvs', h'⟩ := h'
  exact keq_pairs N h.at_ h'.at_ h.is h'.is h.lo h'.lo (h.rel.len.trans h'.rel.len.symm) (by omega) (seen_hits N (by rw [units_in1]; omega) h h') k
theorem seen_ne {D D' : Addr} {rows : List (Str × List Str)} {Q : Value → Shared → Prop} (N : News h₀ L s.heap news) (h : SeenAt w news D rows) (h' : SeenAt w news D' rows) (hu : A.units + 2 < cLine) (k : Q (.bool false) s) :
    wpAny (model prg w) A (compareOp .NotEq (.ref D) (.ref D')) Q E s := by
  obtain ⟨oD, kvs, h⟩ := h
  obtain ⟨oD', kvs', h'⟩ := h'
  exact kne_pairs N h.at_ h'.at_ h.is h'.is h.lo h'.lo (h.rel.len.trans h'.rel.len.symm) (by omega) (seen_hits N (by rw [units_in1]; omega) h h') k
theorem list_ne_self {a b : Addr} {vs : List Value} {n m : Nat} {Q : Value → Shared → Prop} (N : News h₀ L s.heap news) (ha : (a, listOf vs.toArray n) ∈ news) (hb : (b, listOf vs.toArray m) ∈ news) (hu : A.units < cLine) (k : Q (.bool false) s) :
    wpAny (model prg w) A (compareOp .NotEq (.ref a) (.ref b)) Q E s :=
  (rc_lists N ha hb rfl (fun _ _ _ => EqAt.same _) hu).2 _ _ _ _ k
theorem list_eq_self {a b : Addr} {vs : List Value} {n m : Nat} {Q : Value → Shared → Prop} (N : News h₀ L s.heap news) (ha : (a, listOf vs.toArray n) ∈ news) (hb : (b, listOf vs.toArray m) ∈ news) (hu : A.units < cLine) (k : Q (.bool true) s) :
    wpAny (model prg w) A (compareOp .Eq (.ref a) (.ref b)) Q E s :=
  (rc_lists N ha hb rfl (fun _ _ _ => EqAt.same _) hu).1 _ _ _ _ k
/-- two tuples whose items are the same -/
theorem tup_ne_same {a b : Addr} {xs ys : List Value} {n m : Nat} {Q : Value → Shared → Prop} (N : News h₀ L s.heap news) (ha : (a, ({ cls := .type "tuple", data := .seq xs.toArray n } : Obj)) ∈ news) (hb : (b, ({ cls := .type "tuple", data := .seq ys.toArray m } : Obj)) ∈ news)
    (hl : xs.length = ys.length) (he : ∀ p ∈ xs.zip ys, ∀ (E : Value → Shared → Prop) (Q : Bool → Shared → Prop), Q true s → wpAny (model prg w) A.in1 (eqBool p.1 p.2) Q E s) (hu : A.units < cLine) (k : Q (.bool false) s) :
    wpAny (model prg w) A (compareOp .NotEq (.ref a) (.ref b)) Q E s := by
  have ga := N.get ha
  have gb := N.get hb
  refine wpAny_richCompare_same_room (op := .NotEq) ⟨_, ga, rfl⟩ ⟨_, gb, rfl⟩ F.slot_tuple_ne (wpAny_call_entry F.slot_tuple_ne ⟨_, ga, rfl⟩ F.entry_tuple_ne ?_ (F.args_tuple_ne_2 _ _)) hu
  obtain ⟨hp, g, d, tk, os⟩ := s
  have f2 := AutoSeq1.sub_tuple_tuple
  wp_walk using AutoSeq1.wpAny_loadPart' ga, AutoSeq1.wpAny_loadPart' gb, wpAny_forIn_list _ (fun rest b s' => b.1 = none ∧ s' = ⟨hp, g, d, tk, os⟩ ∧ ∀ p ∈ rest, p ∈ xs.zip ys) _
  case turn =>
    rintro ⟨y, x⟩ rest b s' ⟨hb', rfl, hz⟩
    refine wpAny_bind (he _ (hz _ (.head _)) _ _ ?_)
    wp_walk
    exact ⟨rfl, rfl, fun p hp => hz p (.tail _ hp)⟩
  case fin =>
    rintro ⟨b1, b2⟩ s' ⟨hb', rfl, hz⟩
    simp only at hb'
    subst hb'
    wp_walk
    refine ⟨_, rfl, ?_⟩
    simp [Builtin.Tuple.tupleCompareSizes, bne, hl]
    exact k
  case h => exact ⟨rfl, rfl, fun p hp => by simpa using hp⟩
end
end

set_option maxHeartbeats 16000000 in
theorem nut_ct (w : World) {l : Addr} {us : List Value} {n : Nat} {k : Int} {t : Tok} {rest : List (Addr × Obj)} (hi : NutsL us) (hr : ∀ p ∈ rest, p.1 ≠ l) (hk : 0 < k) (hk2 : k ≤ 10) :
    Ct w 207 [.ref l, .int k t] 1 ((l, listOf us.toArray n) :: rest) (fun r nw => ∃ i t' us' n', r = .int i t' ∧ 0 ≤ i ∧ i < k ∧ NutsL us' ∧ nw = (l, listOf us'.toArray n') :: rest) := by
  unfold Ct
  k_fill
  intro loose mean mg mb dp un gd cn cs a ccd cl outer A₀ base h₀ L m s Q E B F X N T hkd hd hu hret
  obtain ⟨⟨xs, hI⟩, hl⟩ := hi
  k_extra "mine enter"
  k_extra "mine steps"
  · exact hret _ _ _ _ (by k_asm) (by k_asm) ⟨_, _, _, _, rfl, by rw [Int.fmod_eq_emod_of_nonneg _ (by omega)]; exact Int.emod_nonneg _ (by omega), by rw [Int.fmod_eq_emod_of_nonneg _ (by omega)]; exact Int.emod_lt_of_pos _ hk, ⟨⟨_, by assumption⟩, by simp; omega⟩, rfl⟩
  · exact hret _ _ _ _ (by k_asm) (by k_asm) ⟨_, _, us, n, rfl, by decide, hk, ⟨⟨xs, hI⟩, hl⟩, rfl⟩

theorem nut_cps {l : Addr} {k : Int} {rest : List (Addr × Obj)} : ∀ R : Value → List (Addr × Obj) → Prop, (∀ (i : Int) (t' : Tok) (us' : List Value) (n' : Nat), 0 ≤ i → i < k → NutsL us' → R (.int i t') ((l, listOf us'.toArray n') :: rest)) →
    ∀ r nw, (∃ i t' us' n', r = .int i t' ∧ 0 ≤ i ∧ i < k ∧ NutsL us' ∧ nw = (l, listOf us'.toArray n') :: rest) → R r nw := by
  rintro R k r nw ⟨i, t, us, n, rfl, h1, h2, h3, rfl⟩; exact k i t us n h1 h2 h3
theorem lines8 : True := by
  k_with "mine nut" => (first | ((k_dflt (refine' ct_useK ?k1q21 ?k2q21 ?k3q21 ?k4q21 ?k5q21 ?kKq21 (nut_ct _ ?hiq21 ?hrq21 ?haq21 ?hbq21) nut_cps ?kdq21 ?kuq21 ?_; (case k4q21 => refine' pull_news ?knq21 ?kpq21; (case knq21 => k_asm); (case kpq21 => k_extra "mine pull")); (case hiq21 => k_asm); (case hrq21 => k_all); (case k1q21 => k_asm); (case k2q21 => k_asm); (case k3q21 => k_asm); (case k5q21 => k_asm); (case kKq21 => first | exact rfl | assumption); (case haq21 => decide); (case hbq21 => decide); (case kdq21 => ktr_room); (case kuq21 => ktr_units)); (intro i'q21 t'q21 us'q21 n'q21 hi0q21 hikq21 husq21 h'q21 tk'q21 F'q21 N'q21; (try dsimp only); (try k_sweep)))) | fail)
  k_with "call ref" => (first | ((k_here; (with_reducible show wpAny _ _ (call (Value.ref 207) [Value.ref _, Value.int _ _]) _ _ _); k_extra "mine nut")) | fail)
  trivial

section
/-- a contract that leans on what lies below -/
def CtB (w : World) (Hb : Heap → Prop) (f : Addr) (args : List Value) (sz : Nat) (news : List (Addr × Obj)) (Post : Value → List (Addr × Obj) → Prop) : Prop :=
  ∀ (loose : List Str) (mean : ExcName → Option Value) (mg mb : Str → Option Value) (dp un : Nat) (gd : Option (List Code)) (cn : Str) (cs : Scope) (a : Addr) (ccd : Value) (cl : List (Str × Addr)) (outer : List Env) (A₀ : Around) (base h₀ : Heap) (L : Addr) (m : Str → Option Value) (s : Shared)
    (Q E : Value → Shared → Prop), Hb base →
    Below A₀ base outer h₀ → Fr h₀ L s.heap m → (hd.heap_1_39 w.params).In h₀ → News h₀ L s.heap news → Top hd.view_1_40 loose mean mg mb h₀ → cs.kind = .function → dp + sz < recursionLimit → un + 8 * sz < cLine →
    (∀ r news' h' tk', Fr h₀ L h' m → News h₀ L h' news' → Post r news' → Q r { s with heap := h', toks := tk' }) →
    wpAny (model PySem.Challenge.rw_pq1390_01.row.prog w) (ktrTop dp un gd cn cs L a ccd cl outer) (call (.ref f) args) Q E s

section
variable {prog : Program} {w : World} {A : Around} {E : Value → Shared → Prop} {s : Shared} {env : Env} {h₀ : Heap} {x : Str} {body : List Stmt} {Q : Flow → Shared → Prop}
theorem unrPost_mono {L I : Addr} {s₁ : Shared} {it : Obj} {r r' : (Str → Option Value) → List (Addr × Obj) → Prop} (f : ∀ m n, r m n → r' m n) {fl : Flow} {s₂ : Shared} (h : UnrPost h₀ L s₁ I it r Q fl s₂) : UnrPost h₀ L s₁ I it r' Q fl s₂ := by
  have up : UnrEnd h₀ L s₁ I it r s₂ → UnrEnd h₀ L s₁ I it r' s₂ := fun ⟨h', tk, m', news', e, F, N, o, q⟩ => ⟨h', tk, m', news', e, F, N, o, f _ _ q⟩
  cases fl with
  | ret v => exact h
  | brk => exact h
  | next => exact up h
  | cont => exact up h
theorem listRest_inv {I : Addr} {lp : Addr × Obj} {all : List Value} (Inv : Nat → (Str → Option Value) → List (Addr × Obj) → Prop)
    (step : ∀ k v m news, all[k]? = some v → Inv k m news → ∀ (it : Obj) h tk, it.cls = .type "list_iterator" → Fr h₀ env.locals h (fun y => if y = x then some v else m y) → News h₀ env.locals h ((I, it) :: news) →
      wpAny (model prog w) A (execs body env) (UnrPost h₀ env.locals { s with heap := h, toks := tk } I it (fun m' n' => lp ∈ n' ∧ Inv (k + 1) m' n') Q) E { s with heap := h, toks := tk })
    (fin : ∀ m news, Inv all.length m news → ∀ h tk, Fr h₀ env.locals h m → News h₀ env.locals h news → Q .next { s with heap := h, toks := tk }) :
    ∀ rest k m news, all.drop k = rest → Inv k m news → k ≤ all.length → ListRest prog w A E h₀ env x body Q s I lp rest m news := by
  intro rest
  induction rest with
  | nil =>
    intro k m news e hI hk
    have hk' : k = all.length := by
      have := congrArg List.length e
      rw [List.length_drop] at this
      simp only [List.length_nil] at this
      omega
    subst hk'
    exact ListRest.zero (fin m news hI)
  | cons v r ih =>
    intro k m news e hI hk
    have hlt : k < all.length := by
      have := congrArg List.length e
      rw [List.length_drop] at this
      simp only [List.length_cons] at this
      omega
    have hd := List.drop_eq_getElem_cons hlt
    rw [e] at hd
    injection hd with hv hr
    refine ListRest.succ fun it h tk hc F N => ?_
    refine wpAny_mono (step k v m news (by rw [List.getElem?_eq_getElem hlt, hv]) hI it h tk hc F N) (fun fl s₂ p => unrPost_mono (fun m' n' q => ⟨q.1, ih (k + 1) m' n' hr.symm q.2 hlt⟩) p) fun _ _ e => e
theorem rangeRest_inv {I : Addr} {a : Int} {n : Nat} (Inv : Nat → (Str → Option Value) → List (Addr × Obj) → Prop)
    (step : ∀ i m news, i < n → Inv i m news → ∀ t h tk (it : Obj), Fr h₀ env.locals h (fun y => if y = x then some (.int (a + (i : Int)) t) else m y) → News h₀ env.locals h ((I, it) :: news) →
      wpAny (model prog w) A (execs body env) (UnrPost h₀ env.locals { s with heap := h, toks := tk } I it (fun m' n' => Inv (i + 1) m' n') Q) E { s with heap := h, toks := tk })
    (fin : ∀ m news, Inv n m news → ∀ h tk, Fr h₀ env.locals h m → News h₀ env.locals h news → Q .next { s with heap := h, toks := tk }) :
    ∀ k i m news, i + k = n → Inv i m news → RangeRest prog w A E h₀ env x body Q s I a n k i m news := by
  intro k
  induction k with
  | zero =>
    intro i m news e hI
    have e' : i = n := by omega
    subst e'
    exact RangeRest.zero (fin m news hI)
  | succ k ih =>
    intro i m news e hI
    refine RangeRest.succ fun t h tk F N => ?_
    exact wpAny_mono (step i m news (by omega) hI t h tk _ F N) (fun fl s₂ p => unrPost_mono (fun m' n' q => ih (i + 1) m' n' (by omega) q) p) fun _ _ e => e
end

theorem ints_of_all : ∀ {ws : List Value}, (∀ v ∈ ws, ∃ k t, v = .int k t) → ∃ ms, IntsAre ws ms
  | [], _ => ⟨[], .nil⟩
  | v :: r, h => by
    obtain ⟨k, t, rfl⟩ := h v (.head _)
    obtain ⟨ms, hm⟩ := ints_of_all (ws := r) fun v hv => h v (.tail _ hv)
    exact ⟨k :: ms, .cons k t hm⟩
theorem ints_mem : ∀ {ws : List Value} {ms : List Int}, IntsAre ws ms → ∀ v ∈ ws, ∃ k t, v = .int k t
  | _, _, .nil, _, h => nomatch h
  | _, _, .cons k t r, v, h => by
    rcases List.mem_cons.mp h with rfl | h
    · exact ⟨k, t, rfl⟩
    · exact ints_mem r v h
theorem slice_ints {vs : List Value} {xs : List Int} (lo hi st : Option Int) (h : IntsAre vs xs) : ∃ ms, IntsAre (slicePick vs.toArray lo hi st).toList ms := by
  refine ints_of_all fun v hv => ?_
  unfold slicePick at hv
  rw [List.toList_toArray] at hv
  obtain ⟨j, _, hj⟩ := List.mem_filterMap.mp hv
  have : v ∈ vs := by simpa using Array.mem_of_getElem? hj
  exact ints_mem h v this

/-- the names that the loops turn -/
abbrev M3 (m₁ : Str → Option Value) (a b c : Option Value) : Str → Option Value := fun y => if y = "lap" then a else if y = "load" then b else if y = "cell" then c else m₁ y
theorem m3_of {m m₁ : Str → Option Value} (h : ∀ y : Str, y ≠ "lap" → y ≠ "load" → y ≠ "cell" → m y = m₁ y) : m = M3 m₁ (m "lap") (m "load") (m "cell") := by
  funext y
  unfold M3
  by_cases h1 : y = "lap"
  · rw [if_pos h1, h1]
  · rw [if_neg h1]
    by_cases h2 : y = "load"
    · rw [if_pos h2, h2]
    · rw [if_neg h2]
      by_cases h3 : y = "cell"
      · rw [if_pos h3, h3]
      · rw [if_neg h3]; exact h y h1 h2 h3

theorem rev_lit {ws : List Value} : (List.toArray ws).toList.reverse = ws.reverse := rfl
theorem lines9 : True := by
  k_with "call builtin:list.reverse" => (first | ((k_here; k_dflt (refine' kl_reverse ?zFq23 ?zNq23 rev_lit ?zUq23 ?zzq23 ?_; (case zFq23 => k_asm); (case zNq23 => k_asm); (case zUq23 => k_upd); (case zzq23 => (rw [sizeLine_eq]; exact Nat.le_trans (Nat.le_of_eq (congrArg List.length List.toList_toArray)) (by omega)))); intro h'q23 F'q23 N'q23; (try k_sweep))) | fail)
  k_with "exec For Name Subscript cons nil" => (first | ((k_here; (rename Fr _ _ _ _ => lF'q24); (with_unfolding_all refine' For_invVF lF'q24 ?k1q24 ?k2q24 ?_; (case k1q24 => exact rfl); (case k2q24 => exact rfl); k_whole))) | fail)
  k_with "exec For Name Call cons nil" => (first | ((k_here; (rename Fr _ _ _ _ => lF'q25); (with_unfolding_all refine' For_invVF lF'q25 ?k1q25 ?k2q25 ?_; (case k1q25 => exact rfl); (case k2q25 => exact rfl); k_whole))) | fail)
  k_with "pyIter ref" => (first | (((with_reducible show wpAny _ _ (pyIter (Value.ref _)) (fun it s₂ => LoopAtV _ _ _ _ _ _ _ _ _ it s₂) _ _); refine stop_of ?_)) | fail)
  k_with "UnrEnd" => (first | (refine stop_of ?_) | fail)
  k_with "call builtin:list.append" => (first | ((k_here; (first | with_reducible show wpAny _ _ (call (Value.builtin _) [Value.ref _, _]) _ _ _ | k_dflt (show wpAny _ _ (call (Value.builtin "list.append") [Value.ref _, _]) _ _ _)); k_dflt (refine' append_K (its := List.toArray _) ?k1q28 ?k2q28 ?k3q28 ?_ ?zq28; (case k1q28 => k_asm); (case k2q28 => k_asm); (case k3q28 => k_upd); (case zq28 => rw [sizeLine_eq, List.size_toArray]; omega); k_whole); intro h'q28 F'q28 N'q28; (try k_sweep))) | fail)
  trivial


abbrev M2 (m₁ : Str → Option Value) (a b : Option Value) : Str → Option Value := fun y => if y = "lap" then a else if y = "load" then b else m₁ y
theorem m2_of {m m₁ : Str → Option Value} (h : ∀ y : Str, y ≠ "lap" → y ≠ "load" → m y = m₁ y) : m = M2 m₁ (m "lap") (m "load") := by
  funext y
  unfold M2
  by_cases h1 : y = "lap"
  · rw [if_pos h1, h1]
  · rw [if_neg h1]
    by_cases h2 : y = "load"
    · rw [if_pos h2, h2]
    · rw [if_neg h2]; exact h y h1 h2
theorem ints_app : ∀ {ws : List Value} {ms : List Int}, IntsAre ws ms → ∀ (k : Int) (t : Tok), IntsAre (ws ++ [.int k t]) (ms ++ [k])
  | _, _, .nil, k, t => .cons k t .nil
  | _, _, .cons a u r, k, t => .cons a u (ints_app r k t)
def InvO (m₁ : Str → Option Value) (pD : Addr × Obj) (l : Addr) (news : List (Addr × Obj)) (k : Nat) (m : Str → Option Value) (nw : List (Addr × Obj)) : Prop :=
  ∃ us n, (∃ ys, IntsAre us ys) ∧ us.length ≤ 12 * k ∧ nw = pD :: (l, listOf us.toArray n) :: news ∧ ∀ y : Str, y ≠ "lap" → y ≠ "load" → y ≠ "cell" → m y = m₁ y
def InvI (m₁ : Str → Option Value) (p1 p2 : Addr × Obj) (l : Addr) (news : List (Addr × Obj)) (c : Nat) (i : Nat) (m : Str → Option Value) (nw : List (Addr × Obj)) : Prop :=
  ∃ us n b t, (∃ ys, IntsAre us ys) ∧ us.length ≤ c + i ∧ nw = p1 :: p2 :: (l, listOf us.toArray n) :: news ∧ m "load" = some (.int b t) ∧ ∀ y : Str, y ≠ "lap" → y ≠ "load" → m y = m₁ y
theorem off_upd {I l : Addr} {o o' : Obj} {pre news : List (Addr × Obj)} (h : ∀ p ∈ pre ++ (l, o) :: news, @LT.lt Nat _ p.1 I) : ∀ p ∈ pre ++ (l, o') :: news, p.1 ≠ I := by
  intro p hp
  rcases List.mem_append.mp hp with hp | hp
  · exact Nat.ne_of_lt (h p (List.mem_append.mpr (.inl hp)))
  · rcases List.mem_cons.mp hp with rfl | hp
    · exact Nat.ne_of_lt (h (l, o) (List.mem_append.mpr (.inr (.head _))))
    · exact Nat.ne_of_lt (h p (List.mem_append.mpr (.inr (.tail _ hp))))

set_option maxHeartbeats 16000000 in
theorem nuts_ct (w : World) {sc : Addr} {vs : List Value} {xs : List Int} {news : List (Addr × Obj)} (hi : IntsAre vs xs) (hl : xs.length ≤ 63) :
    CtB w (fun b => b.IsList sc vs.toArray) 200 [.ref sc] 2 news (fun r nw => ∃ l us n, r = .ref l ∧ NutsL us ∧ AllLt l news ∧ nw = (l, listOf us.toArray n) :: news) := by
  unfold CtB
  k_fill
  intro loose mean mg mb dp un gd cn cs a ccd cl outer A₀ base h₀ L m s Q E hL B F X N T hkd hd hu hret
  k_extra "mine enter"
  (with_reducible rename Below _ _ _ _ => B9)
  have hL9 := hL.at fun o e => B9.stays _ _ e
  k_extra "mine steps"
  obtain ⟨ms, hms⟩ := slice_ints none (some 50) none hi
  have hvl : vs.length ≤ 63 := by rw [hi.length]; exact hl
  k_dflt (refine' kmk_slice_ints (s := Shared.mk _ _ _ _ _) ?za ?zb ?zc ?zd ?ze hi hms rfl ?_ ?zf ?zg ?zh)
  case za => k_asm
  case zb => k_asm
  case zc => exact hL9.at fun o e => Fr.keep (by k_asm) _ _ e
  case zd => exact IsPart.none
  case ze => exact IsPart.int _ _
  case zf => with_unfolding_all rfl
  case zg => kmk_pure
  case zh => rw [sizeLine_eq, List.size_toArray]; omega
  intro D' ws' h' F' N' l1 hI' hC' hL'
  dsimp only
  k_extra "mine steps"
  unfold Stop
  (with_reducible rename Fr _ _ _ _ => F9)
  (with_reducible rename News _ _ _ _ => N9)
  refine iter_listUnr (lo := listOf ws'.toArray 0) (vs := ws') (n := 0) (by rfl) F9 N9 (.head _) rfl rfl ?_
  intro I1 lI1
  have rI1 := lI1
  k_lt lI1
  k_lt l1
  refine listRest_inv (InvO _ (D', listOf ws'.toArray 0) _ news) ?_ ?_ ws' 0 _ _ rfl ⟨[], 0, ⟨[], .nil⟩, Nat.zero_le _, rfl, fun _ _ _ _ => rfl⟩ (Nat.zero_le _)
  · intro k9 v9 m9 nw9 hv9 hI9 it9 h9 tk9 hc9 F9 N9
    obtain ⟨us9, n9, ⟨ys9, hys9⟩, hul9, rfl, hm9⟩ := hI9
    obtain ⟨c9, ct9, rfl⟩ := ints_mem hI' v9 (List.mem_of_getElem? hv9)
    rw [m3_of hm9] at F9
    have hk9 : k9 < ws'.length := (List.getElem?_eq_some_iff.mp hv9).1
    have hwl : ws'.length ≤ 63 := by rw [hI'.length]; omega
    k_extra "mine steps"
    all_goals (
      unfold Stop
      (with_reducible rename IsRange _ _ _ _ _ _ _ _ => R8)
      (with_reducible rename Fr _ _ _ _ => F8)
      (with_reducible rename News _ _ _ _ => N8)
      refine iter_rangeUnr (n := 12) (by rfl) R8 (by decide) (by decide) F8 N8 ?_
      intro I2 lI2
      have rI2 := lI2
      k_lt lI2
      refine rangeRest_inv (InvI _ (I1, it9) (D', listOf ws'.toArray 0) _ news us9.length) ?_ ?_ 12 0 _ _ rfl ⟨us9, n9, _, _, ⟨ys9, hys9⟩, Nat.le_refl _, rfl, rfl, fun _ _ _ => rfl⟩
      · intro i7 m7 nw7 hi7 hI7 t7 h7 tk7 it7 F7 N7
        obtain ⟨us7, n7, b7, bt7, ⟨ys7, hys7⟩, hul7, rfl, hb7, hm7⟩ := hI7
        rw [m2_of hm7, hb7] at F7
        have hu7 : us7.length ≤ 800 := by omega
        k_extra "mine steps"
        · unfold Stop
          (with_reducible rename Fr _ _ _ _ => F6)
          (with_reducible rename News _ _ _ _ => N6)
          rw [List.push_toArray] at N6
          exact UnrEnd.intro F6 N6 _ (fun _ h => List.mem_cons_of_mem _ h) (off_upd (pre := [_]) rI1) ⟨.head _, _, _, ⟨_, ints_app hys7 _ _⟩, by rw [List.length_append, List.length_singleton]; omega, rfl, fun y h1 h2 h3 => by simp only [M2, M3, h1, h2, h3, if_false]⟩
        · unfold Stop
          (with_reducible rename Fr _ _ _ _ => F6)
          (with_reducible rename News _ _ _ _ => N6)
          rw [List.push_toArray] at N6
          exact UnrEnd.intro F6 N6 _ (fun _ h => h) (off_upd (pre := [_, _]) rI2) ⟨_, _, _, _, ⟨_, ints_app hys7 _ _⟩, by rw [List.length_append, List.length_singleton]; omega, rfl, rfl, fun y h1 h2 => by simp only [M2, M3, h1, h2, if_false]⟩
      · intro m7 nw7 hI7 h7 tk7 F7 N7
        obtain ⟨us7, n7, b7, bt7, ⟨ys7, hys7⟩, hul7, rfl, hb7, hm7⟩ := hI7
        k_extra "mine steps"
        unfold Stop
        (with_reducible rename Fr _ _ _ _ => F6)
        (with_reducible rename News _ _ _ _ => N6)
        exact UnrEnd.intro F6 N6 _ (fun _ h => h) (off_upd (pre := [_]) rI1) ⟨.head _, _, _, ⟨_, hys7⟩, by omega, rfl, fun y h1 h2 h3 => (hm7 y h1 h2).trans (by simp only [M2, M3, h1, h2, h3, if_false])⟩)
  · intro m9 nw9 hI9 h9 tk9 F9 N9
    obtain ⟨us9, n9, ⟨ys9, hys9⟩, hul9, rfl, hm9⟩ := hI9
    rw [m3_of hm9] at F9
    have hwl : ws'.length ≤ 63 := by rw [hI'.length]; omega
    k_extra "mine steps"
    obtain ⟨ms2, hms2⟩ := slice_ints none (some 140) none hys9
    k_dflt (refine' kmk_slice_ints (s := Shared.mk _ _ _ _ _) ?za ?zb ?zc ?zd ?ze hys9 hms2 rfl ?_ ?zf ?zg ?zh)
    case za => k_asm
    case zb => k_asm
    case zc => exact News.isList (by k_asm) (by k_mem)
    case zd => exact IsPart.none
    case ze => exact IsPart.int _ _
    case zf => with_unfolding_all rfl
    case zg => kmk_pure
    case zh => rw [sizeLine_eq, List.size_toArray]; omega
    intro D2 ws2 h2 F2 N2 l2 hI2 hC2 hL2
    dsimp only
    have hw2 : ws2.length ≤ 800 := by rw [hI2.length]; have := hys9.length; omega
    have al2 : AllLt D2 news := allLt_of fun p hp => l2 p (.tail _ (.tail _ hp))
    k_lt l2
    k_extra "mine steps"
    obtain ⟨zs, hzs⟩ := ints_of_all (ws := ws2.reverse) fun v hv => ints_mem hI2 v (List.mem_reverse.mp hv)
    (with_reducible rename News h₀ L _ _ => N8)
    exact hret _ _ _ _ (by k_asm) (cb_drop N8 fun p hp => by
      rcases List.mem_cons.mp hp with rfl | hp
      · exact .head _
      · exact .tail _ (.tail _ (.tail _ hp))) ⟨D2, ws2.reverse, _, rfl, ⟨⟨zs, hzs⟩, by rw [List.length_reverse]; omega⟩, al2, rfl⟩
end
theorem lines10 : True := by
  k_with_none
  k_with "mine allLt" => (first | (first | assumption | exact And.right (by assumption) | exact And.right (And.right (by assumption)) | exact And.right (And.right (And.right (by assumption))) | exact And.right (And.right (And.right (And.right (by assumption)))) | exact And.right (And.right (And.right (And.right (And.right (by assumption))))) | exact And.right (And.right (And.right (And.right (And.right (And.right (by assumption)))))) | exact And.right (And.right (And.right (And.right (And.right (And.right (And.right (by assumption))))))) | exact And.right (And.right (And.right (And.right (And.right (And.right (And.right (And.right (by assumption))))))))) | fail)
  k_with "mine in" => (first | (first | assumption | (refine List.mem_append.mpr (Or.inl ?_); k_extra "mine in") | (refine List.mem_append.mpr (Or.inr ?_); k_extra "mine in") | (refine List.mem_cons_of_mem _ ?_; k_extra "mine in")) | fail)
  k_with "mine pull" => (first | (first | exact Pull.head | (refine' Pull.tail ?ptq3; (case ptq3 => k_extra "mine pull"))) | fail)
  k_with "own k_ne" => (first | ((refine neN ?_; (try dsimp only); first | with_reducible assumption | exact Ne.symm (by with_reducible assumption) | exact Nat.ne_of_lt (by with_reducible assumption) | exact Nat.ne_of_gt (by with_reducible assumption) | exact Nat.ne_of_lt (And.left (by with_reducible assumption)) | exact Nat.ne_of_gt (And.left (by with_reducible assumption)) | exact Nat.ne_of_lt (And.left (And.right (by with_reducible assumption))) | exact Nat.ne_of_gt (And.left (And.right (by with_reducible assumption))) | exact Nat.ne_of_lt (And.left (And.right (And.right (by with_reducible assumption)))) | exact Nat.ne_of_gt (And.left (And.right (And.right (by with_reducible assumption)))) | exact Nat.ne_of_lt (And.left (And.right (And.right (And.right (by with_reducible assumption))))) | exact Nat.ne_of_gt (And.left (And.right (And.right (And.right (by with_reducible assumption))))) | exact Nat.ne_of_lt (And.left (And.right (And.right (And.right (And.right (by with_reducible assumption)))))) | exact Nat.ne_of_gt (And.left (And.right (And.right (And.right (And.right (by with_reducible assumption)))))) | exact Nat.ne_of_lt (And.left (And.right (And.right (And.right (And.right (And.right (by with_reducible assumption))))))) | exact Nat.ne_of_gt (And.left (And.right (And.right (And.right (And.right (And.right (by with_reducible assumption))))))) | exact Nat.ne_of_lt (And.left (And.right (And.right (And.right (And.right (And.right (And.right (by with_reducible assumption)))))))) | exact Nat.ne_of_gt (And.left (And.right (And.right (And.right (And.right (And.right (And.right (by with_reducible assumption)))))))) | exact Nat.ne_of_lt (And.left (And.right (And.right (And.right (And.right (And.right (And.right (And.right (by with_reducible assumption))))))))) | exact Nat.ne_of_gt (And.left (And.right (And.right (And.right (And.right (And.right (And.right (And.right (by with_reducible assumption))))))))) | exact (And.left (by with_reducible assumption)) | exact Ne.symm (And.left (by with_reducible assumption)) | exact (And.left (And.right (by with_reducible assumption))) | exact Ne.symm (And.left (And.right (by with_reducible assumption))) | exact (And.right (by with_reducible assumption)) | exact Ne.symm (And.right (by with_reducible assumption)) | exact (And.right (And.right (by with_reducible assumption))) | exact Ne.symm (And.right (And.right (by with_reducible assumption))) | exact (And.left (And.right (And.right (by with_reducible assumption)))) | exact Ne.symm (And.left (And.right (And.right (by with_reducible assumption)))) | omega)) | fail)
  k_with "mine offs" => (first | (((try (have z1q5 := off9.1.1)); (try (have z2q5 := off9.1.2.1)); (try (have z3q5 := off9.1.2.2)); (try (have z4q5 := off9.2.1.1)); (try (have z5q5 := off9.2.1.2.1)); (try (have z6q5 := off9.2.1.2.2)); (try (have z7q5 := off9.2.2.1.1)); (try (have z8q5 := off9.2.2.1.2.1)); (try (have z9q5 := off9.2.2.1.2.2)); (try (have z10q5 := off9.2.2.2.1.1)); (try (have z11q5 := off9.2.2.2.1.2.1)); (try (have z12q5 := off9.2.2.2.1.2.2)); (try (have z13q5 := off9.2.2.2.2.1.1)); (try (have z14q5 := off9.2.2.2.2.1.2.1)); (try (have z15q5 := off9.2.2.2.2.1.2.2)); (try (have z16q5 := off9.2.2.2.2.2.1.1)); (try (have z17q5 := off9.2.2.2.2.2.1.2.1)); (try (have z18q5 := off9.2.2.2.2.2.1.2.2)))) | fail)
  k_with "own k_all" => (first | (first | with_reducible assumption | (refine' ne_of_restLt ?rraq6 ?rrbq6; (case rraq6 => with_reducible assumption); (case rrbq6 => omega)) | (refine' List.forall_mem_append.mpr ⟨?kpaq6, ?kpbq6⟩; (case kpaq6 => k_all); (case kpbq6 => k_all)) | (refine' tups_ne ?tnq6 ?ttq6 ?tsq6 ?tmq6 ?tcq6; (case ttq6 => assumption); (case tnq6 => k_asm); (case tsq6 => intro p9q6 h9q6; k_extra "mine in"); (case tmq6 => k_mem); (case tcq6 => dsimp only; decide))) | fail)
  k_with "call builtin:len" => (first | ((k_here; (with_reducible show wpAny _ _ (call (Value.builtin "len") [Value.ref _]) _ _ _); k_dflt (refine' kst_len ?k1q7 ?k2q7 ?k3q7 ?k4q7 ?_; (case k1q7 => k_asm); (case k2q7 => k_mem); (case k3q7 => exact rfl); (case k4q7 => first | exact len63a (by with_reducible assumption) | exact len63 (by with_reducible assumption) (by with_reducible assumption) | omega); k_whole))) | fail)
  k_with "ite" => (first | (first | with_reducible refine ite_tt ?_ | with_reducible refine ite_ff ?_) | fail)
  k_with "compareOp Eq str str" => (first | (first | (refine' eqs_ff ?eaq9 ?_; (case eaq9 => kernel_rfl!)) | (refine' eqs_tt ?eaq9 ?_; (case eaq9 => kernel_rfl!))) | fail)
  k_with "compareOp NotEq str str" => (first | (first | (refine' nes_ff ?eaq10 ?_; (case eaq10 => kernel_rfl!)) | (refine' nes_tt ?eaq10 ?_; (case eaq10 => kernel_rfl!))) | fail)
  k_with "mine enter" => (first | ((refine wpAny_call ?_; (first | k_dflt cell_enter | fail "mine enter: the def is not entered"))) | fail)
  k_with "mine enterC" => (first | ((refine wpAny_call ?_; k_dflt (refine' code_defC ?k1q12 ?k2q12 ?k3q12 ?k4q12 ?k5q12 ?kAq12 ?kFq12 ?kKq12 ?k6q12 ?k7q12 ?k8q12 ?k9q12 ?kBq12 ?kDq12 ?_ ?c2q12 ?c3q12 ?c4q12; (case kAq12 => exact rfl); (case kFq12 => exact rfl); (case kKq12 => first | exact rfl | assumption); (case k1q12 => k_asm); (case k2q12 => k_asm); (case k3q12 => k_asm); (case k4q12 => k_asm); (case k5q12 => k_asm); (case k6q12 => k_is); (case k7q12 => k_is); (case k8q12 => ktr_room); (case k9q12 => first | exact BindsTo.of_eq rfl | exact binds_K (by k_in) rfl (by k_is) rfl rfl rfl); (case kBq12 => exact rfl); (case kDq12 => decide +kernel); (case c2q12 => exact rfl); (case c3q12 => exact rfl); (case c4q12 => exact rfl); k_whole; intro g'q12 L'q12 h'q12 tk'q12 cells'q12 FG'q12 F'q12 N'q12 Y'q12 B'q12 X'q12 T'q12 l1q12; (try k_lt l1q12); k_cells Y'q12; (try simp only [List.cons_append, List.nil_append] at N'q12); (try dsimp only); (try k_lift B'q12); (try k_fold)))) | fail)
  k_with "mine step" => (first | (first | (k_unfold; (try dsimp only)) | (walk1; all_goals (try dsimp only)) | (leave1; walk_say "STEP leave1"; all_goals (try dsimp only))) | fail)
  k_with "mine steps" => (first | (repeat' (k_extra "mine step")) | fail)
  k_with "own k_room" => (first | (ktr_room) | fail)
  k_with "own ke_room" => (first | ((have hcL9q16 := cLine_is; (try simp only [units_in1, units_deeper, Around.mark_units]); (try dsimp only [ktrTop]); omega)) | fail)
  k_with "own k_mem" => (first | (((fail_if_success (with_reducible refine List.Mem.tail _ ?_)); with_reducible_and_instances assumption)) | fail)
  k_with "compareOp Eq int ref" => (first | ((k_here; k_dflt (refine' int_eq_tup ?raq18 ?rbq18 ?rcq18 ?_; (case raq18 => ked_read); (case rbq18 => ked_shaped); (case rcq18 => ke_room)))) | fail)
  k_with "compareOp Eq str ref" => (first | ((k_here; k_dflt (refine' str_eq_tup ?rxq19 ?raq19 ?rbq19 ?rcq19 ?_; (case rxq19 => first | with_reducible assumption | rfl | decide); (case raq19 => ked_read); (case rbq19 => ked_shaped); (case rcq19 => ke_room)))) | fail)
  k_with "exec If" => (first | (((with_reducible rename Halt => hH9q20); clear hH9q20; refine stop_of ?_)) | fail)
  k_with "mine nut" => (first | ((k_dflt (refine' ct_useK ?k1q21 ?k2q21 ?k3q21 ?k4q21 ?k5q21 ?kKq21 (nut_ct _ ?hiq21 ?hrq21 ?haq21 ?hbq21) nut_cps ?kdq21 ?kuq21 ?_; (case k4q21 => refine' pull_news ?knq21 ?kpq21; (case knq21 => k_asm); (case kpq21 => k_extra "mine pull")); (case hiq21 => k_asm); (case hrq21 => k_all); (case k1q21 => k_asm); (case k2q21 => k_asm); (case k3q21 => k_asm); (case k5q21 => k_asm); (case kKq21 => first | exact rfl | assumption); (case haq21 => decide); (case hbq21 => decide); (case kdq21 => ktr_room); (case kuq21 => ktr_units)); (intro i'q21 t'q21 us'q21 n'q21 hi0q21 hikq21 husq21 h'q21 tk'q21 F'q21 N'q21; (try dsimp only); (try k_sweep)))) | fail)
  k_with "call ref" => (first | ((k_here; (with_reducible show wpAny _ _ (call (Value.ref 207) [Value.ref _, Value.int _ _]) _ _ _); k_extra "mine nut")) | fail)
  trivial

/-- an entry of a vector of the kind -/
def EntAt (tl : List (Addr × Obj)) (kind : String) (v : Value) : Prop :=
  v = .none ∨ (kind = "double" ∧ ∃ a x y t u n, v = .ref a ∧ (a, ({ cls := .type "tuple", data := .seq #[.int x t, .int y u] n } : Obj)) ∈ tl) ∨
  ((kind = "logical" ∨ kind = "integer") ∧ ∃ i t, v = .int i t) ∨ (kind = "character" ∧ ∃ x t, v = .str x t ∧ SeqAt.shaped (.str x) = true)

def EntCt (w : World) (kind : String) : Prop := ∀ {l : Addr} {us : List Value} {n : Nat} {t : Tok} {rest : List (Addr × Obj)} (_ : NutsL us) (_ : ∀ p ∈ rest, p.1 ≠ l),
    Ct w 214 [.ref l, .str (Str.ofString kind) t] 2 ((l, listOf us.toArray n) :: rest) (fun r nw => ∃ us' n' tl, Tups tl ∧ Above tl ((l, listOf us.toArray n) :: rest) ∧ EntAt tl kind r ∧ NutsL us' ∧ nw = (l, listOf us'.toArray n') :: (rest ++ tl))

theorem fd3 {i : Int} (h0 : 0 ≤ i) (h1 : i < 10) : i.fdiv 4 = 0 ∨ i.fdiv 4 = 1 ∨ i.fdiv 4 = 2 := by
  have := Int.fdiv_eq_ediv_of_nonneg i (show (0 : Int) ≤ 4 by decide)
  omega

theorem shaped_text {i : Int} (h0 : 0 ≤ i) (h1 : i < 10) : SeqAt.shaped (.str (Txt.slice (Str.ofString "text") none (some (i.fmod 5)))) = true := by
  have h : i = 0 ∨ i = 1 ∨ i = 2 ∨ i = 3 ∨ i = 4 ∨ i = 5 ∨ i = 6 ∨ i = 7 ∨ i = 8 ∨ i = 9 := by omega
  rcases h with rfl | rfl | rfl | rfl | rfl | rfl | rfl | rfl | rfl | rfl <;> decide +kernel

theorem ent_k {P : Prop} {h₀ h : Heap} {L : Addr} {kind : String} {v : Value} {p : Addr × Obj} {rest nw old : List (Addr × Obj)} (N : News h₀ L h nw) (hs : ∀ q ∈ p :: rest, q ∈ nw)
    (k : ∀ tl, News h₀ L h (p :: (rest ++ tl)) → Tups tl → Above tl old → (EntAt tl kind v → P)) (he : ∀ tl, EntAt tl kind v) : P :=
  k [] (by rw [List.append_nil]; exact cb_drop N hs) (fun _ h => nomatch h) (fun _ h => nomatch h) (he _)

theorem ent_t {P : Prop} {h₀ h : Heap} {L l a : Addr} {x y : Int} {t u : Tok} {n : Nat} {p : Addr × Obj} {o : Obj} {rest nw : List (Addr × Obj)} (N : News h₀ L h nw) (hs : ∀ q ∈ p :: rest, q ∈ nw) (hl : @LT.lt Nat _ l a) (hr : AllLt a rest)
    (hm : (a, ({ cls := .type "tuple", data := .seq #[.int x t, .int y u] n } : Obj)) ∈ nw) (k : ∀ tl, News h₀ L h (p :: (rest ++ tl)) → Tups tl → Above tl ((l, o) :: rest) → EntAt tl "double" (.ref a) → P) : P :=
  k [(a, _)] (cb_drop N (fun q hq => by
      rcases List.mem_cons.mp hq with rfl | hq
      · exact hs _ (.head _)
      · rcases List.mem_append.mp hq with hq | hq
        · exact hs _ (.tail _ hq)
        · rw [List.mem_singleton.mp hq]; exact hm)) (fun p h => by rw [List.mem_singleton.mp h]) (fun p h q hq => by
      rw [List.mem_singleton.mp h]
      rcases List.mem_cons.mp hq with rfl | hq
      · exact hl
      · exact ktn_ltOf hr q hq) (.inr (.inl ⟨rfl, a, x, y, t, u, n, rfl, .head _⟩))

theorem lines11 : True := by
  k_with "mine sub" => (first | (first | exact fun _ h => h | exact fun _ h => List.mem_cons_of_mem _ h | exact fun _ h => List.mem_cons_of_mem _ (List.mem_cons_of_mem _ h) | exact fun _ h => List.mem_cons_of_mem _ (List.mem_cons_of_mem _ (List.mem_cons_of_mem _ h)) | exact fun _ h => List.mem_cons_of_mem _ (List.mem_cons_of_mem _ (List.mem_cons_of_mem _ (List.mem_cons_of_mem _ h)))) | fail)
  trivial


set_option maxHeartbeats 16000000 in
theorem entry_logical (w : World) : EntCt w "logical" := by
  unfold EntCt Ct
  k_fill
  intro l us n t rest hi hr loose mean mg mb dp un gd cn cs a ccd cl outer A₀ base h₀ L m s Q E B F X N T hkd hd hu hret
  k_extra "mine enter"
  k_extra "mine steps"
  · (with_reducible rename News h₀ L _ _ => N9)
    refine' ent_k (kind := "logical") N9 (fun _ h => h) ?k ?he
    case k => intro tl hN hT hA hE; exact hret _ _ _ _ (by k_asm) hN ⟨_, _, tl, hT, hA, hE, by k_asm, rfl⟩
    case he => exact fun _ => .inl rfl
  · (with_reducible rename News h₀ L _ _ => N9)
    refine' ent_k (kind := "logical") N9 (fun _ h => List.mem_cons_of_mem _ h) ?k ?he
    case k => intro tl hN hT hA hE; exact hret _ _ _ _ (by k_asm) hN ⟨_, _, tl, hT, hA, hE, by k_asm, rfl⟩
    case he => exact fun _ => .inr (.inr (.inl ⟨.inl rfl, _, _, rfl⟩))

set_option maxHeartbeats 16000000 in
theorem entry_integer (w : World) : EntCt w "integer" := by
  unfold EntCt Ct
  k_fill
  intro l us n t rest hi hr loose mean mg mb dp un gd cn cs a ccd cl outer A₀ base h₀ L m s Q E B F X N T hkd hd hu hret
  k_extra "mine enter"
  k_extra "mine steps"
  · (with_reducible rename News h₀ L _ _ => N9)
    refine' ent_k (kind := "integer") N9 (fun _ h => h) ?k ?he
    case k => intro tl hN hT hA hE; exact hret _ _ _ _ (by k_asm) hN ⟨_, _, tl, hT, hA, hE, by k_asm, rfl⟩
    case he => exact fun _ => .inl rfl
  · (with_reducible rename News h₀ L _ _ => N9)
    refine' ent_k (kind := "integer") N9 (fun _ h => List.mem_cons_of_mem _ h) ?k ?he
    case k => intro tl hN hT hA hE; exact hret _ _ _ _ (by k_asm) hN ⟨_, _, tl, hT, hA, hE, by k_asm, rfl⟩
    case he => exact fun _ => .inr (.inr (.inl ⟨.inr rfl, _, _, rfl⟩))

set_option maxHeartbeats 16000000 in
theorem entry_character (w : World) : EntCt w "character" := by
  unfold EntCt Ct
  k_fill
  intro l us n t rest hi hr loose mean mg mb dp un gd cn cs a ccd cl outer A₀ base h₀ L m s Q E B F X N T hkd hd hu hret
  k_extra "mine enter"
  k_extra "mine steps"
  · (with_reducible rename News h₀ L _ _ => N9)
    refine' ent_k (kind := "character") N9 (fun _ h => h) ?k ?he
    case k => intro tl hN hT hA hE; exact hret _ _ _ _ (by k_asm) hN ⟨_, _, tl, hT, hA, hE, by k_asm, rfl⟩
    case he => exact fun _ => .inl rfl
  · (with_reducible rename News h₀ L _ _ => N9)
    refine' ent_k (kind := "character") N9 (fun _ h => List.mem_cons_of_mem _ h) ?k ?he
    case k => intro tl hN hT hA hE; exact hret _ _ _ _ (by k_asm) hN ⟨_, _, tl, hT, hA, hE, by k_asm, rfl⟩
    case he => exact fun _ => .inr (.inr (.inr ⟨rfl, _, _, rfl, by (with_reducible rename _ < (10 : Int) => hb9); (with_reducible rename (0 : Int) ≤ _ => ha9); exact shaped_text ha9 hb9⟩))

set_option maxHeartbeats 16000000 in
theorem entry_double (w : World) : EntCt w "double" := by
  unfold EntCt Ct
  k_fill
  intro l us n t rest hi hr loose mean mg mb dp un gd cn cs a ccd cl outer A₀ base h₀ L m s Q E B F X N T hkd hd hu hret
  k_extra "mine enter"
  k_extra "mine steps"
  · (with_reducible rename News h₀ L _ _ => N9)
    refine' ent_k (kind := "double") N9 (fun _ h => h) ?k ?he
    case k => intro tl hN hT hA hE; exact hret _ _ _ _ (by k_asm) hN ⟨_, _, tl, hT, hA, hE, by k_asm, rfl⟩
    case he => exact fun _ => .inl rfl
  · (with_reducible rename _ < (10 : Int) => hb9)
    (with_reducible rename (0 : Int) ≤ _ => ha9)
    have e9 := fd3 ha9 hb9
    rcases e9 with e9 | e9 | e9
    · rw [e9]
      k_extra "mine steps"
      (with_reducible rename News h₀ L _ _ => N9)
      refine' ent_t N9 (fun _ h => List.mem_cons_of_mem _ (List.mem_cons_of_mem _ (List.mem_cons_of_mem _ (List.mem_cons_of_mem _ h)))) (by omega) (by k_extra "mine allLt") ?em1 (fun tl hN hT hA hE => hret _ _ _ _ (by k_asm) hN ⟨_, _, tl, hT, hA, hE, by k_asm, rfl⟩)
      case em1 => k_mem
    · rw [e9]
      k_extra "mine steps"
      (with_reducible rename News h₀ L _ _ => N9)
      refine' ent_t N9 (fun _ h => List.mem_cons_of_mem _ (List.mem_cons_of_mem _ (List.mem_cons_of_mem _ (List.mem_cons_of_mem _ h)))) (by omega) (by k_extra "mine allLt") ?em2 (fun tl hN hT hA hE => hret _ _ _ _ (by k_asm) hN ⟨_, _, tl, hT, hA, hE, by k_asm, rfl⟩)
      case em2 => k_mem
    · rw [e9]
      k_extra "mine steps"
      (with_reducible rename News h₀ L _ _ => N9)
      refine' ent_t N9 (fun _ h => List.mem_cons_of_mem _ (List.mem_cons_of_mem _ (List.mem_cons_of_mem _ (List.mem_cons_of_mem _ h)))) (by omega) (by k_extra "mine allLt") ?em3 (fun tl hN hT hA hE => hret _ _ _ _ (by k_asm) hN ⟨_, _, tl, hT, hA, hE, by k_asm, rfl⟩)
      case em3 => k_mem

theorem ent_cps {l : Addr} {us : List Value} {n : Nat} {kind : String} {rest : List (Addr × Obj)} : ∀ R : Value → List (Addr × Obj) → Prop, (∀ (r : Value) (us' : List Value) (n' : Nat) (tl : List (Addr × Obj)), Tups tl → Above tl ((l, listOf us.toArray n) :: rest) → EntAt tl kind r → NutsL us' → R r ((l, listOf us'.toArray n') :: (rest ++ tl))) →
    ∀ r nw, (∃ us' n' tl, Tups tl ∧ Above tl ((l, listOf us.toArray n) :: rest) ∧ EntAt tl kind r ∧ NutsL us' ∧ nw = (l, listOf us'.toArray n') :: (rest ++ tl)) → R r nw := by
  rintro R k r nw ⟨us, n, tl, h1, h2, h3, h4, rfl⟩; exact k r us n tl h1 h2 h3 h4
theorem lines12 : True := by
  k_with "call ref" => (first | ((k_here; (with_reducible show wpAny _ _ (call (Value.ref 214) [Value.ref _, Value.str (Str.ofString "logical") _]) _ _ _); k_dflt (refine' ct_useK ?k1q30 ?k2q30 ?k3q30 ?k4q30 ?k5q30 ?kKq30 (entry_logical _ ?hiq30 ?hrq30) ent_cps ?kdq30 ?kuq30 ?_; (case k4q30 => refine' pull_news ?knq30 ?kpq30; (case knq30 => k_asm); (case kpq30 => k_extra "mine pull")); (case hiq30 => k_asm); (case hrq30 => k_all); (case k1q30 => k_asm); (case k2q30 => k_asm); (case k3q30 => k_asm); (case k5q30 => k_asm); (case kKq30 => first | exact rfl | assumption); (case kdq30 => ktr_room); (case kuq30 => ktr_units)); (intro r9q30 us'q30 n'q30 tl'q30 hT'q30 hA'q30 hE'q30 husq30 h'q30 tk'q30 F'q30 N'q30; (try simp only [List.cons_append, List.append_assoc] at N'q30); (try dsimp only); (try k_sweep)))) | fail)
  k_with "call ref" => (first | ((k_here; (with_reducible show wpAny _ _ (call (Value.ref 214) [Value.ref _, Value.str (Str.ofString "integer") _]) _ _ _); k_dflt (refine' ct_useK ?k1q31 ?k2q31 ?k3q31 ?k4q31 ?k5q31 ?kKq31 (entry_integer _ ?hiq31 ?hrq31) ent_cps ?kdq31 ?kuq31 ?_; (case k4q31 => refine' pull_news ?knq31 ?kpq31; (case knq31 => k_asm); (case kpq31 => k_extra "mine pull")); (case hiq31 => k_asm); (case hrq31 => k_all); (case k1q31 => k_asm); (case k2q31 => k_asm); (case k3q31 => k_asm); (case k5q31 => k_asm); (case kKq31 => first | exact rfl | assumption); (case kdq31 => ktr_room); (case kuq31 => ktr_units)); (intro r9q31 us'q31 n'q31 tl'q31 hT'q31 hA'q31 hE'q31 husq31 h'q31 tk'q31 F'q31 N'q31; (try simp only [List.cons_append, List.append_assoc] at N'q31); (try dsimp only); (try k_sweep)))) | fail)
  k_with "call ref" => (first | ((k_here; (with_reducible show wpAny _ _ (call (Value.ref 214) [Value.ref _, Value.str (Str.ofString "character") _]) _ _ _); k_dflt (refine' ct_useK ?k1q32 ?k2q32 ?k3q32 ?k4q32 ?k5q32 ?kKq32 (entry_character _ ?hiq32 ?hrq32) ent_cps ?kdq32 ?kuq32 ?_; (case k4q32 => refine' pull_news ?knq32 ?kpq32; (case knq32 => k_asm); (case kpq32 => k_extra "mine pull")); (case hiq32 => k_asm); (case hrq32 => k_all); (case k1q32 => k_asm); (case k2q32 => k_asm); (case k3q32 => k_asm); (case k5q32 => k_asm); (case kKq32 => first | exact rfl | assumption); (case kdq32 => ktr_room); (case kuq32 => ktr_units)); (intro r9q32 us'q32 n'q32 tl'q32 hT'q32 hA'q32 hE'q32 husq32 h'q32 tk'q32 F'q32 N'q32; (try simp only [List.cons_append, List.append_assoc] at N'q32); (try dsimp only); (try k_sweep)))) | fail)
  k_with "call ref" => (first | ((k_here; (with_reducible show wpAny _ _ (call (Value.ref 214) [Value.ref _, Value.str (Str.ofString "double") _]) _ _ _); k_dflt (refine' ct_useK ?k1q33 ?k2q33 ?k3q33 ?k4q33 ?k5q33 ?kKq33 (entry_double _ ?hiq33 ?hrq33) ent_cps ?kdq33 ?kuq33 ?_; (case k4q33 => refine' pull_news ?knq33 ?kpq33; (case knq33 => k_asm); (case kpq33 => k_extra "mine pull")); (case hiq33 => k_asm); (case hrq33 => k_all); (case k1q33 => k_asm); (case k2q33 => k_asm); (case k3q33 => k_asm); (case k5q33 => k_asm); (case kKq33 => first | exact rfl | assumption); (case kdq33 => ktr_room); (case kuq33 => ktr_units)); (intro r9q33 us'q33 n'q33 tl'q33 hT'q33 hA'q33 hE'q33 husq33 h'q33 tk'q33 F'q33 N'q33; (try simp only [List.cons_append, List.append_assoc] at N'q33); (try dsimp only); (try k_sweep)))) | fail)
  trivial


def KindOk (kind : String) : Prop := kind = "logical" ∨ kind = "integer" ∨ kind = "double" ∨ kind = "character"

theorem lines13 : True := by
  k_with "call ref" => (first | ((k_here; (with_reducible show wpAny _ _ (call (Value.ref 214) [Value.ref _, Value.str (Str.ofString _) _]) _ _ _); (with_reducible rename EntCt _ _ => hE9q34); k_dflt (refine' ct_useK ?k1q34 ?k2q34 ?k3q34 ?k4q34 ?k5q34 ?kKq34 (hE9q34 ?hiq34 ?hrq34) ent_cps ?kdq34 ?kuq34 ?_; (case k4q34 => refine' pull_news ?knq34 ?kpq34; (case knq34 => k_asm); (case kpq34 => k_extra "mine pull")); (case hiq34 => k_asm); (case hrq34 => k_all); (case k1q34 => k_asm); (case k2q34 => k_asm); (case k3q34 => k_asm); (case k5q34 => k_asm); (case kKq34 => first | exact rfl | assumption); (case kdq34 => ktr_room); (case kuq34 => ktr_units)); (intro r9q34 us'q34 n'q34 tl'q34 hT'q34 hA'q34 hE'q34 husq34 h'q34 tk'q34 F'q34 N'q34; (try simp only [List.cons_append, List.append_assoc] at N'q34); (try dsimp only); (try k_sweep)))) | fail)
  trivial

theorem kind_at (w : World) {i : Int} (h0 : 0 ≤ i) (h1 : i < 4) (a b c d : Tok) : ∃ kind tok, [Value.str (Str.ofString "logical") a, .str (Str.ofString "integer") b, .str (Str.ofString "double") c, .str (Str.ofString "character") d][i.toNat]? = some (.str (Str.ofString kind) tok) ∧ EntCt w kind ∧ KindOk kind := by
  have h : i = 0 ∨ i = 1 ∨ i = 2 ∨ i = 3 := by omega
  rcases h with rfl | rfl | rfl | rfl
  · exact ⟨_, _, rfl, entry_logical w, .inl rfl⟩
  · exact ⟨_, _, rfl, entry_integer w, .inr (.inl rfl)⟩
  · exact ⟨_, _, rfl, entry_double w, .inr (.inr (.inl rfl))⟩
  · exact ⟨_, _, rfl, entry_character w, .inr (.inr (.inr rfl))⟩

theorem ent_mono {tl tl' : List (Addr × Obj)} {kind : String} {v : Value} (h : EntAt tl kind v) (hs : ∀ p ∈ tl, p ∈ tl') : EntAt tl' kind v := by
  rcases h with h | ⟨hk, a, x, y, t, u, n, e, hm⟩ | h | h
  · exact .inl h
  · exact .inr (.inl ⟨hk, a, x, y, t, u, n, e, hs _ hm⟩)
  · exact .inr (.inr (.inl h))
  · exact .inr (.inr (.inr h))

/-- what holds as a row's items are drawn -/
def RowInv (l : Addr) (kind : String) (R : List (Addr × Obj)) (i : Nat) (ys : List Value) (nw : List (Addr × Obj)) : Prop :=
  ∃ us n tl, NutsL us ∧ Tups tl ∧ Above tl R ∧ (∀ v ∈ ys, EntAt tl kind v) ∧ ys.length = i ∧ nw = (l, listOf us.toArray n) :: (R ++ tl)

theorem row_end {h₀ h h' : Heap} {L I C D l : Addr} {m : Str → Option Value} {s : Shared} {tk tk' : Nat} {oI oC o : Obj} {ys us' : List Value} {n' i : Nat} {R tl tl' all : List (Addr × Obj)} {kind : String} {r : Value}
    (F : Fr h₀ L h' m) (N : News h₀ L h' all) (e : all = (l, listOf us'.toArray n') :: (I, oI) :: (C, oC) :: (D, LCg.lst ys) :: (R ++ (tl ++ tl'))) (off : LCg.Off3 I C D ((l, o) :: (R ++ tl)))
    (hA' : Above tl' ((l, o) :: (I, oI) :: (C, oC) :: (D, LCg.lst ys) :: (R ++ tl))) (hus : NutsL us') (hT : Tups tl) (hT' : Tups tl') (hA : Above tl R) (hE : ∀ v ∈ ys, EntAt tl kind v) (hl : ys.length = i) (hE' : EntAt tl' kind r) :
    LCg.CompEnd h₀ L m { s with heap := h, toks := tk } I oI C oC D (LCg.lst ys) (fun _ => True) (fun y nw => RowInv l kind R (i + 1) (ys ++ [y]) nw) r { s with heap := h', toks := tk' } := by
  subst e
  refine LCg.CompEnd.intro (s₁ := { s with heap := h, toks := tk }) F N ((l, listOf us'.toArray n') :: (R ++ (tl ++ tl'))) ?_ ?_ trivial ⟨us', n', tl ++ tl', hus, ?_, ?_, ?_, ?_, rfl⟩
  · intro p hp
    simp only [List.mem_cons] at hp ⊢
    rcases hp with h | h | h | h | h
    · exact .inr (.inl h)
    · exact .inr (.inr (.inl h))
    · exact .inr (.inr (.inr (.inl h)))
    · exact .inl h
    · exact .inr (.inr (.inr (.inr h)))
  · have om := off.mem
    refine LCg.Off3.of fun p hp => ?_
    rcases List.mem_cons.mp hp with rfl | hp
    · exact om (l, o) (.head _)
    · rcases List.mem_append.mp hp with hp | hp
      · exact om p (.tail _ (List.mem_append.mpr (.inl hp)))
      · rcases List.mem_append.mp hp with hp | hp
        · exact om p (.tail _ (List.mem_append.mpr (.inr hp)))
        · have ha := hA' p hp
          exact ⟨Nat.ne_of_gt (ha (I, oI) (.tail _ (.head _))), Nat.ne_of_gt (ha (C, oC) (.tail _ (.tail _ (.head _)))), Nat.ne_of_gt (ha (D, _) (.tail _ (.tail _ (.tail _ (.head _)))))⟩
  · intro p hp
    rcases List.mem_append.mp hp with hp | hp
    · exact hT p hp
    · exact hT' p hp
  · intro p hp q hq
    rcases List.mem_append.mp hp with hp | hp
    · exact hA p hp q hq
    · exact hA' p hp q (.tail _ (.tail _ (.tail _ (.tail _ (List.mem_append.mpr (.inl hq))))))
  · intro v hv
    rcases List.mem_append.mp hv with hv | hv
    · exact ent_mono (hE v hv) fun p hp => List.mem_append.mpr (.inl hp)
    · rw [List.mem_singleton.mp hv]
      exact ent_mono hE' fun p hp => List.mem_append.mpr (.inr hp)
  · rw [List.length_append, hl]; rfl

/-- what a row's call leaves -/
def RowPost (P : Params) (l : Addr) (rest : List (Addr × Obj)) (r : Value) (nw : List (Addr × Obj)) : Prop :=
  ∃ (kind : String) (vs us : List Value) (n : Nat) (tl : List (Addr × Obj)) (x d i : Addr) (t0 t1 t2 t3 t4 tk : Tok),
    r = .ref x ∧ KindOk kind ∧ vs.length ≤ 5 ∧ Tups tl ∧ (∀ v ∈ vs, EntAt tl kind v) ∧ NutsL us ∧ (@Ne Nat l i) ∧ (∀ p ∈ rest ++ tl, p.1 ≠ i) ∧ (@LT.lt Nat _ i d) ∧ (@LT.lt Nat _ l d) ∧ AllLt d (rest ++ tl) ∧ (@LT.lt Nat _ d x) ∧ Above tl rest ∧
    nw = (x, instObj 106 d) :: (d, dictOf [⟨PyData.keyHash P "kind", .str "kind" t0, .str (Str.ofString kind) tk⟩, ⟨PyData.keyHash P "items", .str "items" t1, .ref i⟩, ⟨PyData.keyHash P "attrs", .str "attrs" t2, .none⟩, ⟨PyData.keyHash P "shared", .str "shared" t3, .bool false⟩, ⟨PyData.keyHash P "loose", .str "loose" t4, .bool false⟩] 5) ::
      (i, listOf vs.toArray vs.length) :: (l, listOf us.toArray n) :: (rest ++ tl)
theorem row_post {P : Params} {l : Addr} {rest : List (Addr × Obj)} {kind : String} {vs us : List Value} {n : Nat} {tl : List (Addr × Obj)} {x d i : Addr} {t0 t1 t2 t3 t4 tk : Tok} (a1 : KindOk kind) (a2 : vs.length ≤ 5) (a3 : Tups tl) (a4 : ∀ v ∈ vs, EntAt tl kind v) (a5 : NutsL us) (a6 : @Ne Nat l i) (a7 : ∀ p ∈ rest ++ tl, p.1 ≠ i) (a8 : @LT.lt Nat _ i d) (a9 : @LT.lt Nat _ l d) (a10 : AllLt d (rest ++ tl)) (a11 : @LT.lt Nat _ d x) (a12 : Above tl rest) :
    RowPost P l rest (.ref x) ((x, instObj 106 d) :: (d, dictOf [⟨PyData.keyHash P "kind", .str "kind" t0, .str (Str.ofString kind) tk⟩, ⟨PyData.keyHash P "items", .str "items" t1, (.ref i)⟩, ⟨PyData.keyHash P "attrs", .str "attrs" t2, .none⟩, ⟨PyData.keyHash P "shared", .str "shared" t3, .bool false⟩, ⟨PyData.keyHash P "loose", .str "loose" t4, .bool false⟩] 5) :: (i, listOf vs.toArray vs.length) :: (l, listOf us.toArray n) :: (rest ++ tl)) :=
  ⟨kind, vs, us, n, tl, x, d, i, t0, t1, t2, t3, t4, tk, rfl, a1, a2, a3, a4, a5, a6, a7, a8, a9, a10, a11, a12, rfl⟩

theorem sub4 {a b c d x y z : Addr × Obj} {r : List (Addr × Obj)} : ∀ p ∈ a :: b :: c :: d :: r, p ∈ a :: b :: c :: d :: x :: y :: z :: r := by
  intro p hp
  simp only [List.mem_cons] at hp ⊢
  rcases hp with h | h | h | h | h
  · exact .inl h
  · exact .inr (.inl h)
  · exact .inr (.inr (.inl h))
  · exact .inr (.inr (.inr (.inl h)))
  · exact .inr (.inr (.inr (.inr (.inr (.inr (.inr h))))))
theorem off1_mem {D : Addr} : ∀ {l : List (Addr × Obj)}, LCg.Off1 D l → ∀ p ∈ l, p.1 ≠ D
  | [], _, _, h => nomatch h
  | _ :: _, x, p, h => by
    rcases List.mem_cons.mp h with rfl | h
    · exact x.1
    · exact off1_mem x.2 p h
theorem allLt_of_mem {d : Addr} {l l' : List (Addr × Obj)} (h : AllLt d l) (hs : ∀ p ∈ l', p ∈ l) : AllLt d l' := allLt_of fun p hp => ktn_ltOf h p (hs p hp)

/-- the kind and the count are at hand -/
inductive StC (w : World) (h₀ : Heap) (L : Nat) (l : Addr) (rest : List (Addr × Obj)) (s s' : Shared) : Prop
  | intro (kind : String) (tok : Tok) (us : List Value) (n : Nat) (k : Int) (kt : Tok) (o o2 : Obj) (h : Heap) (tk : Nat) (m₁ : Str → Option Value) (e : s' = { s with heap := h, toks := tk }) (F : Fr h₀ L h (fun y => if y = "count" then some (.int k kt) else m₁ y))
    (N : News h₀ L h ((l, listOf us.toArray n) :: (L + 1 + 1, o) :: (L + 1, o2) :: rest)) (hus : NutsL us) (ho : o.data = .cell (some (.str (Str.ofString kind) tok))) (h2 : o2.data = .cell (some (.ref l))) (hE : EntCt w kind) (hK : KindOk kind) (h0 : 0 ≤ k) (h5 : k ≤ 5) : StC w h₀ L l rest s s'
theorem stc_intro {w : World} {h₀ h : Heap} {L : Nat} {l : Addr} {rest : List (Addr × Obj)} {s : Shared} {tk : Nat} {kind : String} {tok : Tok} {us : List Value} {n : Nat} {k : Int} {kt : Tok} {o o2 : Obj} {p : Addr × Obj} {m₁ : Str → Option Value} (F : Fr h₀ L h (fun y => if y = "count" then some (.int k kt) else m₁ y))
    (N : News h₀ L h ((l, listOf us.toArray n) :: p :: (L + 1 + 1, o) :: (L + 1, o2) :: rest)) (hus : NutsL us) (ho : o.data = .cell (some (.str (Str.ofString kind) tok))) (h2 : o2.data = .cell (some (.ref l))) (hE : EntCt w kind) (hK : KindOk kind) (h0 : 0 ≤ k) (h5 : k ≤ 5) : StC w h₀ L l rest s { s with heap := h, toks := tk } :=
  .intro kind tok us n k kt o o2 h tk m₁ rfl F (cb_drop N fun q hq => by
    simp only [List.mem_cons] at hq ⊢
    rcases hq with h | h | h | h
    · exact .inl h
    · exact .inr (.inr (.inl h))
    · exact .inr (.inr (.inr (.inl h)))
    · exact .inr (.inr (.inr (.inr h)))) hus ho h2 hE hK h0 h5
theorem split_c {prog : Program} {w : World} {A : Around} {env : Env} {Q : Flow → Shared → Prop} {E : Value → Shared → Prop} {s : Shared} {h₀ : Heap} {s0 s1 : Stmt} {more : List Stmt} {L : Nat} {mm : Str → Option Value} (l : Addr) (rest : List (Addr × Obj)) (_ : Fr h₀ L s.heap mm)
    (h1 : wpAny (model prog w) A (execs [s0, s1] env) (fun fl s' => fl = .next ∧ StC w h₀ L l rest s s') E s)
    (k : ∀ (kind : String) (tok : Tok) (us : List Value) (n : Nat) (k : Int) (kt : Tok) (o o2 : Obj) (h : Heap) (tk : Nat) (m₁ : Str → Option Value), Fr h₀ L h (fun y => if y = "count" then some (.int k kt) else m₁ y) → News h₀ L h ((l, listOf us.toArray n) :: (L + 1 + 1, o) :: (L + 1, o2) :: rest) → NutsL us → o.data = .cell (some (.str (Str.ofString kind) tok)) → o2.data = .cell (some (.ref l)) → EntCt w kind → KindOk kind → 0 ≤ k → k ≤ 5 →
      wpAny (model prog w) A (execs more env) Q E { s with heap := h, toks := tk }) : wpAny (model prog w) A (execs (s0 :: s1 :: more) env) Q E s :=
  split2 _ h1 fun s' h9 => by cases h9 with | intro kind tok us n k' kt o o2 h tk m₁ e a1 a2 a3 a4 a5 a6 a7 a8 a9 => subst e; exact k kind tok us n k' kt o o2 h tk m₁ a1 a2 a3 a4 a5 a6 a7 a8 a9
theorem sub4b {a b c d y z : Addr × Obj} {r : List (Addr × Obj)} : ∀ p ∈ a :: b :: c :: d :: r, p ∈ a :: b :: c :: d :: y :: z :: r := by
  intro p hp
  simp only [List.mem_cons] at hp ⊢
  rcases hp with h | h | h | h | h
  · exact .inl h
  · exact .inr (.inl h)
  · exact .inr (.inr (.inl h))
  · exact .inr (.inr (.inr (.inl h)))
  · exact .inr (.inr (.inr (.inr (.inr (.inr h)))))

section
theorem lines14 : True := by
  k_with "eval ListComp" => (first | (refine stop_of ?_) | fail)
  k_with "CompSrc" => (first | (refine stop_of ?_) | fail)
  k_with "CompEnd" => (first | (refine stop_of ?_) | fail)
  trivial


set_option maxHeartbeats 16000000 in
theorem row_ct (w : World) {l : Addr} {us : List Value} {n : Nat} {z : Int} {t : Tok} {rest : List (Addr × Obj)} (hi : NutsL us) (hr : ∀ p ∈ rest, p.1 ≠ l) (hz : z = -1 ∨ (0 ≤ z ∧ z < 4)) :
    Ct w 219 [.ref l, .int z t] 5 ((l, listOf us.toArray n) :: rest) (RowPost w.params l rest) := by
  unfold Ct
  k_fill
  intro loose mean mg mb dp un gd cn cs a ccd cl outer A₀ base h₀ L m s Q E B F X N T hkd hd hu hret
  k_extra "mine enterC"
  have hR : RestLt _ rest := ⟨by k_extra "mine allLt"⟩
  (with_reducible rename Fr _ _ _ _ => F0)
  refine split_c l rest F0 ?_ ?_
  · k_extra "mine steps"
    (with_reducible rename _ < (4 : Int) => hb9)
    (with_reducible rename (0 : Int) ≤ _ => ha9)
    (with_reducible rename News _ _ _ _ => N9)
    obtain ⟨kind, tok, hk1, hk2, hk3⟩ := kind_at w ha9 hb9 _ _ _ _
    refine item_litK (News.isList N9 (by k_mem)) ha9 (by omega) hk1 ?_
    clear hk1
    k_extra "mine steps"
    all_goals (
      (with_reducible rename Fr _ _ _ _ => F8)
      (with_reducible rename News _ _ _ _ => N8)
      exact stc_intro F8 N8 (by assumption) (by assumption) (by assumption) hk2 hk3 (by omega) (by omega))
  · clear F0
    intro kind tok us8 n8 k8 kt8 o8 o28 h8 tk8 m₁ F8 N8 hus8 ho8 ho28 hk2 hk3 hk80 hk85
    k_extra "mine steps"
    unfold Stop
    (with_reducible rename Fr _ _ _ _ => F9)
    k_dflt (refine LCg.ListComp_U (F₀ := F9) (by rfl) (by decide) (by rfl) (by decide) (by rfl) ?_)
    k_extra "mine steps"
    unfold Stop
    (with_reducible rename Fr _ _ _ _ => F9)
    (with_reducible rename News _ _ _ _ => N9)
    (with_reducible rename IsRange _ _ _ _ _ _ _ _ => R9)
    refine LCg.CompSrc.range (by rfl) F9 N9 R9 (small_one (by decide) (by decide) (by omega) (by omega)) (rangeSize_nat _ _) (by rw [sizeLine_eq]; omega) ?_
    intro g9
    refine compRest_inv _ (RowInv l kind _) ?_ ?_ _ 0 [] _ (Nat.zero_add _) ⟨_, _, [], by k_asm, (fun _ h => nomatch h), (fun _ h => nomatch h), (fun _ h => nomatch h), rfl, by rw [List.append_nil]⟩
    · intro i9 ys9 nw9 hi9 hI9 v9 I9 oI9 C9 oC9 D9 m9 h9 tk9 E9 hv9 hC9 hx9 F9 N9 off9 ne9
      obtain ⟨us9, n9, tl9, hus9, hT9, hA9, hE9, hl9, rfl⟩ := hI9
      simp only [List.cons_append] at N9 off9
      have off8 := off9
      simp only [LCg.Off3] at off9
      k_extra "mine offs"
      k_extra "mine steps"
      unfold Stop
      (with_reducible rename Fr _ _ _ _ => F8)
      (with_reducible rename News _ _ _ _ => N8)
      exact row_end F8 N8 rfl off8 (by assumption) (by assumption) hT9 (by assumption) hA9 hE9 hl9 (by assumption)
    · intro ys9 nw9 hI9
      obtain ⟨us9, n9, tl9, hus9, hT9, hA9, hE9, hl9, rfl⟩ := hI9
      k_extra "mine steps"
      (with_reducible rename _ ∧ LCg.Off1 _ _ => o9)
      have oo := off1_mem o9.2
      (with_reducible rename News h₀ L _ _ => N8)
      exact hret _ _ _ _ (by k_asm) (cb_drop N8 sub4b) (row_post (kind := kind) (vs := ys9) (us := us9) (n := n9) (tl := tl9) (tk := tok) hk3 (by omega) hT9 hE9 hus9 o9.1 (fun p hp => oo p (.tail _ (.tail _ hp))) (by omega) (by omega) (by k_extra "mine allLt") (by omega) (fun p hp q hq => hA9 p hp q (by k_extra "mine in")))
end

/-- does an entry lack its value -/
def lackOf (tl : List (Addr × Obj)) : Value → Bool
  | .none => true
  | .ref a => (match tl.lookup a with
    | some o => (match o.data with
      | .seq xs _ => (match xs.toList with
        | [.int x _, .int y _] => x == 0 && y == 0
        | _ => false)
      | _ => false)
    | none => false)
  | _ => false

theorem lack_ref {h₀ h : Heap} {L a : Addr} {news tl : List (Addr × Obj)} {x y : Int} {t u : Tok} {n : Nat} (N : News h₀ L h news) (hs : ∀ p ∈ tl, p ∈ news)
    (hm : (a, ({ cls := .type "tuple", data := .seq #[.int x t, .int y u] n } : Obj)) ∈ tl) : lackOf tl (.ref a) = (x == 0 && y == 0) := by
  have key : ∀ l : List (Addr × Obj), (∀ p ∈ l, p ∈ news) → (a, ({ cls := .type "tuple", data := .seq #[.int x t, .int y u] n } : Obj)) ∈ l → l.lookup a = some { cls := .type "tuple", data := .seq #[.int x t, .int y u] n } := by
    intro l
    induction l with
    | nil => intro _ h; nomatch h
    | cons p r ih =>
      intro hs hm
      obtain ⟨b, o⟩ := p
      by_cases e : a = b
      · subst e
        have h1 := (N _ (hs _ (.head _))).1
        have h2 := (N _ (hs _ hm)).1
        have h3 := Option.some.inj (h1.symm.trans h2)
        simp only [List.lookup_cons, beq_self_eq_true]
        exact congrArg some h3
      · have e' : (a == b) = false := by simpa using e
        simp only [List.lookup_cons, e']
        rcases List.mem_cons.mp hm with h | h
        · exact absurd (congrArg Prod.fst h) e
        · exact ih (fun p hp => hs p (.tail _ hp)) h
  have e := key tl hs hm
  simp only [lackOf, e]

set_option maxHeartbeats 16000000 in
theorem missing_ct (w : World) {kind : String} {v : Value} {tk : Tok} {tl news : List (Addr × Obj)} (hE : EntAt tl kind v) (hs : ∀ p ∈ tl, p ∈ news) :
    Ct w 60 [.str (Str.ofString kind) tk, v] 12 news (fun r nw => r = .bool (lackOf tl v) ∧ nw = news) := by
  rcases hE with rfl | ⟨rfl, a', x, y, t, u, n, rfl, hm⟩ | ⟨rfl | rfl, i, t, rfl⟩ | ⟨rfl, x, t, rfl, hsx⟩
  · unfold Ct
    k_fill
    intro loose mean mg mb dp un gd cn cs a ccd cl outer A₀ base h₀ L m s Q E B F X N T hkd hd hu hret
    k_extra "mine enter"
    k_extra "mine steps"
    exact hret _ _ _ _ (by k_asm) (by k_asm) ⟨rfl, rfl⟩
  · unfold Ct
    k_fill
    intro loose mean mg mb dp un gd cn cs a ccd cl outer A₀ base h₀ L m s Q E B F X N T hkd hd hu hret
    have hm' := hs _ hm
    rw [lack_ref N hs hm] at hret
    k_extra "mine enter"
    k_extra "mine steps"
    (with_reducible rename News h₀ L _ _ => N8)
    exact hret _ news _ _ (by k_asm) (cb_drop N8 fun _ h => List.mem_cons_of_mem _ h) ⟨rfl, rfl⟩
  · unfold Ct
    k_fill
    intro loose mean mg mb dp un gd cn cs a ccd cl outer A₀ base h₀ L m s Q E B F X N T hkd hd hu hret
    k_extra "mine enter"
    k_extra "mine steps"
    exact hret _ _ _ _ (by k_asm) (by k_asm) ⟨rfl, rfl⟩
  · unfold Ct
    k_fill
    intro loose mean mg mb dp un gd cn cs a ccd cl outer A₀ base h₀ L m s Q E B F X N T hkd hd hu hret
    k_extra "mine enter"
    k_extra "mine steps"
    exact hret _ _ _ _ (by k_asm) (by k_asm) ⟨rfl, rfl⟩
  · unfold Ct
    k_fill
    intro loose mean mg mb dp un gd cn cs a ccd cl outer A₀ base h₀ L m s Q E B F X N T hkd hd hu hret
    k_extra "mine enter"
    k_extra "mine steps"
    exact hret _ _ _ _ (by k_asm) (by k_asm) ⟨rfl, rfl⟩


theorem lines15 : True := by
  k_with "call ref" => (first | ((k_here; (with_reducible show wpAny _ _ (call (Value.ref 60) [Value.str _ _, _]) _ _ _); k_dflt (refine' ct_useK ?k1q38 ?k2q38 ?k3q38 ?k4q38 ?k5q38 ?kKq38 (missing_ct _ ?hEq38 ?hsq38) eq_cps ?kdq38 ?kuq38 ?_; (case hEq38 => with_reducible assumption); (case k4q38 => k_asm); (case hsq38 => intro p9q38 h9q38; k_extra "mine in2"); (case k1q38 => k_asm); (case k2q38 => k_asm); (case k3q38 => k_asm); (case k5q38 => k_asm); (case kKq38 => first | exact rfl | assumption); (case kdq38 => ktr_room); (case kuq38 => ktr_units)); (intro h'q38 tk'q38 F'q38 N'q38; (try dsimp only); (try k_sweep)))) | fail)
  trivial

/-- a membership by way of what lies within -/
theorem lines16 : True := by
  k_with "mine in2" => (first | (first | assumption | (with_reducible rename (∀ p ∈ _, p ∈ _) => hs9q39; exact hs9q39 _ (by assumption)) | (refine List.mem_append.mpr (Or.inl ?_); k_extra "mine in2") | (refine List.mem_append.mpr (Or.inr ?_); k_extra "mine in2") | (refine List.mem_cons_of_mem _ ?_; k_extra "mine in2")) | fail)
  trivial


/-- a vector lies in the ledger -/
def VecAt (P : Params) (news : List (Addr × Obj)) (x : Addr) (kind : String) (av : Value) (vs : List Value) (tl : List (Addr × Obj)) : Prop :=
  (KindOk kind ∧ vs.length ≤ 5 ∧ ∀ v ∈ vs, EntAt tl kind v) ∧
  ∃ (d i : Addr) (m : Nat) (t0 t1 t2 t3 t4 tk : Tok), (x, instObj 106 d) ∈ news ∧ (d, dictOf [⟨PyData.keyHash P "kind", .str "kind" t0, .str (Str.ofString kind) tk⟩, ⟨PyData.keyHash P "items", .str "items" t1, .ref i⟩, ⟨PyData.keyHash P "attrs", .str "attrs" t2, av⟩, ⟨PyData.keyHash P "shared", .str "shared" t3, .bool false⟩, ⟨PyData.keyHash P "loose", .str "loose" t4, .bool false⟩] 5) ∈ news ∧
    (i, listOf vs.toArray m) ∈ news ∧ ∀ p ∈ tl, p ∈ news

theorem vecAt_open {P : Params} {news : List (Addr × Obj)} {x : Addr} {kind : String} {av : Value} {vs : List Value} {tl : List (Addr × Obj)} {C : Prop} (h : VecAt P news x kind av vs tl)
    (k : ∀ (d i : Addr) (m : Nat) (t0 t1 t2 t3 t4 tk : Tok), KindOk kind → vs.length ≤ 5 → (∀ v ∈ vs, EntAt tl kind v) → (x, instObj 106 d) ∈ news → (d, dictOf [⟨PyData.keyHash P "kind", .str "kind" t0, .str (Str.ofString kind) tk⟩, ⟨PyData.keyHash P "items", .str "items" t1, .ref i⟩, ⟨PyData.keyHash P "attrs", .str "attrs" t2, av⟩, ⟨PyData.keyHash P "shared", .str "shared" t3, .bool false⟩, ⟨PyData.keyHash P "loose", .str "loose" t4, .bool false⟩] 5) ∈ news → (i, listOf vs.toArray m) ∈ news → (∀ p ∈ tl, p ∈ news) → C) : C := by
  obtain ⟨⟨h1, h2, h3⟩, d, i, m, t0, t1, t2, t3, t4, tk, hx, hd, hi, ht⟩ := h
  exact k d i m t0 t1 t2 t3 t4 tk h1 h2 h3 hx hd hi ht
theorem vecAt_mono {P : Params} {news news' : List (Addr × Obj)} {x : Addr} {kind : String} {av : Value} {vs : List Value} {tl : List (Addr × Obj)} (h : VecAt P news x kind av vs tl) (hs : ∀ p ∈ news, p ∈ news') : VecAt P news' x kind av vs tl := by
  obtain ⟨hk, d, i, m, t0, t1, t2, t3, t4, tk, hx, hd, hi, ht⟩ := h
  exact ⟨hk, d, i, m, t0, t1, t2, t3, t4, tk, hs _ hx, hs _ hd, hs _ hi, fun p hp => hs p (ht p hp)⟩

theorem any_take {vs : List Value} {i : Nat} {v : Value} (f : Value → Bool) (h : vs.toArray[i]? = some v) : (vs.take (i + 1)).any f = ((vs.take i).any f || f v) := by
  have h' : vs[i]? = some v := by simpa using h
  rw [List.take_succ, h', List.any_append]
  simp

def LackInv (vs : List Value) (tl LED : List (Addr × Obj)) (i : Nat) (ys : List Value) (nw : List (Addr × Obj)) : Prop :=
  nw = LED ∧ ys.length ≤ i ∧ decide (0 < ys.length) = (vs.take i).any (lackOf tl)
theorem lackInv_tt {vs : List Value} {tl LED nw : List (Addr × Obj)} {i : Nat} {ys : List Value} {v y : Value} (h : LackInv vs tl LED i ys nw) (hv : vs.toArray[i]? = some v) (hb : lackOf tl v = true) : LackInv vs tl LED (i + 1) (ys ++ [y]) nw := by
  obtain ⟨h1, h2, h3⟩ := h
  refine ⟨h1, by rw [List.length_append, List.length_singleton]; omega, ?_⟩
  rw [any_take _ hv, hb, List.length_append, List.length_singleton, Bool.or_true]
  exact decide_eq_true (Nat.succ_pos _)
theorem lackInv_ff {vs : List Value} {tl LED nw : List (Addr × Obj)} {i : Nat} {ys : List Value} {v : Value} (h : LackInv vs tl LED i ys nw) (hv : vs.toArray[i]? = some v) (hb : lackOf tl v = false) : LackInv vs tl LED (i + 1) ys nw := by
  obtain ⟨h1, h2, h3⟩ := h
  exact ⟨h1, by omega, by rw [any_take _ hv, hb, Bool.or_false]; exact h3⟩

section
theorem lines17 : True := by
  k_with "eval ListComp" => (first | (refine stop_of ?_) | fail)
  k_with "CompSrcT" => (first | (refine stop_of ?_) | fail)
  k_with "CompEnd" => (first | (refine stop_of ?_) | fail)
  trivial


set_option maxHeartbeats 16000000 in
theorem lacks_ct (w : World) {x : Addr} {kind : String} {av : Value} {vs : List Value} {tl news : List (Addr × Obj)} (hV : VecAt w.params news x kind av vs tl) :
    Ct w 224 [.ref x] 14 news (fun r nw => r = .bool (vs.any (lackOf tl)) ∧ nw = news) := by
  obtain ⟨⟨hK, hl, hE⟩, d, i, m', t0, t1, t2, t3, t4, tk, hx, hdd, hii, hs⟩ := hV
  unfold Ct
  k_fill
  intro loose mean mg mb dp un gd cn cs a ccd cl outer A₀ base h₀ L m s Q E B F X N T hkd hd hu hret
  k_extra "mine enter"
  k_extra "mine steps"
  unfold Stop
  (with_reducible rename Fr _ _ _ _ => F9)
  k_dflt (refine LCt.ListComp_T (F₀ := F9) (by with_unfolding_all rfl) (by decide) (by rfl) (by decide) (by rfl) ?_)
  k_extra "mine steps"
  unfold Stop
  (with_reducible rename Fr _ _ _ _ => F9)
  (with_reducible rename News _ _ _ _ => N9)
  refine LCt.CompSrcT.ledger (by rfl) F9 N9 hii (by rw [sizeLine_eq, List.size_toArray]; omega) ?_
  intro g9
  refine compRestT_inv _ (LackInv vs tl news) ?_ ?_ _ 0 [] _ (Nat.zero_add _) ⟨rfl, Nat.le_refl _, rfl⟩
  · intro i9 ys9 nw9 hi9 hI9 v9 I9 oI9 C9 oC9 D9 m9 h9 tk9 E9 hv9 hC9 hx9 F9 N9 off9 ne9
    have hnw : nw9 = news := hI9.1
    subst hnw
    have hm9 : v9 ∈ vs := by simpa using Array.mem_of_getElem? hv9
    rcases hE v9 hm9 with rfl | ⟨rfl, a', xx, yy, tt, uu, nn, rfl, hm⟩ | ⟨rfl | rfl, ii, tt, rfl⟩ | ⟨rfl, xx, tt, rfl, hsx⟩
    · k_extra "mine steps"
      unfold Stop
      exact LCg.CompEnd.intro (by k_asm) (by k_asm) nw9 (fun _ h => h) off9 (.inr ⟨_, hii, rfl, _, rfl⟩) (lackInv_tt hI9 hv9 rfl)
    · have hm' := hs _ hm
      have hlk := lack_ref N hs hm
      k_extra "mine steps"
      · unfold Stop
        exact LCg.CompEnd.intro (by k_asm) (by k_asm) nw9 (fun _ h => List.mem_cons_of_mem _ h) off9 (.inr ⟨_, hii, rfl, _, rfl⟩) (lackInv_tt hI9 hv9 (by rw [hlk]; first | assumption | simpa using ‹_›))
      · unfold Stop
        exact LCg.CompEnd.intro (by k_asm) (by k_asm) nw9 (fun _ h => List.mem_cons_of_mem _ h) off9 (.inr ⟨_, hii, rfl, _, rfl⟩) (lackInv_ff hI9 hv9 (by rw [hlk]; first | assumption | simpa using ‹_›))
    · k_extra "mine steps"
      unfold Stop
      exact LCg.CompEnd.intro (by k_asm) (by k_asm) nw9 (fun _ h => List.mem_cons_of_mem _ h) off9 (.inr ⟨_, hii, rfl, _, rfl⟩) (lackInv_ff hI9 hv9 rfl)
    · k_extra "mine steps"
      unfold Stop
      exact LCg.CompEnd.intro (by k_asm) (by k_asm) nw9 (fun _ h => List.mem_cons_of_mem _ h) off9 (.inr ⟨_, hii, rfl, _, rfl⟩) (lackInv_ff hI9 hv9 rfl)
    · k_extra "mine steps"
      unfold Stop
      exact LCg.CompEnd.intro (by k_asm) (by k_asm) nw9 (fun _ h => List.mem_cons_of_mem _ h) off9 (.inr ⟨_, hii, rfl, _, rfl⟩) (lackInv_ff hI9 hv9 rfl)
  · intro ys9 nw9 hI9
    obtain ⟨rfl, hl9, hb9⟩ := hI9
    simp only [List.size_toArray] at hl9 hb9
    k_extra "mine steps"
    have hb8 : decide ((0 : Int) < (ys9.length : Int)) = vs.any (lackOf tl) := by
      rw [List.take_length] at hb9
      rw [← hb9]
      exact decide_eq_decide.mpr (by omega)
    rw [hb8]
    (with_reducible rename News h₀ L _ _ => N8)
    exact hret _ nw9 _ _ (by k_asm) (cb_drop N8 fun _ h => List.mem_cons_of_mem _ h) ⟨rfl, rfl⟩
end

theorem lines18 : True := by
  k_with "call ref" => (first | ((k_here; (with_reducible show wpAny _ _ (call (Value.ref 224) [Value.ref _]) _ _ _); (with_reducible rename VecAt _ _ _ _ _ _ _ => hV9q43); k_dflt (refine' ct_useK ?k1q43 ?k2q43 ?k3q43 ?k4q43 ?k5q43 ?kKq43 (lacks_ct _ ?hVq43) eq_cps ?kdq43 ?kuq43 ?_; (case k4q43 => k_asm); (case hVq43 => k_extra "mine vec"); (case k1q43 => k_asm); (case k2q43 => k_asm); (case k3q43 => k_asm); (case k5q43 => k_asm); (case kKq43 => first | exact rfl | assumption); (case kdq43 => ktr_room); (case kuq43 => ktr_units)); (intro h'q43 tk'q43 F'q43 N'q43; (try dsimp only); (try k_sweep)))) | fail)
  k_with "mine vec" => (first | (first | assumption | (refine' vecAt_mono (by assumption) ?vmq44; (case vmq44 => intro p9q44 h9q44; k_extra "mine in"))) | fail)
  trivial

section
theorem lines19 : True := by
  k_with "eval ListComp" => (first | (refine stop_of ?_) | fail)
  k_with "CompSrcT" => (first | (refine stop_of ?_) | fail)
  k_with "CompEnd" => (first | (refine stop_of ?_) | fail)
  trivial


set_option maxHeartbeats 16000000 in
theorem hasm_ct (w : World) {x : Addr} {kind : String} {av : Value} {vs : List Value} {tl news : List (Addr × Obj)} (hV : VecAt w.params news x kind av vs tl) :
    Ct w 179 [.ref x] 14 news (fun r nw => r = .bool (vs.any (lackOf tl)) ∧ nw = news) := by
  obtain ⟨⟨hK, hl, hE⟩, d, i, m', t0, t1, t2, t3, t4, tk, hx, hdd, hii, hs⟩ := hV
  unfold Ct
  k_fill
  intro loose mean mg mb dp un gd cn cs a ccd cl outer A₀ base h₀ L m s Q E B F X N T hkd hd hu hret
  k_extra "mine enterC"
  (with_reducible rename Fr _ _ _ _ => F0)
  (with_reducible rename News _ _ _ _ => N0)
  refine split_s2 F0 N0 ?_ ?_
  · rcases hK with rfl | rfl | rfl | rfl
    all_goals (
      k_extra "mine steps"
      (with_reducible rename Fr _ _ _ _ => F8)
      (with_reducible rename News _ _ _ _ => N8)
      exact sts_intro F8 N8 (by k_extra "mine sub"))
  · intro h8 tk8 F8 N8
    clear F0 N0
    k_extra "mine steps"
    unfold Stop
    (with_reducible rename Fr _ _ _ _ => F9)
    k_dflt (refine LCt.ListComp_T (F₀ := F9) (by with_unfolding_all rfl) (by decide) (by rfl) (by decide) (by rfl) ?_)
    k_extra "mine steps"
    unfold Stop
    (with_reducible rename Fr _ _ _ _ => F9)
    (with_reducible rename News _ _ _ _ => N9)
    refine LCt.CompSrcT.ledger (by rfl) F9 N9 (by k_mem) (by rw [sizeLine_eq, List.size_toArray]; omega) ?_
    intro g9
    refine compRestT_inv _ (LackInv vs tl _) ?_ ?_ _ 0 [] _ (Nat.zero_add _) ⟨rfl, Nat.le_refl _, rfl⟩
    · intro i9 ys9 nw9 hi9 hI9 v9 I9 oI9 C9 oC9 D9 m9 h9 tk9 E9 hv9 hC9 hx9 F9 N9 off9 ne9
      have hnw := hI9.1
      subst hnw
      have hm9 : v9 ∈ vs := by simpa using Array.mem_of_getElem? hv9
      have hE9 := hE v9 hm9
      k_extra "mine steps"
      · unfold Stop
        exact LCg.CompEnd.intro (by k_asm) (by k_asm) _ (fun _ h => h) off9 (.inr ⟨_, by k_mem, rfl, _, rfl⟩) (lackInv_tt hI9 hv9 (by first | assumption | simpa using ‹_›))
      · unfold Stop
        exact LCg.CompEnd.intro (by k_asm) (by k_asm) _ (fun _ h => h) off9 (.inr ⟨_, by k_mem, rfl, _, rfl⟩) (lackInv_ff hI9 hv9 (by first | assumption | simpa using ‹_›))
    · intro ys9 nw9 hI9
      obtain ⟨rfl, hl9, hb9⟩ := hI9
      simp only [List.size_toArray] at hl9 hb9
      k_extra "mine steps"
      have hb8 : decide ((0 : Int) < (ys9.length : Int)) = vs.any (lackOf tl) := by
        rw [List.take_length] at hb9
        rw [← hb9]
        exact decide_eq_decide.mpr (by omega)
      rw [hb8]
      (with_reducible rename News h₀ L _ _ => N8)
      exact hret _ news _ _ (by k_asm) (cb_drop N8 (by k_extra "mine sub")) ⟨rfl, rfl⟩
end

theorem lines20 : True := by
  k_with "mine hasm" => (first | ((k_dflt (refine' ct_useK ?k1q48 ?k2q48 ?k3q48 ?k4q48 ?k5q48 ?kKq48 (hasm_ct _ ?hVq48) eq_cps ?kdq48 ?kuq48 ?_; (case k4q48 => k_asm); (case hVq48 => k_extra "mine vec"); (case k1q48 => k_asm); (case k2q48 => k_asm); (case k3q48 => k_asm); (case k5q48 => k_asm); (case kKq48 => first | exact rfl | assumption); (case kdq48 => ktr_room); (case kuq48 => ktr_units)); (intro h'q48 tk'q48 F'q48 N'q48; (try dsimp only); (try k_sweep)))) | fail)
  k_with "call ref" => (first | ((k_here; (with_reducible show wpAny _ _ (call (Value.ref 179) [Value.ref _]) _ _ _); k_extra "mine hasm")) | fail)
  trivial

section
open PySem PySem.W PySem.Calls PySem.Spec PyProof.Rows
set_option maxHeartbeats 16000000 in
theorem init_call {w : World} {A A₀ : Around} {Q E : Value → Shared → Prop} {s : Shared} {h₀ base : Heap} {L e : Addr} {m mg mb : Str → Option Value} {loose : List Str} {mean : ExcName → Option Value} {news : List (Addr × Obj)} {env : Env} {outer : List Env} {vs : Array Value} {sl : Array (Option Value)} {x : Value}
    (B : Below A₀ base outer h₀) (F : Fr h₀ L s.heap m) (X : (hd.heap_1_39 w.params).In h₀) (N : News h₀ L s.heap ((e, (⟨.ref 51, none, .fields vs, sl⟩ : Obj)) :: news)) (hne : ∀ p ∈ news, p.1 ≠ e) (T : Top hd.view_1_40 loose mean mg mb h₀)
    (hA : A.frames = some (env :: outer)) (hf : env.frame = some L) (hke : env.scope.kind = .function) (hroom : A.depth < recursionLimit)
    (k : ∀ d t h' tk', Fr h₀ L h' m → News h₀ L h' ((d, dictOf [⟨PyData.keyHash w.params "message", .str "message" t, x⟩] 1) :: (e, (⟨.ref 51, some d, .fields vs, sl⟩ : Obj)) :: news) → (∀ p ∈ news, @LT.lt Nat _ p.1 d) → @LT.lt Nat _ e d → Q .none { s with heap := h', toks := tk' }) :
    wpAny (model PySem.Challenge.rw_pq1390_01.row.prog w) A (call (.ref 48) [.ref e, x]) Q E s := by
  revert X
  k_fill
  intro X
  refine wpAny_call ?_
  k_dflt (refine' code_def B F X N T hA hf hke ?k6 ?k7 hroom ?k9 ?kB ?_ ?c2 ?c3 ?c4 ?c5; (case k6 => k_is); (case k7 => k_is); (case k9 => exact BindsTo.of_eq rfl); (case c5 => decide); (case kB => exact locs rfl); (case c2 => exact rfl); (case c3 => exact rfl); (case c4 => exact rfl); k_whole; intro g' L' h' FG' F' N' B' X' T'; (try dsimp only); (try k_lift B'); (try k_fold))
  k_extra "mine steps"
  have h1 : findIn (hd.heap_1_39 w.params) (.ref 51) "__setattr__" = some (some (.builtin "object.__setattr__")) := by k_is
  have h2 : excOver (hd.heap_1_39 w.params) 51 = true := by rfl
  have h3 : takerIn (hd.heap_1_39 w.params) 51 "message" = some none := by k_is
  have h4 : hasDictIn (hd.heap_1_39 w.params) 51 = true := by k_is
  k_dflt (refine' exc_set F' X' N' hne h1 h2 h3 h4 ?_)
  intro d' h' F' N' l1 l2
  k_extra "mine steps"
  exact k _ _ _ _ (by k_asm) (by k_asm) l1 l2

/-- the call that makes the exception is reckoned up to its argument -/
def RaiseArg (w : World) (h₀ : Heap) (L : Addr) (E : Value → Shared → Prop) (vs : List Value) (s₂ : Shared) : Prop :=
  ∃ x m₂ news₂, vs = [x] ∧ Fr h₀ L s₂.heap m₂ ∧ News h₀ L s₂.heap news₂ ∧ ∀ e t d tk h' tk', Fr h₀ L h' m₂ →
    News h₀ L h' ((e, (⟨.ref 51, some d, .fields #[.ref t, .none, .none, .none, .bool false, .none], #[]⟩ : Obj)) :: (t, ({ cls := .type "tuple", data := .seq [x].toArray } : Obj)) :: (d, dictOf [⟨PyData.keyHash w.params "message", .str "message" tk, x⟩] 1) :: news₂) →
    (∀ p ∈ (d, dictOf [⟨PyData.keyHash w.params "message", .str "message" tk, x⟩] 1) :: news₂, p.1 ≠ e) → (∀ p ∈ (d, dictOf [⟨PyData.keyHash w.params "message", .str "message" tk, x⟩] 1) :: news₂, p.1 ≠ t) → @Ne Nat e t →
    E (.ref e) { s₂ with heap := h', toks := tk' }
theorem raiseArg_ {w : World} {h₀ : Heap} {L : Addr} {E : Value → Shared → Prop} {x : Value} {s₂ : Shared} {m₂ : Str → Option Value} {news₂ : List (Addr × Obj)} (F : Fr h₀ L s₂.heap m₂) (N : News h₀ L s₂.heap news₂)
    (h : ∀ e t d tk h' tk', Fr h₀ L h' m₂ →
    News h₀ L h' ((e, (⟨.ref 51, some d, .fields #[.ref t, .none, .none, .none, .bool false, .none], #[]⟩ : Obj)) :: (t, ({ cls := .type "tuple", data := .seq [x].toArray } : Obj)) :: (d, dictOf [⟨PyData.keyHash w.params "message", .str "message" tk, x⟩] 1) :: news₂) →
    (∀ p ∈ (d, dictOf [⟨PyData.keyHash w.params "message", .str "message" tk, x⟩] 1) :: news₂, p.1 ≠ e) → (∀ p ∈ (d, dictOf [⟨PyData.keyHash w.params "message", .str "message" tk, x⟩] 1) :: news₂, p.1 ≠ t) → @Ne Nat e t →
    E (.ref e) { s₂ with heap := h', toks := tk' }) : RaiseArg w h₀ L E [x] s₂ := ⟨x, m₂, news₂, rfl, F, N, h⟩

theorem ns_some_of {K : Frag} {h : Heap} {N : Addr} {mg : Str → Option Value} {n : Str} {v : Value} (X : K.In h) (G : h.Ns N mg) (e : nsIn K N n = some (some v)) : mg n = some v := by
  obtain ⟨o, es, ep, ho, hd, _, hf⟩ := G
  unfold nsIn at e
  split at e
  · rename_i c d es' n' sl q
    have := X _ _ q
    rw [ho] at this
    cases this
    cases hd
    split at e
    · rename_i en he
      cases e
      rw [← hf]
      unfold nsFind findBy
      rw [← Array.find?_toList, he]
      rfl
    · split at e <;> cases e
  · cases e

set_option maxHeartbeats 16000000 in
theorem raise_refusal {w : World} {A A₀ : Around} {Q : Flow → Shared → Prop} {E : Value → Shared → Prop} {s : Shared} {h₀ base : Heap} {L a : Addr} {m mg mb : Str → Option Value} {loose : List Str} {mean : ExcName → Option Value} {name : Str} {scope : Scope} {cd : Value} {outer : List Env} {e₀ : Expr} {rest : List Expr} {np cpos pos : Pos}
    (B : Below A₀ base outer h₀) (F : Fr h₀ L s.heap m) (X : (hd.heap_1_39 w.params).In h₀) (T : Top hd.view_1_40 loose mean mg mb h₀)
    (hA : A.frames = some (envOf name scope L a cd :: outer)) (hh : A.handled = none) (hroom : A.depth + 1 < recursionLimit)
    (h : wpAny (model PySem.Challenge.rw_pq1390_01.row.prog w) A (spliced (backTo cpos (starEach (e₀ :: rest) (envOf name scope L a cd)))) (RaiseArg w h₀ L E) E s)
    (he : starEach (e₀ :: rest) (envOf name scope L a cd) = (false, eval e₀ (envOf name scope L a cd)) :: starEach rest (envOf name scope L a cd) := by rfl)
    (hplain : (backTo cpos (starEach rest (envOf name scope L a cd))).any (·.1) = false := by rfl)
    (hk : scope.kind = .function := by rfl) (hx : (envOf name scope L a cd).kindOf "Refusal" = some .globalImplicit := by rfl) :
    wpAny (model PySem.Challenge.rw_pq1390_01.row.prog w) A (exec (.Raise (some (.Call (.Name "Refusal" np) (e₀ :: rest) [] cpos)) none pos) (envOf name scope L a cd)) Q E s := by
  revert X
  k_fill
  intro X
  have FB := PySem.F.excBase_Exception
  have hbm : [Value.ref 31, .type "Exception", .type "BaseException", .type "object"].contains (.type "BaseException") = true := by decide +kernel
  have ho : (hd.heap_1_39 w.params).lookup 51 = some (excClassObj "Refusal" "Refusal" 51 50 [.ref 31] [.ref 31, .type "Exception", .type "BaseException", .type "object"] true [] [] false none none (some (.ref 35)) none (some (.str "Refusal" 219)) (some (.str "Refusal" 227)) (some (.bool true)) "Exception.__new__") := by rfl
  have hC := X _ _ ho
  obtain ⟨oI, hi48, hfc⟩ : ∃ o, (hd.heap_1_39 w.params).lookup 48 = some o ∧ o.cls = .type "function" := ⟨_, rfl, rfl⟩
  have hI := X _ _ hi48
  have hok : nsOkIn (hd.heap_1_39 w.params) 50 = true := by kernel_rfl
  have hT : tailIn (hd.heap_1_39 w.params) [.type "Exception", .type "BaseException", .type "object"] [.ref 31, .type "Exception", .type "BaseException", .type "object"] = true := by kernel_rfl
  have hN : h₀.Ns 50 (h₀.nsMap 50) := .of_isNs (isNs_of_in X hok)
  have en2 : nsIn (hd.heap_1_39 w.params) 50 "__init__" = some (some (.ref 48)) := by k_is
  have hni : h₀.nsMap 50 "__init__" = some (.ref 48) := ns_some_of X hN en2
  have TL := tail_of_in X hT
  have en : nsIn (hd.heap_1_39 w.params) mainGlobals "Refusal" = some (some (.ref 51)) := by k_is
  refine Raise_call_init FB (by decide +kernel) FB (mN := h₀.nsMap 50) hbm hh (by rw [he]; show (false || (backTo cpos (starEach rest (envOf name scope L a cd))).any (·.1)) = false; rw [hplain]; rfl) hni (oI := oI) (nm := "Refusal") (q := "Refusal") (N := 50) (bs := [.ref 31]) (hdct := true) (sn := []) (sub := []) (ab := false) (col := none) (dd := none) (k0 := some (.ref 35)) (k1 := none) (k2 := some (.str "Refusal" 219)) (k3 := some (.str "Refusal" 227)) (k5 := some (.bool true)) hfc (name_K F X (topRead_of T) en ⟨rfl, ?_⟩ hk hx rfl)
  rw [he] at h ⊢
  refine Calls.evalArgs_plain (wpAny_mono h (fun vs s₂ h₂ => ?_) fun _ _ y => y)
  obtain ⟨x, m₂, news₂, rfl, F₂, N₂, k⟩ := h₂
  refine ⟨rfl, by (show 1 ≤ sizeLine); rw [sizeLine_eq]; decide, F₂.keep _ _ hC, hN.keeps F₂.keep, TL.keeps F₂.keep, F₂.keep _ _ hI, fun h' e hm => ?_⟩
  obtain ⟨t, he', ht, ht'⟩ := hm.there
  have hek : s₂.heap.get? e = none := hm.new
  have F₃ : Fr h₀ L h' m₂ := by
    obtain ⟨oL, es, ep, hL, r⟩ := F₂.ns
    exact ⟨⟨oL, es, ep, hm.keeps _ _ hL, r⟩, fun b o q => hm.keeps _ _ (F₂.keep b o q), F₂.above⟩
  obtain ⟨oL, esL, epL, hoL, rL⟩ := F₂.ns
  have neL : ∀ {b : Addr}, s₂.heap.get? b = none → b ≠ L := fun hb q => by rw [q, hoL] at hb; cases hb
  have ne0 : ∀ {b : Addr}, s₂.heap.get? b = none → h₀.get? b = none := fun hb => by
    rename_i b
    cases q : h₀.get? b with
    | none => rfl
    | some o => rw [F₂.keep _ _ q] at hb; cases hb
  have net : @Ne Nat e t := fun q => by rw [q, ht'] at he'; cases he'
  have N₃ : News h₀ L h' ((e, (⟨.ref 51, none, .fields #[.ref t, .none, .none, .none, .bool false, .none], #[]⟩ : Obj)) :: (t, ({ cls := .type "tuple", data := .seq [x].toArray } : Obj)) :: news₂) := by
    intro p hp
    rcases List.mem_cons.mp hp with rfl | hp
    · exact ⟨he', neL hek, ne0 hek⟩
    · rcases List.mem_cons.mp hp with rfl | hp
      · exact ⟨ht', neL ht, ne0 ht⟩
      · exact ⟨hm.keeps _ _ (N₂ p hp).1, (N₂ p hp).2⟩
  have nee : ∀ p ∈ news₂, p.1 ≠ e := fun p hp q => by have := (N₂ p hp).1; rw [q, hek] at this; cases this
  have nt : ∀ p ∈ news₂, p.1 ≠ t := fun p hp q => by have := (N₂ p hp).1; rw [q, ht] at this; cases this
  refine init_call (w := w) B F₃ X N₃ (fun p hp => ?_) T (env := envOf name scope L a cd) (hA := hA) (hf := rfl) (hke := hk) (hroom := hroom) fun d t' h'' tk' F₄ N₄ l1 l2 => ?_
  · rcases List.mem_cons.mp hp with rfl | hp
    · exact net.symm
    · exact nee p hp
  · refine ⟨rfl, F₄.keep _ _ hC, ⟨t, some d, #[], (N₄ _ (.tail _ (.head _))).1⟩, k e t d t' h'' tk' F₄ ?_ ?_ ?_ net⟩
    · intro p hp
      refine N₄ p ?_
      simp only [List.mem_cons] at hp ⊢
      rcases hp with h | h | h | h
      · exact .inr (.inl h)
      · exact .inr (.inr (.inl h))
      · exact .inl h
      · exact .inr (.inr (.inr h))
    · intro p hp
      rcases List.mem_cons.mp hp with rfl | hp
      · exact Nat.ne_of_gt l2
      · exact nee p hp
    · intro p hp
      rcases List.mem_cons.mp hp with rfl | hp
      · exact Nat.ne_of_gt (l1 _ (.head _))
      · exact nt p hp
end

section
open PySem PySem.W PySem.Calls PySem.Spec PyProof.Rows
/-- the end of a frame that may have caught: the frames beneath may have been looked at -/
def LeaveD (fs : List Addr) (A₀ : Around) (base : Heap) (outer : List Env) (K : Frag) (p : Program) (loose : List Str) (mean : ExcName → Option Value) (mg mb : Str → Option Value) (h₀ : Heap) (L : Addr) (m : Str → Option Value) (g : Heap) (R : Result → Shared → Prop) (v : Value) (s' : Shared) : Prop :=
  ∃ g' L' m' news', KtsTurn fs g g' ∧ Fr g' L' s'.heap m' ∧ News g' L' s'.heap news' ∧ ∀ h₀', KtsTurn (outer.filterMap (·.frame)) h₀ h₀' → Fr h₀' L s'.heap m → News h₀' L s'.heap news' → Below A₀ base outer h₀' → K.In h₀' → Top p loose mean mg mb h₀' →
    KtsDicts (outer.filterMap (·.frame)) h₀' → R (.ok (.ret v)) s'
theorem leaveD_ {fs : List Addr} {A₀ : Around} {base : Heap} {outer : List Env} {K : Frag} {p : Program} {loose : List Str} {mean : ExcName → Option Value} {mg mb : Str → Option Value} {h₀ g g' : Heap} {L L' : Addr} {m m' : Str → Option Value} {news' : List (Addr × Obj)} {R : Result → Shared → Prop} {v : Value} {s' : Shared}
    (F' : Fr g' L' s'.heap m') (N' : News g' L' s'.heap news') (T : KtsTurn fs g g')
    (k : ∀ h₀', KtsTurn (outer.filterMap (·.frame)) h₀ h₀' → Fr h₀' L s'.heap m → News h₀' L s'.heap news' → Below A₀ base outer h₀' → K.In h₀' → Top p loose mean mg mb h₀' → KtsDicts (outer.filterMap (·.frame)) h₀' → R (.ok (.ret v)) s') :
    LeaveD fs A₀ base outer K p loose mean mg mb h₀ L m g R v s' := ⟨g', L', m', news', T, F', N', k⟩

section
variable {prog : Program} {w : World} {A₀ A : Around} {s : Shared} {base h₀ : Heap} {outer : List Env} {env : Env} {L : Addr} {m : Str → Option Value} {news : List (Addr × Obj)} {K : Frag} {p : Program} {loose : List Str} {mean : ExcName → Option Value} {mg mb : Str → Option Value}
    {R : Result → Shared → Prop} {name qual : Str} {params : Arguments} {body : List Stmt} {scope : Scope} {dV kV doc pm cdv ct oc : Value} {an od : Option Addr} {osl : Array (Option Value)} {f : Addr} {args : Args} {binds : List (Str × Value)}

theorem kts_enterX (B : Below A₀ base outer h₀) (F : Fr h₀ L s.heap m) (N : News h₀ L s.heap news) (hA : A.frames = some (env :: outer)) (hf : env.frame = some L) (hke : env.scope.kind = .function) :
    ∃ oL es ep, (hideAll s.heap (news.map (·.1))).get? L = some oL ∧ oL.data = .dict es ep ∧ (∀ h', h'.get? L = some oL → Heap.Ns h' L m) ∧ (∀ (sl : Array (Option Value)) h', h'.get? L = some { oL with slots := sl } → Heap.Ns h' L m) ∧
      h₀.StaysIn (hideAll s.heap (news.map (·.1))) ∧ Below A base (env :: outer) (hideAll s.heap (news.map (·.1))) := by
  have nm : ∀ b o, h₀.get? b = some o → b ∉ news.map (·.1) := fun b o e q => by
    obtain ⟨p, hp, rfl⟩ := List.mem_map.mp q
    rw [(N p hp).2.2] at e; cases e
  have st : h₀.StaysIn (hideAll s.heap (news.map (·.1))) := fun b o e => hideAll_get _ (F.keep b o e) (nm b o e)
  obtain ⟨oL, es, ep, hL, hLd, hLk, hLf⟩ := F.ns
  have nL : L ∉ news.map (·.1) := fun q => by
    obtain ⟨p, hp, e⟩ := List.mem_map.mp q
    exact (N p hp).2.1 e
  have hLg := hideAll_get (news.map (·.1)) hL nL
  have B₁ := pushX B F hf hke
  exact ⟨oL, es, ep, hLg, hLd, fun h' e => ⟨oL, es, ep, e, hLd, hLk, hLf⟩, fun sl h' e => ⟨_, es, ep, e, hLd, hLk, hLf⟩, st, ⟨hA, fun b o e => st b o (B.stays b o e), funFrames_hideAll B₁.frames fun env' he b hb hf' => by
    cases he with
    | head => exact nL ((Option.some.inj (hf.symm.trans hf') : L = b) ▸ hb)
    | tail _ he =>
      obtain ⟨L₁, o₁, hf₁, ho₁⟩ := funFrames_in B.frames env' he
      rw [hf₁] at hf'
      exact nm L₁ o₁ ho₁ ((Option.some.inj hf' : L₁ = b) ▸ hb)⟩⟩

theorem kts_memX {b : Addr} (hf : env.frame = some L) (hm : b ∈ (env :: outer).filterMap (·.frame)) : b = L ∨ b ∈ outer.filterMap (·.frame) := by
  obtain ⟨env', he, hf'⟩ := List.mem_filterMap.mp hm
  rcases List.mem_cons.mp he with rfl | he
  · exact .inl (Option.some.inj (hf.symm.trans hf')).symm
  · exact .inr (List.mem_filterMap.mpr ⟨env', he, hf'⟩)

theorem code_defD (B : Below A₀ base outer h₀) (F : Fr h₀ L s.heap m) (X₀ : K.In h₀) (N : News h₀ L s.heap news) (T : Top p loose mean mg mb h₀) (XB : K.In base) (TB : Top p loose mean mg mb base) (D : KtsDicts (outer.filterMap (·.frame)) h₀)
    (hA : A.frames = some (env :: outer)) (hf : env.frame = some L) (hke : env.scope.kind = .function)
    (ho : K.lookup f = some ⟨oc, od, .func (fnOf name qual params body scope dV kV doc pm an cdv ct), osl⟩) (hcd : codeIn K cdv qual = true) (hroom : A.depth < recursionLimit)
    (hbind : BindsTo s (fnOf name qual params body scope dV kV doc pm an cdv ct) args binds) (hloc : ∀ y ∈ binds, scope.names.lookup y.1 = some .local)
    (h : ∀ g L' h₁, Fr h₀ L g m → Fr g L' h₁ (fun y => binds.reverse.lookup y) → News g L' h₁ news → Below A base (env :: outer) g → K.In g → Top p loose mean mg mb g → KtsDicts ((env :: outer).filterMap (·.frame)) g →
      wpAny (model prog w) (A.deeper (envOf qual scope L' f cdv)) (execs body (envOf qual scope L' f cdv))
        (fun fl s' => LeaveD ((env :: outer).filterMap (·.frame)) A₀ base outer K p loose mean mg mb h₀ L m g R (match fl with | .ret v => v | _ => .none) s')
        (fun e s' => wpAny (model prog w) (A.deeper (envOf qual scope L' f cdv)) (leaving (envOf qual scope L' f cdv) e) (fun _ s'' => R (.error e) s'') (fun e' s'' => R (.error e') s'') s')
        { s with heap := h₁, toks := s.toks + binds.length })
    (hco : scope.isCoroutine = false) (hgen : scope.isGenerator = false) (hk : scope.kind = .function)
    (hcell : ∀ x ∈ scope.names, x.2 ≠ .cell) : codeAny (model prog w) A (.call (.ref f) args) R s := by
  have X := X₀.keeps F.keep
  refine codeAny_call_def (fd := fnOf name qual params body scope dV kV doc pm an cdv ct) (body := body) (binds := binds) hroom (X _ _ ho) rfl (T.nolimit.keeps F.keep) (codeRec_of X hcd) rfl hbind hcell hloc (fun h₁ hns hk₁ => ?_) hco hgen hk
  obtain ⟨oL, es, ep, hLg, hLd, hN, hNs, st, B₂⟩ := kts_enterX B F N hA hf hke
  refine wpAny_mono (h _ s.heap.objs.size h₁ ⟨hN _ hLg, st, F.above⟩ ⟨hns, fun b o e => hk₁ b o (of_hideAll _ e), Nat.le_of_eq (hideAll_size _ _)⟩
    (fun p hp => ⟨hk₁ _ _ (N p hp).1, Nat.ne_of_lt (Heap.lt_size (N p hp).1), hideAll_none _ (List.mem_map_of_mem hp)⟩) B₂ (X₀.keeps st) (T.keeps st) (fun b hb => by
      rcases kts_memX hf hb with rfl | hb
      · exact ⟨oL, es, ep, hLg, hLd⟩
      · obtain ⟨o, es', n', ho', hd'⟩ := D b hb
        exact ⟨o, es', n', st b o ho', hd'⟩)) (fun fl s' hl => ?_) fun _ _ y => y
  have nL₀ : h₀.get? L = none := kts_self F
  obtain ⟨g', L', m', news', T', F', N', k⟩ := hl
  obtain ⟨sl, hs⟩ := T'.up hLg
  obtain ⟨T₁, S₁⟩ := kts_turn_at (h := s'.heap) (fs := outer.filterMap (·.frame)) (g := h₀)
    (fun b hb => by
      obtain ⟨_, o, ho', _⟩ := B.frames.mem hb
      exact ⟨o, ho'⟩)
    (fun b o e nmem => F'.keep b o (T'.other b o (st b o e) (fun q => by
      rcases kts_memX hf q with z | z
      · rw [z, nL₀] at e
        cases e
      · exact nmem z)))
    (fun b o e hm => by
      obtain ⟨sl', hs'⟩ := T'.up (st b o e)
      exact ⟨sl', F'.keep _ _ hs'⟩)
  have B₃ : Below A₀ base outer (ktsHeap s'.heap (outer.filterMap (·.frame)) h₀) := ⟨B.stack, fun b o e => T₁.other b o (B.stays b o e) (fun hm => by
    rw [(B.frames.mem hm).1] at e
    cases e), B.frames.of_keeps fun b o e _ => by
    obtain ⟨sl', hs'⟩ := T₁.up e
    exact ⟨_, hs', rfl⟩⟩
  refine k _ T₁ ⟨hNs sl _ (F'.keep _ _ hs), S₁, by rw [T₁.size]; exact F.above⟩ (fun p hp => ⟨(N' p hp).1, fun q => ?_, ?_⟩) B₃ (XB.keeps B₃.stays) (TB.keeps B₃.stays) (D.turn T₁)
  · have := (N' p hp).2.2; rw [q, hs] at this; cases this
  · refine T₁.none_ _ ?_
    cases q : h₀.get? p.1 with
    | none => rfl
    | some o =>
      obtain ⟨sl', hs'⟩ := T'.up (st _ _ q)
      have := (N' p hp).2.2
      rw [hs'] at this
      cases this
end

/-- a contract of a def that may catch -/
def CtS (w : World) (f : Addr) (args : List Value) (sz : Nat) (news : List (Addr × Obj)) (Post : Value → List (Addr × Obj) → Prop) : Prop :=
  ∀ (loose : List Str) (mean : ExcName → Option Value) (mg mb : Str → Option Value) (dp un : Nat) (gd : Option (List Code)) (cn : Str) (cs : Scope) (a : Addr) (ccd : Value) (cl : List (Str × Addr)) (outer : List Env) (A₀ : Around) (base h₀ : Heap) (L : Addr) (m : Str → Option Value) (s : Shared)
    (Q E : Value → Shared → Prop),
    Below A₀ base outer h₀ → Fr h₀ L s.heap m → (hd.heap_1_39 w.params).In h₀ → News h₀ L s.heap news → Top hd.view_1_40 loose mean mg mb h₀ → (hd.heap_1_39 w.params).In base → Top hd.view_1_40 loose mean mg mb base → KtsDicts (outer.filterMap (·.frame)) h₀ →
    cs.kind = .function → dp + sz < recursionLimit → un + 8 * sz < cLine →
    (∀ r news' h₀' h' tk', KtsTurn (outer.filterMap (·.frame)) h₀ h₀' → Fr h₀' L h' m → News h₀' L h' news' → Below A₀ base outer h₀' → (hd.heap_1_39 w.params).In h₀' → Top hd.view_1_40 loose mean mg mb h₀' → KtsDicts (outer.filterMap (·.frame)) h₀' →
      Post r news' → Q r { s with heap := h', toks := tk' }) →
    wpAny (model PySem.Challenge.rw_pq1390_01.row.prog w) (ktrTop dp un gd cn cs L a ccd cl outer) (call (.ref f) args) Q E s
end

theorem lines21 : True := by
  k_with "mine enterD" => (first | ((refine wpAny_call ?_; k_dflt (refine' code_defD ?k1q50 ?k2q50 ?k3q50 ?k4q50 ?k5q50 ?XBq50 ?TBq50 ?Dq50 ?kAq50 ?kFq50 ?kKq50 ?k6q50 ?k7q50 ?k8q50 ?k9q50 ?kBq50 ?_ ?c2q50 ?c3q50 ?c4q50 ?c5q50; (case kAq50 => exact rfl); (case kFq50 => exact rfl); (case kKq50 => first | exact rfl | assumption); (case k2q50 => k_asm); (case k1q50 => k_asm); (case XBq50 => assumption); (case TBq50 => assumption); (case Dq50 => assumption); (case k3q50 => k_asm); (case k4q50 => k_asm); (case k5q50 => k_asm); (case k6q50 => k_is); (case k7q50 => k_is); (case k8q50 => ktr_room); (case k9q50 => first | exact BindsTo.of_eq rfl | exact binds_K (by k_in) rfl (by k_is) rfl rfl rfl); (case kBq50 => exact locs rfl); (case c2q50 => exact rfl); (case c3q50 => exact rfl); (case c4q50 => exact rfl); (case c5q50 => decide); k_whole; intro g'q50 L'q50 h'q50 FG'q50 F'q50 N'q50 B'q50 X'q50 T'q50 D'q50; (try dsimp only); (try k_lift B'q50); (try k_fold)))) | fail)
  k_with "exec Raise some none" => (first | ((k_here; (with_reducible show wpAny _ _ (exec (Stmt.Raise (some (Expr.Call (Expr.Name ("Refusal" : Str) _) (_ :: _) [] _)) none _) _) _ _ _); k_dflt (refine' raise_refusal ?Bq51 ?Fq51 ?Xq51 ?Tq51 ?hAq51 ?hhq51 ?hrq51 ?_ ?heq51 ?hpq51 ?hkq51 ?hxq51; (case hAq51 => exact rfl); (case Fq51 => k_asm); (case Bq51 => k_asm); (case Xq51 => k_asm); (case Tq51 => k_asm); (case hhq51 => exact rfl); (case hrq51 => ktr_room); (case heq51 => exact rfl); (case hpq51 => exact rfl); (case hkq51 => exact rfl); (case hxq51 => exact rfl); k_whole))) | fail)
  k_with "RaiseArg" => (first | ((k_dflt (refine' raiseArg_ ?Fq52 ?Nq52 ?_; (case Fq52 => k_asm); (case Nq52 => k_asm); k_whole); intro e'q52 t'q52 d'q52 tk'q52 h'q52 tj'q52 F'q52 N'q52 ne'q52 nt'q52 et'q52)) | fail)
  k_with "leaving ref" => (first | ((k_here; first
  | (refine' leave_raiseD ?Kq53 ?Fq53 ?Nq53 ?neq53 ?ntq53 ?etq53 ?_ ?hkq53; (case Kq53 => assumption); (case Fq53 => k_asm); (case Nq53 => k_asm); (case neq53 => assumption); (case ntq53 => assumption); (case etq53 => assumption); (case hkq53 => exact rfl); k_whole; intro h'q53 RD'q53 U'q53; (try dsimp only at RD'q53 U'q53 ⊢))
  | (refine' leave_onD ?Kq53 ?Fq53 ?Rq53 ?Uq53 ?_; (case Rq53 => assumption); (case Fq53 => assumption); (case Kq53 => assumption); (case Uq53 => assumption); k_whole; intro h'q53 RD'q53 U'q53; (try dsimp only at RD'q53 U'q53 ⊢)))) | fail)
  k_with "noteFrame ref" => (first | ((k_here; (with_reducible rename RaisedD _ _ _ _ _ _ _ _ _ _ => rdXq54); k_dflt (refine' caught_D ?Rq54 ?Fq54 ?Kq54 ?Uq54 ?XBq54 ?TBq54 ?T0q54 ?Dq54 ?exq54 ?qq54 ?_ ?hkq54 ?hloq54 ?hxq54 ?hdq54; (case Rq54 => exact rdXq54); (case Fq54 => assumption); (case Kq54 => assumption); (case Uq54 => assumption); (case XBq54 => assumption); (case TBq54 => assumption); (case T0q54 => exact KtsTurn.refl); (case Dq54 => assumption); (case exq54 => k_is); (case qq54 => kts_isx); (case hkq54 => exact rfl); (case hloq54 => exact rfl); (case hxq54 => exact rfl); (case hdq54 => decide); k_whole); intro h'q54 g'q54 ws'q54 sl'q54 tk'q54 T'q54 F'q54 N'q54 K'q54 X'q54 P'q54 D'q54; clear rdXq54; (try k_lift K'q54); (try k_sweep))) | fail)
  trivial

theorem exc_msg {prog : Program} {w : World} {A : Around} {E : Value → Shared → Prop} {s : Shared} {K : Frag} {x C d L : Addr} {h₀ : Heap} {m : Str → Option Value} {news : List (Addr × Obj)} {name : Str} {v : Value} {expr : Bool} {Q : Value → Shared → Prop} {es : List DictEntry} {n : Nat} {ws : Array Value} {sl : Array (Option Value)}
    (F : Fr h₀ L s.heap m) (X₀ : K.In h₀) (N : News h₀ L s.heap ((x, (⟨.ref C, some d, .fields ws, sl⟩ : Obj)) :: (d, dictOf es n) :: news))
    (hga : findIn K (.ref C) "__getattribute__" = some (some (.builtin "BaseException.__getattribute__"))) (hgn : findIn K (.ref C) "__getattr__" = some none) (hm : mroIn K C (.type "BaseException") = some true) (hh : hasDictIn K C = true)
    (ha : findIn K (.ref C) name = some none) (hl : getL name es = some (some v)) (hv : handedIn v = true) (h : Q v { s with toks := s.toks + 1 }) :
    wpAny (model prog w) A (getAttr (.ref x) name expr) Q E s :=
  exc_get F X₀ ⟨(N _ (.head _)).1, rfl, rfl, (N _ (.tail _ (.head _))).1⟩ hga hgn hm hh ha hl hv h
theorem lines22 : True := by
  k_with "getAttr ref" => (first | ((k_here; (with_reducible show wpAny _ _ (getAttr (Value.ref _) ("message" : Str) _) _ _ _); k_dflt (refine' exc_msg ?Fq55 ?Xq55 ?Nq55 ?hgaq55 ?hgnq55 ?hmq55 ?hhq55 ?haq55 ?hlq55 ?hvq55 ?_; (case Fq55 => k_asm); (case Nq55 => k_asm); (case Xq55 => k_asm); (case hgaq55 => k_is); (case hgnq55 => k_is); (case hmq55 => k_is); (case hhq55 => k_is); (case haq55 => k_is); (case hlq55 => exact rfl); (case hvq55 => exact rfl); k_whole))) | fail)
  trivial


theorem leaveD_mid {fs : List Addr} {A₀ : Around} {base : Heap} {outer : List Env} {K : Frag} {p : Program} {loose : List Str} {mean : ExcName → Option Value} {mg mb : Str → Option Value} {h₀ g g' : Heap} {L L' : Addr} {m m' : Str → Option Value} {q : Addr × Obj} (mid : List (Addr × Obj)) {news : List (Addr × Obj)} {R : Result → Shared → Prop} {v : Value} {s' : Shared}
    (F' : Fr g' L' s'.heap m') (N' : News g' L' s'.heap (q :: (mid ++ news))) (T : KtsTurn fs g g')
    (k : ∀ h₀', KtsTurn (outer.filterMap (·.frame)) h₀ h₀' → Fr h₀' L s'.heap m → News h₀' L s'.heap (q :: news) → Below A₀ base outer h₀' → K.In h₀' → Top p loose mean mg mb h₀' → KtsDicts (outer.filterMap (·.frame)) h₀' → R (.ok (.ret v)) s') :
    LeaveD fs A₀ base outer K p loose mean mg mb h₀ L m g R v s' := ⟨g', L', m', q :: news, T, F', cb_drop N' (fun p hp => by
      rcases List.mem_cons.mp hp with rfl | hp
      · exact .head _
      · exact .tail _ (List.mem_append.mpr (.inr hp))), k⟩

/-- what _law_failed hands back -/
def FailPost (b : Bool) (x : Value) (news : List (Addr × Obj)) (r : Value) (nw : List (Addr × Obj)) : Prop :=
  ∃ (D : Addr) (told : Value) (word : Str) (tk : Tok) (n : Nat), r = .ref D ∧ AllLt D news ∧ nw = (D, ({ cls := .type "tuple", data := .seq #[told, .str word tk] n } : Obj)) :: news ∧
    ((b = true ∧ told = .none ∧ word = Str.ofString "missing values in object") ∨ (b = false ∧ told = x ∧ word = Str.ofString ""))

set_option maxHeartbeats 16000000 in
theorem failed_ct (w : World) {x : Addr} {kind : String} {av : Value} {vs : List Value} {tl news : List (Addr × Obj)} (hV : VecAt w.params news x kind av vs tl) :
    CtS w 236 [.ref x] 24 news (FailPost (vs.any (lackOf tl)) (.ref x) news) := by
  unfold CtS
  k_fill
  intro loose mean mg mb dp un gd cn cs a ccd cl outer A₀ base h₀ L m s Q E B F X N T XB TB D hkd hd hu hret
  k_extra "mine enterD"
  k_extra "mine steps"
  · k_dflt (refine' leaveD_mid [_, _, _, _] ?F ?N ?T ?_; (case F => k_asm); (case N => k_asm); (case T => first | assumption | exact KtsTurn.refl); k_whole)
    intro k1 k2 k3 k4 k5 k6 k7 k8
    exact hret _ _ _ _ _ k2 k3 k4 k5 k6 k7 k8 ⟨_, _, _, _, _, rfl, by k_extra "mine allLt", rfl, .inl ⟨by assumption, rfl, rfl⟩⟩
  · k_dflt (refine' leaveD_mid [_, _] ?F ?N ?T ?_; (case F => k_asm); (case N => k_asm); (case T => first | assumption | exact KtsTurn.refl); k_whole)
    intro k1 k2 k3 k4 k5 k6 k7 k8
    exact hret _ _ _ _ _ k2 k3 k4 k5 k6 k7 k8 ⟨_, _, _, _, _, rfl, by k_extra "mine allLt", rfl, .inr ⟨by first | assumption | simpa using ‹_›, rfl, rfl⟩⟩

theorem leaveD_sub {fs : List Addr} {A₀ : Around} {base : Heap} {outer : List Env} {K : Frag} {p : Program} {loose : List Str} {mean : ExcName → Option Value} {mg mb : Str → Option Value} {h₀ g g' : Heap} {L L' : Addr} {m m' : Str → Option Value} (nw : List (Addr × Obj)) {all : List (Addr × Obj)} {R : Result → Shared → Prop} {v : Value} {s' : Shared}
    (F' : Fr g' L' s'.heap m') (N' : News g' L' s'.heap all) (hs : ∀ p ∈ nw, p ∈ all) (T : KtsTurn fs g g')
    (k : ∀ h₀', KtsTurn (outer.filterMap (·.frame)) h₀ h₀' → Fr h₀' L s'.heap m → News h₀' L s'.heap nw → Below A₀ base outer h₀' → K.In h₀' → Top p loose mean mg mb h₀' → KtsDicts (outer.filterMap (·.frame)) h₀' → R (.ok (.ret v)) s') :
    LeaveD fs A₀ base outer K p loose mean mg mb h₀ L m g R v s' := ⟨g', L', m', nw, T, F', cb_drop N' hs, k⟩

theorem lines23 : True := by
  k_with "mine leaveD" => (first | ((k_dflt (refine' leaveD_sub _ ?Fq56 ?Nq56 ?hsq56 ?Tq56 ?_; (case Fq56 => k_asm); (case Nq56 => k_asm); (case hsq56 => intro p9q56 h9q56; k_extra "mine in"); (case Tq56 => first | assumption | exact KtsTurn.refl); k_whole))) | fail)
  trivial


set_option maxHeartbeats 16000000 in
theorem refused_offset (w : World) {news : List (Addr × Obj)} : CtS w 257 [.ref 167] 24 news (fun r nw => r = .bool true ∧ nw = news) := by
  unfold CtS
  k_fill
  intro loose mean mg mb dp un gd cn cs a ccd cl outer A₀ base h₀ L m s Q E B F X N T XB TB D hkd hd hu hret
  k_extra "mine enterD"
  k_extra "mine steps"
  k_dflt (refine' leaveD_sub news ?F ?N ?hs ?T ?_; (case F => k_asm); (case N => k_asm); (case hs => intro p9 h9; k_extra "mine in"); (case T => first | assumption | exact KtsTurn.refl); k_whole)
  intro k1 k2 k3 k4 k5 k6 k7 k8
  exact hret _ _ _ _ _ k2 k3 k4 k5 k6 k7 k8 ⟨rfl, rfl⟩
set_option maxHeartbeats 16000000 in
theorem refused_fail (w : World) {news : List (Addr × Obj)} : CtS w 257 [.ref 186] 24 news (fun r nw => r = .bool true ∧ nw = news) := by
  unfold CtS
  k_fill
  intro loose mean mg mb dp un gd cn cs a ccd cl outer A₀ base h₀ L m s Q E B F X N T XB TB D hkd hd hu hret
  k_extra "mine enterD"
  k_extra "mine steps"
  k_dflt (refine' leaveD_sub news ?F ?N ?hs ?T ?_; (case F => k_asm); (case N => k_asm); (case hs => intro p9 h9; k_extra "mine in"); (case T => first | assumption | exact KtsTurn.refl); k_whole)
  intro k1 k2 k3 k4 k5 k6 k7 k8
  exact hret _ _ _ _ _ k2 k3 k4 k5 k6 k7 k8 ⟨rfl, rfl⟩
set_option maxHeartbeats 16000000 in
theorem refused_pass (w : World) {news : List (Addr × Obj)} : CtS w 257 [.ref 193] 24 news (fun r nw => r = .bool true ∧ nw = news) := by
  unfold CtS
  k_fill
  intro loose mean mg mb dp un gd cn cs a ccd cl outer A₀ base h₀ L m s Q E B F X N T XB TB D hkd hd hu hret
  k_extra "mine enterD"
  k_extra "mine steps"
  k_dflt (refine' leaveD_sub news ?F ?N ?hs ?T ?_; (case F => k_asm); (case N => k_asm); (case hs => intro p9 h9; k_extra "mine in"); (case T => first | assumption | exact KtsTurn.refl); k_whole)
  intro k1 k2 k3 k4 k5 k6 k7 k8
  exact hret _ _ _ _ _ k2 k3 k4 k5 k6 k7 k8 ⟨rfl, rfl⟩
set_option maxHeartbeats 16000000 in
theorem refused_asis (w : World) {news : List (Addr × Obj)} : CtS w 257 [.ref 174] 24 news (fun r nw => r = .bool true ∧ nw = news) := by
  unfold CtS
  k_fill
  intro loose mean mg mb dp un gd cn cs a ccd cl outer A₀ base h₀ L m s Q E B F X N T XB TB D hkd hd hu hret
  k_extra "mine enterD"
  k_extra "mine steps"
  k_dflt (refine' leaveD_sub news ?F ?N ?hs ?T ?_; (case F => k_asm); (case N => k_asm); (case hs => intro p9 h9; k_extra "mine in"); (case T => first | assumption | exact KtsTurn.refl); k_whole)
  intro k1 k2 k3 k4 k5 k6 k7 k8
  exact hret _ _ _ _ _ k2 k3 k4 k5 k6 k7 k8 ⟨rfl, rfl⟩

theorem lines24 : True := by
  k_with "eval DictComp" => (first | (refine stop_of ?_) | fail)
  k_with "DSrc" => (first | (refine stop_of ?_) | fail)
  k_with "CompEnd" => (first | (refine stop_of ?_) | fail)
  k_with "Exists" => (first | (((with_reducible show ∃ k, _ ∧ LCg.CompEnd _ _ _ _ _ _ _ _ _ _ _ _ _ _); refine stop_of ?_)) | fail)
  trivial


def SeenInv (rows : List (Str × List Str)) (R : List (Addr × Obj)) (i : Nat) (kvs : List (Str × Value)) (nw : List (Addr × Obj)) : Prop :=
  ∃ tl, nw = R ++ tl ∧ KvR (TupR tl) kvs (rows.take i)

theorem seen_end {w : World} {h₀ h h' : Heap} {L I C D T Li : Addr} {m : Str → Option Value} {s : Shared} {tk tk' : Nat} {oI oC oD : Obj} {i c n : Nat} {R tl : List (Addr × Obj)} {rows : List (Str × List Str)} {kvs : List (Str × Value)} {k : Str} {t ck : Tok} {cvs : List Value} {ss : List Str} {p : Addr × Obj}
    (F : Fr h₀ L h' m) (N : News h₀ L h' ((T, ({ cls := .type "tuple", data := .seq #[.str "character" ck, .ref Li] n } : Obj)) :: (Li, listOf cvs.toArray c) :: (I, oI) :: (C, oC) :: (D, oD) :: (R ++ tl)))
    (off : LCg.Off3 I C D (R ++ tl)) (l1 : (@LT.lt Nat _ I Li) ∧ (@LT.lt Nat _ C Li) ∧ (@LT.lt Nat _ D Li)) (l2 : @LT.lt Nat _ Li T) (hp : p ∈ R) (hr : KvR (TupR tl) kvs (rows.take i)) (hn : (rows.map (·.1)).Nodup) (hi : rows[i]? = some (k, ss)) (hc : StrsAre cvs ss) (hl : ss.length ≤ 8) :
    ∃ k', (PySem.strKind prg w).is k' (.str k t) = true ∧ LCg.CompEnd h₀ L m { s with heap := h, toks := tk } I oI C oC D oD (fun nw => p ∈ nw) (fun vv nw => SeenInv rows R (i + 1) (stored kvs k' vv) nw) (.ref T) { s with heap := h', toks := tk' } := by
  refine ⟨k, strKind_is _ _ _ _, ?_⟩
  refine LCg.CompEnd.intro (s₁ := { s with heap := h, toks := tk }) F N (R ++ (tl ++ [(Li, listOf cvs.toArray c), (T, ({ cls := .type "tuple", data := .seq #[.str "character" ck, .ref Li] n } : Obj))])) ?_ ?_ (List.mem_append.mpr (.inl hp)) ⟨_, rfl, ?_⟩
  · intro q hq
    simp only [List.mem_cons, List.mem_append, List.not_mem_nil, or_false] at hq ⊢
    rcases hq with h | h | h | h | h | h | h
    · exact .inr (.inr (.inl h))
    · exact .inr (.inr (.inr (.inl h)))
    · exact .inr (.inr (.inr (.inr (.inl h))))
    · exact .inr (.inr (.inr (.inr (.inr (.inl h)))))
    · exact .inr (.inr (.inr (.inr (.inr (.inr h)))))
    · exact .inr (.inl h)
    · exact .inl h
  · have om := off.mem
    refine LCg.Off3.of fun q hq => ?_
    rw [← List.append_assoc] at hq
    rcases List.mem_append.mp hq with hq | hq
    · exact om q hq
    · simp only [List.mem_cons, List.not_mem_nil, or_false] at hq
      rcases hq with rfl | rfl
      · exact ⟨Nat.ne_of_gt l1.1, Nat.ne_of_gt l1.2.1, Nat.ne_of_gt l1.2.2⟩
      · exact ⟨Nat.ne_of_gt (Nat.lt_trans l1.1 l2), Nat.ne_of_gt (Nat.lt_trans l1.2.1 l2), Nat.ne_of_gt (Nat.lt_trans l1.2.2 l2)⟩
  · rw [← rowPut_new hn hi]
    exact (hr.mono fun _ _ r => tupR_mono r fun q hq => List.mem_append.mpr (.inl hq)).put ⟨T, Li, n, c, cvs, ck, rfl, List.mem_append.mpr (.inr (.tail _ (.head _))), List.mem_append.mpr (.inr (.head _)), hc, hl⟩

/-- what _law_seen hands back -/
def SeenPost (w : World) (rows : List (Str × List Str)) (news : List (Addr × Obj)) (r : Value) (nw : List (Addr × Obj)) : Prop :=
  ∃ (D : Addr) (oD : Obj) (tl : List (Addr × Obj)), r = .ref D ∧ SeenAt w ((D, oD) :: tl) D rows ∧ nw = (D, oD) :: (tl ++ news)

theorem DictComp_F {prog : Program} {w : World} {A : Around} {E : Value → Shared → Prop} {s : Shared} {h₀ g : Heap} {L : Addr} {m : Str → Option Value} {env : Env} {kx vx iter : Expr} {x : Str} {px : Pos} {scope : Scope} {cl : List (Str × Addr)} {pos : Pos} {Q : Value → Shared → Prop} (_ : Fr h₀ L g m)
    (hclos : closureFor scope env = pure cl) (hcell : ∀ y ∈ scope.names, y.2 ≠ .cell) (hkind : scope.kind = .function)
    (hnames : ∀ y ∈ scope.names, y.2 = .local → scope.names.lookup y.1 = some .local) (hx : scope.names.lookup x = some .local)
    (h : wpAny (model prog w) A (eval iter env) (DSrc prog w A h₀ L m env kx vx x scope cl Q) E s)
    (hs : ∀ x, foldedSetIterable iter env x = pure x := by intro _; rfl) :
    wpAny (model prog w) A (eval (.DictComp kx vx [⟨.Name x px, iter, [], 0⟩] scope pos) env) Q E s := DictComp_I hclos hcell hkind hnames hx h hs

theorem lines25 : True := by
  k_with "subscriptTail" => (first | ((k_here; (with_reducible show wpAny _ _ (subscriptTail _ _ (Value.ref _) (Value.str _ _)) _ _ _); (with_reducible rename valueAt _ _ = some _ => hva9q61); k_dflt (refine' kda_item (knd := PySem.strKind _ _) ?k1q61 ?k2q61 ?k3q61 (strKind_is _ _ _ _) hva9q61 ?_; (case k1q61 => k_asm); (case k2q61 => k_mem); (case k3q61 => assumption); k_whole))) | fail)
  k_with "call type:list" => (first | ((k_here; (with_reducible show wpAny _ _ (call (Value.type "list") [Value.ref _]) _ _ _); k_dflt (refine' list_copyK ?k1q62 ?k2q62 ?k3q62 ?_ ?zq62; (case k1q62 => k_asm); (case k2q62 => k_asm); (case k3q62 => exact News.isList (by k_asm) (by k_mem)); (case zq62 => rw [sizeLine_eq, List.size_toArray]; omega)); intro D'q62 c'q62 h'q62 F'q62 N'q62 l1q62; (try k_lt l1q62); (try k_sweep))) | fail)
  trivial


set_option maxHeartbeats 16000000 in
theorem seen_none (w : World) {x : Addr} {kind : String} {vs : List Value} {tl news : List (Addr × Obj)} (hV : VecAt w.params news x kind .none vs tl) :
    Ct w 229 [.ref x] 6 news (SeenPost w [] news) := by
  obtain ⟨⟨hK, hl, hE⟩, d, i, m', t0, t1, t2, t3, t4, tk, hx, hdd, hii, hs⟩ := hV
  unfold Ct
  k_fill
  intro loose mean mg mb dp un gd cn cs a ccd cl outer A₀ base h₀ L m s Q E B F X N T hkd hd hu hret
  k_extra "mine enterC"
  k_extra "mine steps"
  exact hret _ _ _ _ (by k_asm) (cb_drop (by k_asm) (fun p hp => by
    rcases List.mem_cons.mp hp with rfl | hp
    · exact .head _
    · exact .tail _ (.tail _ hp))) ⟨_, _, [], rfl, ⟨_, [], .head _, by assumption, by assumption, .nil, Nat.zero_le _⟩, rfl⟩

set_option maxHeartbeats 16000000 in
theorem seen_some (w : World) {x : Addr} {kind : String} {vs : List Value} {tl news : List (Addr × Obj)} {av : Value} {rows : List (Str × List Str)} (hV : VecAt w.params news x kind av vs tl) (hA : AttrAt w news av (some rows)) :
    Ct w 229 [.ref x] 6 news (SeenPost w rows news) := by
  obtain ⟨⟨hK, hl, hE⟩, d, i, m', t0, t1, t2, t3, t4, tk, hx, hdd, hii, hs⟩ := hV
  obtain ⟨ad, oa, kvs, rfl, hR⟩ := hA
  have hnod := hR.nodup
  have hnodR := hR.nodupR
  obtain ⟨hAt, hIs, hLo, hRel, hFew⟩ := hR
  unfold Ct
  k_fill
  intro loose mean mg mb dp un gd cn cs a ccd cl outer A₀ base h₀ L m s Q E B F X N T hkd hd hu hret
  k_extra "mine enterC"
  k_extra "mine steps"
  unfold Stop
  (with_reducible rename Fr _ _ _ _ => F9)
  k_dflt (refine DictComp_F F9 (by rfl) (by decide) (by rfl) (by decide) (by rfl) ?_)
  k_extra "mine steps"
  unfold Stop
  (with_reducible rename Fr _ _ _ _ => F9)
  (with_reducible rename News _ _ _ _ => N9)
  refine ⟨ad, oa, kvs, _, SeenInv rows _, rfl, by rfl, F9, N9, by k_mem, hIs, hLo, modules_low (Top.nolimit (by assumption)), ⟨[], by rw [List.append_nil], .nil⟩, ?_, fun _ _ _ _ => trivial, ?_, ?_⟩
  · intro i9 kvs9 nw9 hI9
    obtain ⟨tl9, rfl, hr9⟩ := hI9
    rw [hr9.len, sizeLine_eq, List.length_take]
    omega
  · intro g9 i9 kvs9 nw9 hi9 hI9 v9 I9 oI9 C9 oC9 D9 oD9 m9 h9 tk9 E9 hv9 hC9 hx9 F9 N9 off9 ne9
    obtain ⟨tl9, rfl, hr9⟩ := hI9
    obtain ⟨k9, y9, t9, hg9, rfl⟩ := hv9
    obtain ⟨ss9, hs9, hy9⟩ := hRel.idx hg9
    have hva := valueAt_idx hnod hg9
    obtain ⟨cx, cd', ci, cm, cvs, c0, c1, c2, c3, c4, ck, rfl, hcx, hcd, hci, hcs, hcl⟩ := hy9
    simp only [List.cons_append] at N9 off9
    have off8 := off9
    simp only [LCg.Off3] at off9
    k_extra "mine offs"
    have hx' := List.mem_append_left tl9 hx
    have hdd' := List.mem_append_left tl9 hdd
    have hAt' := List.mem_append_left tl9 hAt
    have hcx' := List.mem_append_left tl9 hcx
    have hcd'' := List.mem_append_left tl9 hcd
    have hci' := List.mem_append_left tl9 hci
    have hcv9 : cvs.length ≤ 8 := by rw [hcs.length]; exact hcl
    k_extra "mine steps"
    unfold Stop
    (with_reducible rename Fr _ _ _ _ => F8)
    (with_reducible rename News _ _ _ _ => N8)
    exact seen_end F8 N8 off8 ⟨by omega, by omega, by omega⟩ (by omega) (by k_mem) hr9 hnodR hs9 hcs hcl
  · intro kvs9 nw9 hI9 D9 oD9 h9 tk9 F9 N9 hd9 lo9 off9
    obtain ⟨tl9, rfl, hr9⟩ := hI9
    rw [hRel.len, List.take_length] at hr9
    k_extra "mine steps"
    exact hret _ _ _ _ (by k_asm) (cb_drop (by k_asm) (fun p hp => by
      rcases List.mem_cons.mp hp with rfl | hp
      · exact .head _
      · exact .tail _ (.tail _ (List.mem_append.mpr (List.mem_append.mp hp).symm)))) ⟨_, _, tl9, rfl, ⟨_, kvs9, .head _, hd9, lo9, hr9.mono fun _ _ r => tupR_mono r fun _ h => .tail _ h, hFew⟩, rfl⟩
theorem seen_cps {w : World} {rows : List (Str × List Str)} {news : List (Addr × Obj)} : ∀ R : Value → List (Addr × Obj) → Prop, (∀ (D : Addr) (oD : Obj) (tl : List (Addr × Obj)), SeenAt w ((D, oD) :: tl) D rows → R (.ref D) ((D, oD) :: (tl ++ news))) → ∀ r nw, SeenPost w rows news r nw → R r nw := by
  rintro R k r nw ⟨D, oD, tl, rfl, h1, rfl⟩; exact k D oD tl h1
theorem lines26 : True := by
  k_with "mine seen" => (first | ((intro D'q63 oD'q63 tl'q63 hS'q63 h'q63 tk'q63 F'q63 N'q63; (try dsimp only); (try k_sweep))) | fail)
  trivial

theorem seen_ct (w : World) {x : Addr} {kind : String} {vs : List Value} {tl news : List (Addr × Obj)} {av : Value} {am : Option (List (Str × List Str))} (hV : VecAt w.params news x kind av vs tl) (hA : AttrAt w news av am) :
    Ct w 229 [.ref x] 6 news (SeenPost w (am.getD []) news) := by
  cases am with
  | none =>
    have e : av = .none := hA
    subst e
    exact seen_none w hV
  | some rows => exact seen_some w hV hA
theorem lines27 : True := by
  k_with "mine attr" => (first | (first | assumption | (refine' attrAt_mono (by assumption) ?vmq64; (case vmq64 => intro p9q64 h9q64; k_extra "mine in"))) | fail)
  k_with "call ref" => (first | ((k_here; (with_reducible show wpAny _ _ (call (Value.ref 229) [Value.ref _]) _ _ _); k_dflt (refine' ct_useK ?k1q65 ?k2q65 ?k3q65 ?k4q65 ?k5q65 ?kKq65 (seen_ct _ ?hVq65 ?hAq65) seen_cps ?kdq65 ?kuq65 ?_; (case k4q65 => k_asm); (case hVq65 => k_extra "mine vec"); (case hAq65 => k_extra "mine attr"); (case k1q65 => k_asm); (case k2q65 => k_asm); (case k3q65 => k_asm); (case k5q65 => k_asm); (case kKq65 => first | exact rfl | assumption); (case kdq65 => ktr_room); (case kuq65 => ktr_units)); k_extra "mine seen")) | fail)
  trivial

theorem memL {p : Addr × Obj} {l r : List (Addr × Obj)} (h : List.Mem p l) : List.Mem p (l ++ r) := List.mem_append_left r h
theorem memR {p : Addr × Obj} {l r : List (Addr × Obj)} (h : List.Mem p r) : List.Mem p (l ++ r) := List.mem_append_right l h
theorem lines28 : True := by
  k_with "own k_mem" => (first | (first | with_reducible exact List.Mem.head _ | ((fail_if_success (with_reducible refine List.Mem.tail _ ?_)); first | with_reducible_and_instances assumption | (with_reducible refine memL ?_; k_mem) | (with_reducible refine memR ?_; k_mem))) | fail)
  k_with "mine class" => (first | ((k_dflt (refine' call_cls ?k1q67 ?k2q67 ?k3q67 ?k4q67 ?k5q67 ?k6q67 ?_; (case k1q67 => k_asm); (case k2q67 => k_asm); (case k3q67 => k_asm); (case k4q67 => k_is); (case k5q67 => k_is); (case k6q67 => k_is); k_whole; intro x'q67 d'q67 h'q67 F'q67 N'q67 l1q67 l2q67; (try k_lt l1q67); (try k_lt2 l2q67); (try k_sweep)); k_dflt (refine' code_def ?k1q67 ?k2q67 ?k3q67 ?k4q67 ?k5q67 ?kAq67 ?kFq67 ?kKq67 ?k6q67 ?k7q67 ?k8q67 ?k9q67 ?kBq67 ?_ ?c2q67 ?c3q67 ?c4q67 ?c5q67; (case kAq67 => exact rfl); (case kFq67 => exact rfl); (case kKq67 => assumption); (case k1q67 => k_asm); (case k2q67 => k_asm); (case k3q67 => k_asm); (case k4q67 => k_asm); (case k5q67 => k_asm); (case k6q67 => k_is); (case k7q67 => k_is); (case k8q67 => first | ktr_room | (simp only [depth_under_make, depth_under_kw]; ktr_room)); (case k9q67 => first | exact BindsTo.of_eq rfl | exact binds_K (by k_in) rfl (by k_is) rfl rfl rfl); (case c5q67 => decide); (case kBq67 => exact locs rfl); (case c2q67 => exact rfl); (case c3q67 => exact rfl); (case c4q67 => exact rfl); k_whole; intro g'q67 L'q67 h'q67 FG'q67 F'q67 N'q67 B'q67 X'q67 T'q67; (try dsimp only); (try k_lift B'q67); (try k_fold)))) | fail)
  k_with "mine allLt" => (first | (first | assumption | exact (And.right (by assumption)) | exact (And.right (And.right (by assumption))) | exact (And.right (And.right (And.right (by assumption)))) | exact (And.right (And.right (And.right (And.right (by assumption))))) | exact (And.right (And.right (And.right (And.right (And.right (by assumption)))))) | exact (And.right (And.right (And.right (And.right (And.right (And.right (by assumption))))))) | exact (And.right (And.right (And.right (And.right (And.right (And.right (And.right (by assumption)))))))) | exact (And.right (And.right (And.right (And.right (And.right (And.right (And.right (And.right (by assumption))))))))) | (refine allLt_of ?_; assumption)) | fail)
  trivial


/-- the dict of a vector -/
abbrev vecD (P : Params) (t0 t1 t2 t3 t4 tk : Tok) (kind : String) (iv av : Value) : Obj :=
  dictOf [⟨PyData.keyHash P "kind", .str "kind" t0, .str (Str.ofString kind) tk⟩, ⟨PyData.keyHash P "items", .str "items" t1, iv⟩, ⟨PyData.keyHash P "attrs", .str "attrs" t2, av⟩, ⟨PyData.keyHash P "shared", .str "shared" t3, .bool false⟩, ⟨PyData.keyHash P "loose", .str "loose" t4, .bool false⟩] 5

/-- a vector is made -/
def MakePost (P : Params) (kind : String) (iv av : Value) (news : List (Addr × Obj)) (r : Value) (nw : List (Addr × Obj)) : Prop :=
  ∃ (x d : Addr) (t0 t1 t2 t3 t4 tk : Tok), r = .ref x ∧ AllLt d news ∧ (@LT.lt Nat _ d x) ∧ nw = (x, instObj 106 d) :: (d, dictOf [⟨PyData.keyHash P "kind", .str "kind" t0, .str (Str.ofString kind) tk⟩, ⟨PyData.keyHash P "items", .str "items" t1, iv⟩, ⟨PyData.keyHash P "attrs", .str "attrs" t2, av⟩, ⟨PyData.keyHash P "shared", .str "shared" t3, .bool false⟩, ⟨PyData.keyHash P "loose", .str "loose" t4, .bool false⟩] 5) :: news
theorem make_post {P : Params} {kind : String} {iv av : Value} {news : List (Addr × Obj)} {x d : Addr} {t0 t1 t2 t3 t4 tk : Tok} (l1 : AllLt d news) (l2 : @LT.lt Nat _ d x) : MakePost P kind iv av news (.ref x) ((x, instObj 106 d) :: (d, dictOf [⟨PyData.keyHash P "kind", .str "kind" t0, .str (Str.ofString kind) tk⟩, ⟨PyData.keyHash P "items", .str "items" t1, iv⟩, ⟨PyData.keyHash P "attrs", .str "attrs" t2, av⟩, ⟨PyData.keyHash P "shared", .str "shared" t3, .bool false⟩, ⟨PyData.keyHash P "loose", .str "loose" t4, .bool false⟩] 5) :: news) := ⟨x, d, t0, t1, t2, t3, t4, tk, rfl, l1, l2, rfl⟩

set_option maxHeartbeats 16000000 in
theorem make2_ct (w : World) {kind : String} {tk : Tok} {iv : Value} {news : List (Addr × Obj)} :
    Ct w 106 [.str (Str.ofString kind) tk, iv] 3 news (MakePost w.params kind iv .none news) := by
  unfold Ct
  k_fill
  intro loose mean mg mb dp un gd cn cs a ccd cl outer A₀ base h₀ L m s Q E B F X N T hkd hd hu hret
  k_extra "mine class"
  k_extra "mine steps"
  exact hret _ _ _ _ (by k_asm) (by k_asm) (make_post (by k_extra "mine allLt") (by first | assumption | omega))

set_option maxHeartbeats 16000000 in
theorem make3_ct (w : World) {kind : String} {tk : Tok} {iv av : Value} {news : List (Addr × Obj)} :
    Ct w 106 [.str (Str.ofString kind) tk, iv, av] 3 news (MakePost w.params kind iv av news) := by
  unfold Ct
  k_fill
  intro loose mean mg mb dp un gd cn cs a ccd cl outer A₀ base h₀ L m s Q E B F X N T hkd hd hu hret
  k_extra "mine class"
  k_extra "mine steps"
  exact hret _ _ _ _ (by k_asm) (by k_asm) (make_post (by k_extra "mine allLt") (by first | assumption | omega))

theorem made_cps {P : Params} {kind : String} {iv av : Value} {news : List (Addr × Obj)} : ∀ R : Value → List (Addr × Obj) → Prop, (∀ (x d : Addr) (t0 t1 t2 t3 t4 tk : Tok), AllLt d news → (@LT.lt Nat _ d x) → R (.ref x) ((x, instObj 106 d) :: (d, dictOf [⟨PyData.keyHash P "kind", .str "kind" t0, .str (Str.ofString kind) tk⟩, ⟨PyData.keyHash P "items", .str "items" t1, iv⟩, ⟨PyData.keyHash P "attrs", .str "attrs" t2, av⟩, ⟨PyData.keyHash P "shared", .str "shared" t3, .bool false⟩, ⟨PyData.keyHash P "loose", .str "loose" t4, .bool false⟩] 5) :: news)) → ∀ r nw, MakePost P kind iv av news r nw → R r nw := by
  rintro R k r nw ⟨x, d, t0, t1, t2, t3, t4, tk, rfl, l1, l2, rfl⟩; exact k x d t0 t1 t2 t3 t4 tk l1 l2
theorem lines29 : True := by
  k_with "mine made" => (first | ((intro x'q69 d'q69 t0'q69 t1'q69 t2'q69 t3'q69 t4'q69 tk9'q69 l1q69 l2q69 h'q69 tk'q69 F'q69 N'q69; (try simp only [AllLt, and_true] at l1q69); (try dsimp only); (try k_sweep))) | fail)
  k_with "call ref" => (first | ((k_here; (with_reducible show wpAny _ _ (call (Value.ref 106) [Value.str _ _, _]) _ _ _); k_dflt (refine' ct_useK ?k1q70 ?k2q70 ?k3q70 ?k4q70 ?k5q70 ?kKq70 (make2_ct _) made_cps ?kdq70 ?kuq70 ?_; (case k4q70 => k_asm); (case k1q70 => k_asm); (case k2q70 => k_asm); (case k3q70 => k_asm); (case k5q70 => k_asm); (case kKq70 => first | exact rfl | assumption); (case kdq70 => ktr_room); (case kuq70 => ktr_units)); k_extra "mine made")) | fail)
  k_with "call ref" => (first | ((k_here; (with_reducible show wpAny _ _ (call (Value.ref 106) [Value.str _ _, _, _]) _ _ _); k_dflt (refine' ct_useK ?k1q71 ?k2q71 ?k3q71 ?k4q71 ?k5q71 ?kKq71 (make3_ct _) made_cps ?kdq71 ?kuq71 ?_; (case k4q71 => k_asm); (case k1q71 => k_asm); (case k2q71 => k_asm); (case k3q71 => k_asm); (case k5q71 => k_asm); (case kKq71 => first | exact rfl | assumption); (case kdq71 => ktr_room); (case kuq71 => ktr_units)); k_extra "mine made")) | fail)
  trivial


/-- a copy of a list, in a vector of its own -/
def ChrPost (P : Params) (vs : List Value) (news : List (Addr × Obj)) (r : Value) (nw : List (Addr × Obj)) : Prop :=
  ∃ (x d i : Addr) (c : Nat) (t0 t1 t2 t3 t4 tk : Tok), r = .ref x ∧ AllLt i news ∧ (@LT.lt Nat _ i d) ∧ (@LT.lt Nat _ d x) ∧ nw = (x, instObj 106 d) :: (d, dictOf [⟨PyData.keyHash P "kind", .str "kind" t0, .str "character" tk⟩, ⟨PyData.keyHash P "items", .str "items" t1, .ref i⟩, ⟨PyData.keyHash P "attrs", .str "attrs" t2, .none⟩, ⟨PyData.keyHash P "shared", .str "shared" t3, .bool false⟩, ⟨PyData.keyHash P "loose", .str "loose" t4, .bool false⟩] 5) ::
    (i, listOf vs.toArray c) :: news
theorem chr_post {P : Params} {vs : List Value} {news : List (Addr × Obj)} {x d i : Addr} {c : Nat} {t0 t1 t2 t3 t4 tk : Tok} (l1 : AllLt i news) (l2 : @LT.lt Nat _ i d) (l3 : @LT.lt Nat _ d x) : ChrPost P vs news (.ref x) ((x, instObj 106 d) :: (d, dictOf [⟨PyData.keyHash P "kind", .str "kind" t0, .str "character" tk⟩, ⟨PyData.keyHash P "items", .str "items" t1, (.ref i)⟩, ⟨PyData.keyHash P "attrs", .str "attrs" t2, .none⟩, ⟨PyData.keyHash P "shared", .str "shared" t3, .bool false⟩, ⟨PyData.keyHash P "loose", .str "loose" t4, .bool false⟩] 5) :: (i, listOf vs.toArray c) :: news) := ⟨x, d, i, c, t0, t1, t2, t3, t4, tk, rfl, l1, l2, l3, rfl⟩

set_option maxHeartbeats 16000000 in
theorem chr_ct (w : World) {i : Addr} {vs : List Value} {n : Nat} {news : List (Addr × Obj)} (hi : (i, listOf vs.toArray n) ∈ news) (hl : vs.length ≤ 9) :
    Ct w 138 [.ref i] 4 news (ChrPost w.params vs news) := by
  unfold Ct
  k_fill
  intro loose mean mg mb dp un gd cn cs a ccd cl outer A₀ base h₀ L m s Q E B F X N T hkd hd hu hret
  k_extra "mine enter"
  k_extra "mine steps"
  exact hret _ _ _ _ (by k_asm) (by k_asm) (chr_post (by k_extra "mine allLt") (by omega) (by omega))

theorem chr_cps {P : Params} {vs : List Value} {news : List (Addr × Obj)} : ∀ R : Value → List (Addr × Obj) → Prop, (∀ (x d i : Addr) (c : Nat) (t0 t1 t2 t3 t4 tk : Tok), AllLt i news → (@LT.lt Nat _ i d) → (@LT.lt Nat _ d x) → R (.ref x) ((x, instObj 106 d) :: (d, dictOf [⟨PyData.keyHash P "kind", .str "kind" t0, .str "character" tk⟩, ⟨PyData.keyHash P "items", .str "items" t1, (.ref i)⟩, ⟨PyData.keyHash P "attrs", .str "attrs" t2, .none⟩, ⟨PyData.keyHash P "shared", .str "shared" t3, .bool false⟩, ⟨PyData.keyHash P "loose", .str "loose" t4, .bool false⟩] 5) :: (i, listOf vs.toArray c) :: news)) → ∀ r nw, ChrPost P vs news r nw → R r nw := by
  rintro R k r nw ⟨x, d, i, c, t0, t1, t2, t3, t4, tk, rfl, l1, l2, l3, rfl⟩; exact k x d i c t0 t1 t2 t3 t4 tk l1 l2 l3
theorem lines30 : True := by
  k_with "mine chr" => (first | ((intro x'q72 d'q72 i'q72 c'q72 t0'q72 t1'q72 t2'q72 t3'q72 t4'q72 tk9'q72 l1q72 l2q72 l3q72 h'q72 tk'q72 F'q72 N'q72; (try simp only [AllLt, and_true] at l1q72); (try dsimp only); (try k_sweep))) | fail)
  k_with "call ref" => (first | ((k_here; (with_reducible show wpAny _ _ (call (Value.ref 138) [Value.ref _]) _ _ _); k_dflt (refine' ct_useK ?k1q73 ?k2q73 ?k3q73 ?k4q73 ?k5q73 ?kKq73 (chr_ct _ ?hiq73 ?hlq73) chr_cps ?kdq73 ?kuq73 ?_; (case k4q73 => k_asm); (case hiq73 => k_mem); (case hlq73 => first | assumption | exact Nat.le_of_ble_eq_true rfl | (simp only [List.length_append, List.length_cons, List.length_nil]; omega)); (case k1q73 => k_asm); (case k2q73 => k_asm); (case k3q73 => k_asm); (case k5q73 => k_asm); (case kKq73 => first | exact rfl | assumption); (case kdq73 => ktr_room); (case kuq73 => ktr_units)); k_extra "mine chr")) | fail)
  trivial

def clsOf (am : Option (List (Str × List Str))) : List Str := (rowAt (am.getD []) "class").getD []
def clsDue (cs : List Str) : List Str := if cs.any (· == "AsIs") then cs else ("AsIs" : Str) :: cs

def AsIsPost (w : World) (kind : String) (vs : List Value) (tl : List (Addr × Obj)) (am : Option (List (Str × List Str))) (news : List (Addr × Obj)) (r : Value) (nw : List (Addr × Obj)) : Prop :=
  ∃ (x : Addr) (av : Value) (tl' : List (Addr × Obj)), r = .ref x ∧ nw = tl' ++ news ∧ VecAt w.params nw x kind av vs tl ∧ AttrAt w nw av (some (rowPut (am.getD []) "class" (clsDue (clsOf am))))

theorem my_dict_of {w : World} {A : Around} {E : Value → Shared → Prop} {s : Shared} {h₀ : Heap} {L src : Addr} {m : Str → Option Value} {news : List (Addr × Obj)} {os : Obj} {kvs : List (Str × Value)} {Q : Value → Shared → Prop} (F : Fr h₀ L s.heap m) (N : News h₀ L s.heap news) (hbig : h₀.NoLimit) (hm : (src, os) ∈ news) (hd : os.IsDictOf (PySem.strKind prg w) kvs) (lo : (src == sysModules) = false) (hsz : kvs.length ≤ sizeLine)
    (k : ∀ (d : Addr) h' o, Fr h₀ L h' m → News h₀ L h' ((d, o) :: news) → (∀ p ∈ news, p.1 < d) → (d == sysModules) = false → o.IsDictOf (PySem.strKind prg w) kvs → Q (.ref d) { s with heap := h' }) :
    wpAny (model prg w) A (call (.type "dict") [.ref src]) Q E s := by
  refine kt_call_dict lo (Heap.dictOf_iff.mpr ⟨os, (N _ hm).1, hd⟩) hsz fun h' hm' hs => ?_
  obtain ⟨o', ho', hd'⟩ := Heap.dictOf_iff.mp hm'
  have N1 := News.push F N { cls := .type "dict", data := .dict #[] }
  exact k _ h' o' ((F.push _).change hs (N1 _ (.head _)).2.1 (N1.fresh (.head _))) (N1.setHead N.apart hs ho') (fun p hp => Heap.lt_size (N p hp).1) (F.notModules (modules_low hbig)) hd'

theorem lines31 : True := by
  k_with "call type:dict" => (first | ((k_here; (with_reducible show wpAny _ _ (call (Value.type "dict") [Value.ref _]) _ _ _); k_dflt (refine' my_dict_of ?k1q74 ?k2q74 ?k3q74 ?k4q74 ?k5q74 ?k6q74 ?k7q74 ?_; (case k1q74 => k_asm); (case k2q74 => k_asm); (case k3q74 => exact Top.nolimit (by k_asm)); (case k4q74 => k_mem); (case k5q74 => assumption); (case k6q74 => assumption); (case k7q74 => rw [sizeLine_eq]; omega); k_whole); intro d'q74 h'q74 o'q74 F'q74 N'q74 l1q74 lo'q74 hd'q74; (try k_lt l1q74))) | fail)
  k_with "getMethod ref" => (first | ((k_here; (with_reducible show wpAny _ _ (getMethod (Value.ref _) (Str.ofString "get") _) _ _ _); k_dflt (refine' kdg_method (knd := PySem.strKind _ _) ?k1q75 ?k2q75 ?k3q75 ?_; (case k1q75 => k_asm); (case k2q75 => k_mem); (case k3q75 => assumption); k_whole))) | fail)
  k_with "call builtin:dict.get" => (first | ((k_here; (with_reducible rename valueAt _ _ = _ => hva9q76); k_dflt (refine' kdg_get1 (knd := PySem.strKind _ _) ?k1q76 ?k2q76 ?k3q76 ?k4q76 (strKind_is _ _ _ _) _ hva9q76 ?_; (case k1q76 => k_asm); (case k2q76 => k_mem); (case k3q76 => assumption); (case k4q76 => assumption); k_whole); (try dsimp only [Option.getD]))) | fail)
  k_with "setItem ref str" => (first | ((k_here; k_dflt (refine' kda_set (knd := PySem.strKind _ _) ?Fq77 ?Nq77 ?Uq77 ?dq77 (strKind_is _ _ _ _) ?zq77 ?_; (case Fq77 => k_asm); (case Nq77 => k_asm); (case Uq77 => k_updF); (case dq77 => assumption); (case zq77 => rw [sizeLine_eq]; first | omega | exact Nat.le_of_ble_eq_true (by with_unfolding_all rfl)); k_whole); intro h'q77 o'q77 F'q77 N'q77 hd'q77; (try dsimp only at N'q77))) | fail)
  trivial


theorem my_add {w : World} {A : Around} {E : Value → Shared → Prop} {s : Shared} {h₀ : Heap} {L l b : Addr} {m : Str → Option Value} {news : List (Addr × Obj)} {xs ys : List Value} {n n' : Nat} {Q : Value → Shared → Prop} (F : Fr h₀ L s.heap m) (N : News h₀ L s.heap news) (ha : (l, listOf xs.toArray n) ∈ news) (hb : (b, listOf ys.toArray n') ∈ news) (hsz : xs.length + ys.length ≤ sizeLine)
    (k : ∀ (D : Addr) h', Fr h₀ L h' m → News h₀ L h' ((D, listOf (xs ++ ys).toArray 0) :: news) → (∀ p ∈ news, p.1 < D) → Q (.ref D) { s with heap := h' }) :
    wpAny (model prg w) A (binaryOp .Add (.ref l) (.ref b)) Q E s :=
  add_lists (hsz := hsz) F N (News.isList N ha) (News.isList N hb) fun h' F' N' => k _ h' F' N' fun p hp => Heap.lt_size (N p hp).1
theorem lines32 : True := by
  k_with "binaryOp Add ref ref" => (first | ((k_here; k_dflt (refine' my_add ?Fq78 ?Nq78 ?aq78 ?bq78 ?zq78 ?_; (case Fq78 => k_asm); (case Nq78 => k_asm); (case aq78 => k_mem); (case bq78 => k_mem); (case zq78 => rw [sizeLine_eq]; simp only [List.length_cons, List.length_nil]; omega); k_whole); intro D'q78 h'q78 F'q78 N'q78 l1q78; (try dsimp only [List.cons_append, List.nil_append] at N'q78); (try k_lt l1q78); (try k_sweep))) | fail)
  trivial


/-- a vector copied -/
def CpPost (w : World) (kind : String) (vs : List Value) (av : Value) (kvs : Option (List (Str × Value))) (news : List (Addr × Obj)) (r : Value) (nw : List (Addr × Obj)) : Prop :=
  ∃ (x d i : Addr) (c : Nat) (t0 t1 t2 t3 t4 tk : Tok), r = .ref x ∧ (@LT.lt Nat _ i d) ∧ (@LT.lt Nat _ d x) ∧
    match kvs with
    | none => AllLt i news ∧ nw = (x, instObj 106 d) :: (d, dictOf [⟨PyData.keyHash w.params "kind", .str "kind" t0, .str (Str.ofString kind) tk⟩, ⟨PyData.keyHash w.params "items", .str "items" t1, .ref i⟩, ⟨PyData.keyHash w.params "attrs", .str "attrs" t2, .none⟩, ⟨PyData.keyHash w.params "shared", .str "shared" t3, .bool false⟩, ⟨PyData.keyHash w.params "loose", .str "loose" t4, .bool false⟩] 5) ::
      (i, listOf vs.toArray c) :: news
    | some kvs => ∃ (ad : Addr) (oa : Obj), oa.IsDictOf (PySem.strKind prg w) kvs ∧ (ad == sysModules) = false ∧ AllLt ad news ∧ (@LT.lt Nat _ ad i) ∧ nw = (x, instObj 106 d) :: (d, dictOf [⟨PyData.keyHash w.params "kind", .str "kind" t0, .str (Str.ofString kind) tk⟩, ⟨PyData.keyHash w.params "items", .str "items" t1, .ref i⟩, ⟨PyData.keyHash w.params "attrs", .str "attrs" t2, .ref ad⟩, ⟨PyData.keyHash w.params "shared", .str "shared" t3, .bool false⟩, ⟨PyData.keyHash w.params "loose", .str "loose" t4, .bool false⟩] 5) ::
      (i, listOf vs.toArray c) :: (ad, oa) :: news
theorem copy_none_post {w : World} {kind : String} {vs : List Value} {av : Value} {news : List (Addr × Obj)} {x d i : Addr} {c : Nat} {t0 t1 t2 t3 t4 tk : Tok} (l2 : @LT.lt Nat _ i d) (l3 : @LT.lt Nat _ d x) (l1 : AllLt i news) : CpPost w kind vs av none news (.ref x) ((x, instObj 106 d) :: (d, dictOf [⟨PyData.keyHash w.params "kind", .str "kind" t0, .str (Str.ofString kind) tk⟩, ⟨PyData.keyHash w.params "items", .str "items" t1, (.ref i)⟩, ⟨PyData.keyHash w.params "attrs", .str "attrs" t2, .none⟩, ⟨PyData.keyHash w.params "shared", .str "shared" t3, .bool false⟩, ⟨PyData.keyHash w.params "loose", .str "loose" t4, .bool false⟩] 5) :: (i, listOf vs.toArray c) :: news) := ⟨x, d, i, c, t0, t1, t2, t3, t4, tk, rfl, l2, l3, l1, rfl⟩
theorem copy_some_post {w : World} {kind : String} {vs : List Value} {av : Value} {kvs : List (Str × Value)} {news : List (Addr × Obj)} {x d i : Addr} {c : Nat} {t0 t1 t2 t3 t4 tk : Tok} {ad : Addr} {oa : Obj} (l2 : @LT.lt Nat _ i d) (l3 : @LT.lt Nat _ d x) (hd : oa.IsDictOf (PySem.strKind prg w) kvs) (lo : (ad == sysModules) = false) (l1 : AllLt ad news) (l4 : @LT.lt Nat _ ad i) : CpPost w kind vs av (some kvs) news (.ref x) ((x, instObj 106 d) :: (d, dictOf [⟨PyData.keyHash w.params "kind", .str "kind" t0, .str (Str.ofString kind) tk⟩, ⟨PyData.keyHash w.params "items", .str "items" t1, (.ref i)⟩, ⟨PyData.keyHash w.params "attrs", .str "attrs" t2, (.ref ad)⟩, ⟨PyData.keyHash w.params "shared", .str "shared" t3, .bool false⟩, ⟨PyData.keyHash w.params "loose", .str "loose" t4, .bool false⟩] 5) :: (i, listOf vs.toArray c) :: (ad, oa) :: news) := ⟨x, d, i, c, t0, t1, t2, t3, t4, tk, rfl, l2, l3, ad, oa, hd, lo, l1, l4, rfl⟩

set_option maxHeartbeats 16000000 in
theorem copy_none (w : World) {x : Addr} {kind : String} {vs : List Value} {tl news : List (Addr × Obj)} (hV : VecAt w.params news x kind .none vs tl) :
    Ct w 103 [.ref x] 5 news (CpPost w kind vs .none none news) := by
  obtain ⟨⟨hK, hl, hE⟩, d, i, m', t0, t1, t2, t3, t4, tk, hx, hdd, hii, hs⟩ := hV
  unfold Ct
  k_fill
  intro loose mean mg mb dp un gd cn cs a ccd cl outer A₀ base h₀ L m s Q E B F X N T hkd hd hu hret
  k_extra "mine enter"
  k_extra "mine steps"
  exact hret _ _ _ _ (by k_asm) (by k_asm) (copy_none_post (by omega) (by omega) (by k_extra "mine allLt"))

set_option maxHeartbeats 16000000 in
theorem copy_some (w : World) {x ad : Addr} {kind : String} {vs : List Value} {tl news : List (Addr × Obj)} {oa : Obj} {kvs : List (Str × Value)} (hV : VecAt w.params news x kind (.ref ad) vs tl)
    (hAt : (ad, oa) ∈ news) (hIs : oa.IsDictOf (PySem.strKind prg w) kvs) (hLo : (ad == sysModules) = false) (hkl : kvs.length ≤ 8) :
    Ct w 103 [.ref x] 5 news (CpPost w kind vs (.ref ad) (some kvs) news) := by
  obtain ⟨⟨hK, hl, hE⟩, d, i, m', t0, t1, t2, t3, t4, tk, hx, hdd, hii, hs⟩ := hV
  unfold Ct
  k_fill
  intro loose mean mg mb dp un gd cn cs a ccd cl outer A₀ base h₀ L m s Q E B F X N T hkd hd hu hret
  k_extra "mine enter"
  k_extra "mine steps"
  exact hret _ _ _ _ (by k_asm) (by k_asm) (copy_some_post (by omega) (by omega) (by assumption) (by assumption) (by k_extra "mine allLt") (by omega))

theorem copy_none_cps {w : World} {kind : String} {vs : List Value} {av : Value} {news : List (Addr × Obj)} : ∀ R : Value → List (Addr × Obj) → Prop, (∀ (x d i : Addr) (c : Nat) (t0 t1 t2 t3 t4 tk : Tok), (@LT.lt Nat _ i d) → (@LT.lt Nat _ d x) → AllLt i news → R (.ref x) ((x, instObj 106 d) :: (d, dictOf [⟨PyData.keyHash w.params "kind", .str "kind" t0, .str (Str.ofString kind) tk⟩, ⟨PyData.keyHash w.params "items", .str "items" t1, (.ref i)⟩, ⟨PyData.keyHash w.params "attrs", .str "attrs" t2, .none⟩, ⟨PyData.keyHash w.params "shared", .str "shared" t3, .bool false⟩, ⟨PyData.keyHash w.params "loose", .str "loose" t4, .bool false⟩] 5) :: (i, listOf vs.toArray c) :: news)) → ∀ r nw, CpPost w kind vs av none news r nw → R r nw := by
  rintro R k r nw ⟨x, d, i, c, t0, t1, t2, t3, t4, tk, rfl, l2, l3, l1, rfl⟩; exact k x d i c t0 t1 t2 t3 t4 tk l2 l3 l1
theorem copy_some_cps {w : World} {kind : String} {vs : List Value} {av : Value} {kvs : List (Str × Value)} {news : List (Addr × Obj)} : ∀ R : Value → List (Addr × Obj) → Prop, (∀ (x d i : Addr) (c : Nat) (t0 t1 t2 t3 t4 tk : Tok) (ad : Addr) (oa : Obj), (@LT.lt Nat _ i d) → (@LT.lt Nat _ d x) → oa.IsDictOf (PySem.strKind prg w) kvs → (ad == sysModules) = false → AllLt ad news → (@LT.lt Nat _ ad i) → R (.ref x) ((x, instObj 106 d) :: (d, dictOf [⟨PyData.keyHash w.params "kind", .str "kind" t0, .str (Str.ofString kind) tk⟩, ⟨PyData.keyHash w.params "items", .str "items" t1, (.ref i)⟩, ⟨PyData.keyHash w.params "attrs", .str "attrs" t2, (.ref ad)⟩, ⟨PyData.keyHash w.params "shared", .str "shared" t3, .bool false⟩, ⟨PyData.keyHash w.params "loose", .str "loose" t4, .bool false⟩] 5) :: (i, listOf vs.toArray c) :: (ad, oa) :: news)) → ∀ r nw, CpPost w kind vs av (some kvs) news r nw → R r nw := by
  rintro R k r nw ⟨x, d, i, c, t0, t1, t2, t3, t4, tk, rfl, l2, l3, ad, oa, hd, lo, l1, l4, rfl⟩; exact k x d i c t0 t1 t2 t3 t4 tk ad oa l2 l3 hd lo l1 l4
theorem lines33 : True := by
  k_with "mine sysv" => (first | ((exact ⟨by assumption, _, _, _, _, _, _, _, _, _, by k_mem, by k_mem, by k_mem, by assumption⟩)) | fail)
  k_with "call ref" => (first | ((k_here; (with_reducible show wpAny _ _ (call (Value.ref 103) ([Value.ref _] ++ [])) _ _ _); (show wpAny _ _ (call (Value.ref 103) [Value.ref _]) _ _ _); (with_reducible rename VecAt _ _ _ _ _ _ _ => hV9q80); k_dflt (refine' ct_useK ?k1q80 ?k2q80 ?k3q80 ?k4q80 ?k5q80 ?kKq80 (copy_none _ ?hVq80) copy_none_cps ?kdq80 ?kuq80 ?_; (case k4q80 => k_asm); (case hVq80 => k_extra "mine vec"); (case k1q80 => k_asm); (case k2q80 => k_asm); (case k3q80 => k_asm); (case k5q80 => k_asm); (case kKq80 => first | exact rfl | assumption); (case kdq80 => ktr_room); (case kuq80 => ktr_units)); (intro x'q80 d'q80 i'q80 c'q80 t0'q80 t1'q80 t2'q80 t3'q80 t4'q80 tk9'q80 l2q80 l3q80 l1q80 h'q80 tk'q80 F'q80 N'q80; (try simp only [AllLt, and_true] at l1q80); (try dsimp only); (try k_sweep)))) | fail)
  k_with "call ref" => (first | ((k_here; (with_reducible show wpAny _ _ (call (Value.ref 103) ([Value.ref _] ++ [])) _ _ _); (show wpAny _ _ (call (Value.ref 103) [Value.ref _]) _ _ _); (with_reducible rename VecAt _ _ _ (Value.ref _) _ _ _ => hV9q81); (with_reducible rename Obj.IsDictOf _ _ _ => hI9q81); k_dflt (refine' ct_useK ?k1q81 ?k2q81 ?k3q81 ?k4q81 ?k5q81 ?kKq81 (copy_some _ ?hVq81 ?hAtq81 hI9q81 ?hLoq81 ?hklq81) copy_some_cps ?kdq81 ?kuq81 ?_; (case k4q81 => k_asm); (case hVq81 => k_extra "mine vec"); (case hAtq81 => k_mem); (case hLoq81 => assumption); (case hklq81 => omega); (case k1q81 => k_asm); (case k2q81 => k_asm); (case k3q81 => k_asm); (case k5q81 => k_asm); (case kKq81 => first | exact rfl | assumption); (case kdq81 => ktr_room); (case kuq81 => ktr_units)); (intro x'q81 d'q81 i'q81 c'q81 t0'q81 t1'q81 t2'q81 t3'q81 t4'q81 tk9'q81 ad'q81 oa'q81 l2q81 l3q81 hd'q81 lo'q81 l1q81 l4q81 h'q81 tk'q81 F'q81 N'q81; (try simp only [AllLt, and_true] at l1q81); (try dsimp only); (try k_sweep)))) | fail)
  trivial

theorem asis_end {P : Value → Prop} {w : World} {h₀ h' : Heap} {L x d i ad cx : Addr} {kind : String} {vs : List Value} {tl news all : List (Addr × Obj)} {oa : Obj} {kvs : List (Str × Value)} {rows : List (Str × List Str)} {cs : List Str} {m : Nat} {t0 t1 t2 t3 t4 tk : Tok}
    (N : News h₀ L h' all) (hsub : ∀ p ∈ news, p ∈ all) (hk : KindOk kind ∧ vs.length ≤ 5 ∧ ∀ v ∈ vs, EntAt tl kind v) (hs : ∀ p ∈ tl, p ∈ news) (hx : (x, instObj 106 d) ∈ all)
    (hd : (d, dictOf [⟨PyData.keyHash w.params "kind", .str "kind" t0, .str (Str.ofString kind) tk⟩, ⟨PyData.keyHash w.params "items", .str "items" t1, .ref i⟩, ⟨PyData.keyHash w.params "attrs", .str "attrs" t2, .ref ad⟩, ⟨PyData.keyHash w.params "shared", .str "shared" t3, .bool false⟩, ⟨PyData.keyHash w.params "loose", .str "loose" t4, .bool false⟩] 5) ∈ all)
    (hi : (i, listOf vs.toArray m) ∈ all) (ha : (ad, oa) ∈ all) (hIs : oa.IsDictOf (PySem.strKind prg w) (stored kvs "class" (.ref cx))) (lo : (ad == sysModules) = false) (rel : KvR (ChrAt w.params news) kvs rows) (hr : rows.length ≤ 7) (hc : ChrAt w.params all (.ref cx) cs)
    (k : ∀ tl', News h₀ L h' (tl' ++ news) → VecAt w.params (tl' ++ news) x kind (.ref ad) vs tl → AttrAt w (tl' ++ news) (.ref ad) (some (rowPut rows "class" cs)) → P (.ref x)) : P (.ref x) := by
  have up : ∀ p ∈ all, p ∈ all ++ news := fun p hp => List.mem_append.mpr (.inl hp)
  refine k all (cb_drop N fun p hp => (List.mem_append.mp hp).elim id (hsub p)) ⟨hk, d, i, m, t0, t1, t2, t3, t4, tk, up _ hx, up _ hd, up _ hi, fun p hp => List.mem_append.mpr (.inr (hs p hp))⟩ ⟨ad, oa, _, rfl, up _ ha, hIs, lo, ?_, ?_⟩
  · exact (rel.mono fun _ _ r => chrAt_mono r fun p hp => List.mem_append.mpr (.inr hp)).put (chrAt_mono hc up)
  · have := rowPut_len (rows := rows) (k := "class") (ss := cs)
    omega

theorem asis_post {w : World} {kind : String} {vs : List Value} {tl : List (Addr × Obj)} {am : Option (List (Str × List Str))} {news : List (Addr × Obj)} {x : Addr} {av : Value} {tl' : List (Addr × Obj)} (hV : VecAt w.params (tl' ++ news) x kind av vs tl)
    (hA : AttrAt w (tl' ++ news) av (some (rowPut (am.getD []) "class" (clsDue (clsOf am))))) : AsIsPost w kind vs tl am news (.ref x) (tl' ++ news) := ⟨x, av, tl', rfl, rfl, hV, hA⟩

set_option maxHeartbeats 16000000 in
theorem asis_none (w : World) {x al tp : Addr} {kind : String} {vs : List Value} {n n' : Nat} {tl news : List (Addr × Obj)} (hV : VecAt w.params news x kind .none vs tl) :
    Ct w 174 [.none, .ref al, .none] 6 ((al, listOf [.ref tp].toArray n) :: (tp, ({ cls := .type "tuple", data := .seq #[.none, .ref x] n' } : Obj)) :: news) (AsIsPost w kind vs tl none news) := by
  have hV9 := hV
  obtain ⟨⟨hK, hl, hE⟩, d, i, m', t0, t1, t2, t3, t4, tk, hx, hdd, hii, hs⟩ := hV
  unfold Ct
  k_fill
  intro loose mean mg mb dp un gd cn cs a ccd cl outer A₀ base h₀ L m s Q E B F X N T hkd hd hu hret
  k_extra "mine enter"
  k_extra "mine steps"
  (with_reducible rename News h₀ L _ _ => N9)
  refine asis_end (w := w) (P := fun r => Q r _) (kvs := []) (rows := []) (cs := ["AsIs"]) N9 (fun p9 h9 => by k_extra "mine in") ⟨by assumption, by assumption, by assumption⟩ hs (by k_mem) (by k_mem) (by k_mem) (by k_mem) (by assumption) (by assumption) .nil (Nat.zero_le _) (chr_at (vs := [_]) (by k_mem) (by k_mem) (by k_mem) (.cons _ _ .nil) (by decide)) ?_
  intro tl' hN hV' hA'
  exact hret _ _ _ _ (by k_asm) hN (asis_post hV' (hA'))

set_option maxHeartbeats 16000000 in
theorem asis_nocls (w : World) {x al tp : Addr} {kind : String} {vs : List Value} {n n' : Nat} {tl news : List (Addr × Obj)} {av : Value} {rows : List (Str × List Str)} (hV : VecAt w.params news x kind av vs tl) (hA : AttrAt w news av (some rows)) (hc : rowAt rows "class" = none) (hr9 : rows.length ≤ 7) :
    Ct w 174 [.none, .ref al, .none] 6 ((al, listOf [.ref tp].toArray n) :: (tp, ({ cls := .type "tuple", data := .seq #[.none, .ref x] n' } : Obj)) :: news) (AsIsPost w kind vs tl (some rows) news) := by
  have hV9 := hV
  obtain ⟨⟨hK, hl, hE⟩, d, i, m', t0, t1, t2, t3, t4, tk, hx, hdd, hii, hs⟩ := hV
  obtain ⟨ad, oa, kvs, rfl, hR⟩ := hA
  have hva := hR.rel.at_none hc
  have hkl := hR.rel.len
  obtain ⟨hAt, hIs, hLo, hRel, hFew⟩ := hR
  unfold Ct
  k_fill
  intro loose mean mg mb dp un gd cn cs a ccd cl outer A₀ base h₀ L m s Q E B F X N T hkd hd hu hret
  k_extra "mine enter"
  k_extra "mine steps"
  (with_reducible rename News h₀ L _ _ => N9)
  refine asis_end (w := w) (P := fun r => Q r _) (kvs := kvs) (rows := rows) (cs := ["AsIs"]) N9 (fun p9 h9 => by k_extra "mine in") ⟨by assumption, by assumption, by assumption⟩ hs (by k_mem) (by k_mem) (by k_mem) (by k_mem) (by assumption) (by assumption) hRel hr9 (chr_at (vs := [_]) (by k_mem) (by k_mem) (by k_mem) (.cons _ _ .nil) (by decide)) ?_
  intro tl' hN hV' hA'
  exact hret _ _ _ _ (by k_asm) hN (asis_post hV' (by simp only [clsOf, Option.getD_some, hc, Option.getD_none]; exact hA'))

set_option maxHeartbeats 16000000 in
theorem asis_cls (w : World) {x al tp : Addr} {kind : String} {vs : List Value} {n n' : Nat} {tl news : List (Addr × Obj)} {av : Value} {rows : List (Str × List Str)} {ss : List Str} (hV : VecAt w.params news x kind av vs tl) (hA : AttrAt w news av (some rows)) (hc : rowAt rows "class" = some ss) (hr9 : rows.length ≤ 7) (hb9 : ss.length ≤ 7) :
    Ct w 174 [.none, .ref al, .none] 6 ((al, listOf [.ref tp].toArray n) :: (tp, ({ cls := .type "tuple", data := .seq #[.none, .ref x] n' } : Obj)) :: news) (AsIsPost w kind vs tl (some rows) news) := by
  have hV9 := hV
  obtain ⟨⟨hK, hl, hE⟩, d, i, m', t0, t1, t2, t3, t4, tk, hx, hdd, hii, hs⟩ := hV
  obtain ⟨ad, oa, kvs, rfl, hR⟩ := hA
  obtain ⟨cv, hva, hcv⟩ := hR.rel.at_some hc
  have hkl := hR.rel.len
  obtain ⟨hAt, hIs, hLo, hRel, hFew⟩ := hR
  obtain ⟨cx, cd', ci, cm, cvs, c0, c1, c2, c3, c4, ck, rfl, hcx, hcd, hci, hcs, hcl⟩ := hcv
  have hcl9 : cvs.length ≤ 8 := by rw [hcs.length]; exact hcl
  unfold Ct
  k_fill
  intro loose mean mg mb dp un gd cn cs a ccd cl outer A₀ base h₀ L m s Q E B F X N T hkd hd hu hret
  k_extra "mine enter"
  k_extra "mine steps"
  · (with_reducible rename News h₀ L _ _ => N9)
    (with_reducible rename List.any ss _ = true => hany)
    refine asis_end (w := w) (P := fun r => Q r _) (kvs := kvs) (rows := rows) (cs := ss) N9 (fun p9 h9 => by k_extra "mine in") ⟨by assumption, by assumption, by assumption⟩ hs (by k_mem) (by k_mem) (by k_mem) (by k_mem) (by assumption) (by assumption) hRel hr9 (chr_at (vs := cvs) (by k_mem) (by k_mem) (by k_mem) hcs hcl) ?_
    intro tl' hN hV' hA'
    exact hret _ _ _ _ (by k_asm) hN (asis_post hV' (by simp only [clsOf, clsDue, Option.getD_some, hc, hany, if_true]; exact hA'))
  · (with_reducible rename News h₀ L _ _ => N9)
    (with_reducible rename List.any ss _ = false => hany)
    refine asis_end (w := w) (P := fun r => Q r _) (kvs := kvs) (rows := rows) (cs := "AsIs" :: ss) N9 (fun p9 h9 => by k_extra "mine in") ⟨by assumption, by assumption, by assumption⟩ hs (by k_mem) (by k_mem) (by k_mem) (by k_mem) (by assumption) (by assumption) hRel hr9 (chr_at (vs := _ :: cvs) (by k_mem) (by k_mem) (by k_mem) (.cons _ _ hcs) (by rw [List.length_cons]; omega)) ?_
    intro tl' hN hV' hA'
    exact hret _ _ _ _ (by k_asm) hN (asis_post hV' (by simp only [clsOf, clsDue, Option.getD_some, hc, hany, Bool.false_eq_true, if_false]; exact hA'))

theorem asis_ct (w : World) {x al tp : Addr} {kind : String} {vs : List Value} {n n' : Nat} {tl news : List (Addr × Obj)} {av : Value} {am : Option (List (Str × List Str))} (hV : VecAt w.params news x kind av vs tl) (hA : AttrAt w news av am) (hr : (am.getD []).length ≤ 7) (hb : (clsOf am).length ≤ 7) :
    Ct w 174 [.none, .ref al, .none] 6 ((al, listOf [.ref tp].toArray n) :: (tp, ({ cls := .type "tuple", data := .seq #[.none, .ref x] n' } : Obj)) :: news) (AsIsPost w kind vs tl am news) := by
  cases am with
  | none =>
    have e : av = .none := hA
    subst e
    exact asis_none w hV
  | some rows =>
    cases hc : rowAt rows "class" with
    | none => exact asis_nocls w hV hA hc hr
    | some ss => exact asis_cls w hV hA hc hr (by simpa [clsOf, hc] using hb)
theorem asis_cps {w : World} {kind : String} {vs : List Value} {tl : List (Addr × Obj)} {am : Option (List (Str × List Str))} {news : List (Addr × Obj)} : ∀ R : Value → List (Addr × Obj) → Prop, (∀ (x : Addr) (av : Value) (tl' : List (Addr × Obj)), VecAt w.params (tl' ++ news) x kind av vs tl → AttrAt w (tl' ++ news) av (some (rowPut (am.getD []) "class" (clsDue (clsOf am)))) → R (.ref x) (tl' ++ news)) → ∀ r nw, AsIsPost w kind vs tl am news r nw → R r nw := by
  rintro R k r nw ⟨x, av, tl', rfl, rfl, hV, hA⟩; exact k x av tl' hV hA
theorem lines34 : True := by
  k_with "call ref" => (first | ((k_here; (with_reducible show wpAny _ _ (call (Value.ref 174) [Value.none, Value.ref _, Value.none]) _ _ _); (with_reducible rename AttrAt _ _ _ _ => hA9q82); k_dflt (refine' ct_useK ?k1q82 ?k2q82 ?k3q82 ?k4q82 ?k5q82 ?kKq82 (asis_ct _ ?hVq82 ?hAq82 ?hrq82 ?hbq82) asis_cps ?kdq82 ?kuq82 ?_; (case k4q82 => k_asm); (case hVq82 => k_extra "mine vec"); (case hAq82 => k_extra "mine attr"); (case hrq82 => assumption); (case hbq82 => assumption); (case k1q82 => k_asm); (case k2q82 => k_asm); (case k3q82 => k_asm); (case k5q82 => k_asm); (case kKq82 => first | exact rfl | assumption); (case kdq82 => ktr_room); (case kuq82 => ktr_units)); (intro x'q82 av'q82 tl'q82 hV'q82 hA'q82 h'q82 tk'q82 F'q82 N'q82; refine vecAt_open hV'q82 ?_; intro d'q82 i'q82 m'q82 t0'q82 t1'q82 t2'q82 t3'q82 t4'q82 tk9'q82 hK'q82 hl'q82 hE'q82 hx'q82 hdd'q82 hii'q82 hs'q82; (try dsimp only); (try k_sweep)))) | fail)
  trivial

section
variable {w : World} {f : Addr} {args : List Value} {sz : Nat} {Post : Value → List (Addr × Obj) → Prop} {loose : List Str} {mean : ExcName → Option Value} {mg mb : Str → Option Value} {dp un : Nat} {gd : Option (List Code)} {cn : Str} {cs : Scope} {a : Addr} {ccd : Value} {cl : List (Str × Addr)} {outer : List Env} {A₀ : Around} {base h₀ : Heap} {L : Addr} {m : Str → Option Value} {news : List (Addr × Obj)} {s : Shared}
  {Q E : Value → Shared → Prop}
theorem ctS_use (B : Below A₀ base outer h₀) (F : Fr h₀ L s.heap m) (X : (hd.heap_1_39 w.params).In h₀) (N : News h₀ L s.heap news) (T : Top hd.view_1_40 loose mean mg mb h₀) (XB : (hd.heap_1_39 w.params).In base) (TB : Top hd.view_1_40 loose mean mg mb base) (D : KtsDicts (outer.filterMap (·.frame)) h₀) (hk : cs.kind = .function) (C : CtS w f args sz news Post)
    (hd : dp + sz < recursionLimit) (hu : un + 8 * sz < cLine)
    (ret : ∀ r news' h₀' h' tk', KtsTurn (outer.filterMap (·.frame)) h₀ h₀' → Fr h₀' L h' m → News h₀' L h' news' → Below A₀ base outer h₀' → (Mine.hd.heap_1_39 w.params).In h₀' → Top Mine.hd.view_1_40 loose mean mg mb h₀' → KtsDicts (outer.filterMap (·.frame)) h₀' →
      Post r news' → Q r { s with heap := h', toks := tk' }) :
    wpAny (model PySem.Challenge.rw_pq1390_01.row.prog w) (ktrTop dp un gd cn cs L a ccd cl outer) (call (.ref f) args) Q E s := C _ _ _ _ _ _ _ _ _ _ _ _ _ _ _ _ _ _ _ _ _ B F X N T XB TB D hk hd hu ret
end

theorem lines35 : True := by
  k_with "call ref" => (first | ((k_here; (with_reducible show wpAny _ _ (call (Value.ref 236) [Value.ref _]) _ _ _); (with_reducible rename VecAt _ _ _ _ _ _ _ => hV9q83); k_dflt (refine' ctS_use ?k1q83 ?k2q83 ?k3q83 ?k4q83 ?k5q83 ?XBq83 ?TBq83 ?Dq83 ?kKq83 (failed_ct _ ?hVq83) ?kdq83 ?kuq83 ?_; (case k4q83 => k_asm); (case hVq83 => k_extra "mine vec"); (case k2q83 => k_asm); (case k1q83 => k_asm); (case k3q83 => k_asm); (case k5q83 => k_asm); (case XBq83 => assumption); (case TBq83 => assumption); (case Dq83 => assumption); (case kKq83 => first | exact rfl | assumption); (case kdq83 => ktr_room); (case kuq83 => ktr_units)); (intro r9q83 nw9q83 g'q83 h'q83 tk'q83 T'q83 F'q83 N'q83 B'q83 X'q83 P'q83 D'q83 Q'q83; k_dflt (obtain ⟨D'q83, told'q83, word'q83, tk9'q83, n'q83, e1q83, l1q83, e2q83, qq83⟩ := Q'q83); subst e1q83; subst e2q83; (try k_lift B'q83); ((try simp only [AllLt, and_true] at l1q83); (try dsimp only); (try k_sweep))))) | fail)
  k_with "compareOp NotEq str str" => (first | ((with_reducible refine nes_ff (bne_self_eq_false _) ?_)) | fail)
  k_with "compareOp NotEq ref ref" => (first | ((k_here; k_dflt (refine' list_ne_self ?Nq85 ?aq85 ?bq85 ?uq85 ?_; (case Nq85 => k_asm); (case aq85 => k_mem); (case bq85 => k_mem); (case uq85 => ktr_units); k_whole))) | fail)
  k_with "mine seenAt" => (first | (first | assumption | (refine' seenAt_mono (by assumption) ?vmq86; (case vmq86 => refine List.forall_mem_cons.mpr ⟨?_, ?_⟩; k_mem; (intro p9q86 h9q86; k_extra "mine in")))) | fail)
  k_with "compareOp NotEq ref ref" => (first | ((k_here; k_dflt (refine' seen_ne ?Nq87 ?aq87 ?bq87 ?uq87 ?_; (case Nq87 => k_asm); (case aq87 => k_extra "mine seenAt"); (case bq87 => k_extra "mine seenAt"); (case uq87 => ktr_units); k_whole))) | fail)
  k_with "compareOp Eq ref ref" => (first | ((k_here; k_dflt (refine' seen_eq ?Nq88 ?aq88 ?bq88 ?uq88 ?_; (case Nq88 => k_asm); (case aq88 => k_extra "mine seenAt"); (case bq88 => k_extra "mine seenAt"); (case uq88 => ktr_units); k_whole))) | fail)
  k_with "mine sub9" => (first | (first | (refine List.forall_mem_cons.mpr ⟨?_, ?_⟩; k_mem; k_extra "mine sub9") | (intro p9q89 h9q89; k_extra "mine in") | (refine List.forall_mem_append.mpr ⟨?_, ?_⟩; k_extra "mine sub9"; k_extra "mine sub9") | exact List.forall_mem_nil _) | fail)
  k_with "mine vec" => (first | (first | assumption | (refine' vecAt_mono (by assumption) ?vmq90; (case vmq90 => k_extra "mine sub9"))) | fail)
  k_with "mine attr" => (first | (first | assumption | (refine' attrAt_mono (by assumption) ?vmq91; (case vmq91 => k_extra "mine sub9"))) | fail)
  k_with "mine seenAt" => (first | (first | assumption | (refine' seenAt_mono (by assumption) ?vmq92; (case vmq92 => k_extra "mine sub9"))) | fail)
  k_with "subscriptTail Name Constant ref int" => (first | ((k_here; k_dflt (refine' item_litK ?k1q93 ?k2q93 ?k3q93 ?k4q93 ?_; (case k1q93 => exact News.isList (by k_asm) (by k_mem)); (case k2q93 => decide); (case k3q93 => decide); (case k4q93 => exact rfl); k_whole))) | fail)
  trivial


/-- what a turn of a loop keeps -/
structure KeepL (I : Addr) (keep : List (Addr × Obj)) : Prop where
  h : ∀ p ∈ keep, @LT.lt Nat _ p.1 I
theorem unr_end {h₀ : Heap} {L I : Addr} {it : Obj} {rest : (Str → Option Value) → List (Addr × Obj) → Prop} {s₁ : Shared} {h' : Heap} {tk : Nat} {m' : Str → Option Value} {all keep : List (Addr × Obj)} (hk : KeepL I keep) (F : Fr h₀ L h' m') (N : News h₀ L h' all)
    (hI : (I, it) ∈ all) (hs : ∀ p ∈ keep, p ∈ all) (r : rest m' keep) : UnrEnd h₀ L s₁ I it rest { s₁ with heap := h', toks := tk } :=
  UnrEnd.intro F N keep (fun p hp => by
    rcases List.mem_cons.mp hp with rfl | hp
    · exact hI
    · exact hs p hp) (fun p hp => Nat.ne_of_lt (hk.h p hp)) r
theorem lines36 : True := by
  k_with "pyIter ref" => (first | (((with_reducible show wpAny _ _ (pyIter (Value.ref _)) (fun it s₂ => LoopAtV _ _ _ _ _ _ _ _ _ it s₂) _ _); k_dflt (refine' iter_listUnr ?hhq94 ?Fq94 ?Nq94 ?hmq94 ?hcq94 ?hdq94 ?_; (case Fq94 => k_asm); (case Nq94 => k_asm); (case hmq94 => k_mem); (case hhq94 => exact rfl); (case hcq94 => exact rfl); (case hdq94 => exact rfl)); intro i'q94 l1q94; (have hk9q94 := KeepL.mk l1q94); (try k_lt l1q94))) | fail)
  k_with "UnrEnd" => (first | (((with_reducible rename KeepL _ _ => hk9q95); k_dflt (refine' unr_end hk9q95 ?Fq95 ?Nq95 ?hIq95 ?hsq95 ⟨?hmq95, ?_⟩; (case Fq95 => k_asm); (case Nq95 => k_asm); (case hIq95 => k_mem); (case hmq95 => k_mem); (case hsq95 => k_extra "mine sub9")))) | fail)
  trivial


set_option maxHeartbeats 16000000 in
theorem handed_b (w : World) {b : Bool} {x : Addr} {kind : String} {vs : List Value} {tl news : List (Addr × Obj)} {av : Value} {am : Option (List (Str × List Str))} (hV : VecAt w.params news x kind av vs tl) (hA : AttrAt w news av am) (hb : vs.any (lackOf tl) = b) :
    CtS w 243 [.ref x, .bool b] 30 news (fun r nw => r = .bool true ∧ nw = news) := by
  have hV9 := hV
  obtain ⟨⟨hK, hl, hE⟩, d, i, m', t0, t1, t2, t3, t4, tk, hx, hdd, hii, hs⟩ := hV
  unfold CtS
  k_fill
  intro loose mean mg mb dp un gd cn cs a ccd cl outer A₀ base h₀ L m s Q E B F X N T XB TB D hkd hd hu hret
  k_extra "mine enterD"
  have hH := halt
  k_extra "mine steps"
  unfold Stop
  (with_reducible rename Fr _ _ _ _ => F9)
  (with_reducible rename News _ _ _ _ => N9)
  (with_reducible rename (_ ∧ _ ∧ _) ∨ (_ ∧ _ ∧ _) => q9)
  refine cut_same F9 N9 ?_ ?_
  · rcases q9 with ⟨q1, q2, q3⟩ | ⟨q1, q2, q3⟩
    all_goals (
      subst q2
      subst q3
      rw [hb] at q1
      subst q1
      k_extra "mine steps"
      (with_reducible rename Fr _ _ _ _ => F8)
      (with_reducible rename News _ _ _ _ => N8)
      exact same_end F8 N8 (by k_extra "mine sub9"))
  · intro h8 tk8 F8 N8
    dsimp only
    clear F9 N9
    k_extra "mine steps"
    k_dflt (refine' leaveD_sub news ?F ?N ?hs ?T ?_; (case F => k_asm); (case N => k_asm); (case hs => intro p9 h9; k_extra "mine in"); (case T => first | assumption | exact KtsTurn.refl); k_whole)
    intro k1 k2 k3 k4 k5 k6 k7 k8
    exact hret _ _ _ _ _ k2 k3 k4 k5 k6 k7 k8 ⟨rfl, rfl⟩

theorem handed_ct (w : World) {x : Addr} {kind : String} {vs : List Value} {tl news : List (Addr × Obj)} {av : Value} {am : Option (List (Str × List Str))} (hV : VecAt w.params news x kind av vs tl) (hA : AttrAt w news av am) :
    CtS w 243 [.ref x, .bool (vs.any (lackOf tl))] 30 news (fun r nw => r = .bool true ∧ nw = news) := handed_b w hV hA rfl

section
open PySem.SeqAt
section
variable {w : World} {A : Around} {E : Value → Shared → Prop} {s : Shared} {h₀ : Heap} {L : Addr} {news : List (Addr × Obj)}
theorem str_same (k : Str) (t u : Tok) : EqAt A s (.str k t) (.str k u) true := by
  have := EqAt.str_str (A := A) (s := s) k t k u
  rw [beq_self_eq_true] at this
  exact this
theorem tup2_ne {a b i j : Addr} {k : Str} {t u : Tok} {vs : List Value} {n m c c' : Nat} {Q : Value → Shared → Prop} (N : News h₀ L s.heap news) (ha : (a, ({ cls := .type "tuple", data := .seq #[.str k t, .ref i] n } : Obj)) ∈ news) (hb : (b, ({ cls := .type "tuple", data := .seq #[.str k u, .ref j] m } : Obj)) ∈ news)
    (hi : (i, listOf vs.toArray c) ∈ news) (hj : (j, listOf vs.toArray c') ∈ news) (hu : A.units + 2 < cLine) (kk : Q (.bool false) s) : wpAny (model prg w) A (compareOp .NotEq (.ref a) (.ref b)) Q E s :=
  (rc_tup2 N ha hb (str_same _ _ _) (eq_of_rc (rc_lists N hi hj rfl (fun _ _ _ => EqAt.same _) (by rw [units_in1]; omega)).1) (by omega)).2 _ _ _ _ kk
theorem tup3_ne {a b i j D D' : Addr} {k : Str} {t u : Tok} {vs : List Value} {n m c c' : Nat} {rows : List (Str × List Str)} {Q : Value → Shared → Prop} (N : News h₀ L s.heap news) (ha : (a, ({ cls := .type "tuple", data := .seq #[.str k t, .ref i, .ref D] n } : Obj)) ∈ news) (hb : (b, ({ cls := .type "tuple", data := .seq #[.str k u, .ref j, .ref D'] m } : Obj)) ∈ news)
    (hi : (i, listOf vs.toArray c) ∈ news) (hj : (j, listOf vs.toArray c') ∈ news) (hD : SeenAt w news D rows) (hD' : SeenAt w news D' rows) (hu : A.units + 4 < cLine) (kk : Q (.bool false) s) : wpAny (model prg w) A (compareOp .NotEq (.ref a) (.ref b)) Q E s := by
  refine tup_ne_same (xs := [.str k t, .ref i, .ref D]) (ys := [.str k u, .ref j, .ref D']) N ha hb rfl (fun p hp E Q hq => ?_) (by omega) kk
  simp only [List.zip_cons_cons, List.zip_nil_left, List.mem_cons, List.not_mem_nil, or_false] at hp
  rcases hp with rfl | rfl | rfl
  · exact str_same _ _ _ _ _ _ _ hq
  · exact (eq_of_rc (rc_lists N hi hj rfl (fun _ _ _ => EqAt.same _) (by rw [units_in1]; omega)).1) _ _ _ _ hq
  · show wpAny _ _ (eqBool (.ref D) (.ref D')) _ _ _
    by_cases e : D = D'
    · subst e; exact EqAt.same _ _ _ _ _ hq
    · unfold eqBool
      refine wpAny_holding ?_
      refine wpAny_ite_split (fun hab => absurd (by have := eq_of_beq hab; injection this) e) (fun _ => ?_)
      exact wpAny_bind (seen_eq N hD hD' (by rw [units_in1]; omega) (wpAny_truthy_bool hq))
end
theorem lines37 : True := by
  k_with "compareOp NotEq ref ref" => (first | ((k_here; k_dflt (refine' tup2_ne ?Nq96 ?aq96 ?bq96 ?iq96 ?jq96 ?uq96 ?_; (case Nq96 => k_asm); (case aq96 => k_mem); (case bq96 => k_mem); (case iq96 => k_mem); (case jq96 => k_mem); (case uq96 => ktr_units); k_whole))) | fail)
  k_with "compareOp NotEq ref ref" => (first | ((k_here; k_dflt (refine' tup3_ne ?Nq97 ?aq97 ?bq97 ?iq97 ?jq97 ?Dq97 ?D'q97 ?uq97 ?_; (case Nq97 => k_asm); (case aq97 => k_mem); (case bq97 => k_mem); (case iq97 => k_mem); (case jq97 => k_mem); (case Dq97 => k_extra "mine seenAt"); (case D'q97 => k_extra "mine seenAt"); (case uq97 => ktr_units); k_whole))) | fail)
  k_with "compareOp Eq ref ref" => (first | ((k_here; k_dflt (refine' list_eq_self ?Nq98 ?aq98 ?bq98 ?uq98 ?_; (case Nq98 => k_asm); (case aq98 => k_mem); (case bq98 => k_mem); (case uq98 => ktr_units); k_whole))) | fail)
  trivial


section
variable {w : World} {A : Around} {E : Value → Shared → Prop} {s : Shared} {h₀ : Heap} {L D : Addr} {m : Str → Option Value} {news : List (Addr × Obj)} {rows : List (Str × List Str)} {k : Str} {t : Tok} {Q : Value → Shared → Prop}
theorem seen_in {b : Bool} (N : News h₀ L s.heap news) (h : SeenAt w news D rows) (hb : (rowAt rows k).isSome = b) (hQ : Q (.bool b) { s with toks := s.toks + 1 }) : wpAny (model prg w) A (compareOp .In (.str k t) (.ref D)) Q E s := by
  obtain ⟨oD, kvs, h⟩ := h
  refine kda_in (knd := PySem.strKind _ _) N h.at_ h.is h.lo (strKind_is _ _ _ _) b ?_ hQ
  rw [← hb]
  cases hc : rowAt rows k with
  | none => rw [h.rel.at_none hc]; rfl
  | some ss =>
    obtain ⟨v, hv, _⟩ := h.rel.at_some hc
    rw [hv]; rfl
theorem seen_item {value slice : PySem.Expr} {ss : List Str} (N : News h₀ L s.heap news) (h : SeenAt w news D rows) (hb : rowAt rows k = some ss)
    (hQ : ∀ (tp li : Addr) (n m : Nat) (vs : List Value) (tk : Tok), (tp, ({ cls := .type "tuple", data := .seq #[.str "character" tk, .ref li] n } : Obj)) ∈ news → (li, listOf vs.toArray m) ∈ news → StrsAre vs ss → vs.length ≤ 8 → Q (.ref tp) { s with toks := s.toks + 1 })
    (hs : subscripted slice false (.ref D) (.str k t) = operate [.ref D, .str k t] (getItem (.ref D) (.str k t))) : wpAny (model prg w) A (subscriptTail value slice (.ref D) (.str k t)) Q E s := by
  obtain ⟨oD, kvs, h⟩ := h
  obtain ⟨v, hv, tp, li, n, m, vs, tk, rfl, h1, h2, h3, h4⟩ := h.rel.at_some hb
  exact kdt_tail (knd := PySem.strKind _ _) N h.at_ h.is (kdt_getItem (knd := PySem.strKind _ _) N h.at_ h.is (strKind_is _ _ _ _) hv (hQ _ _ _ _ _ _ h1 h2 h3 (by rw [h3.length]; exact h4))) hs
theorem seen_dict (F : Fr h₀ L s.heap m) (N : News h₀ L s.heap news) (hbig : h₀.NoLimit) (h : SeenAt w news D rows)
    (hQ : ∀ (d : Addr) h' o kvs, Fr h₀ L h' m → News h₀ L h' ((d, o) :: news) → (∀ p ∈ news, p.1 < d) → (d == sysModules) = false → o.IsDictOf (PySem.strKind prg w) kvs → KvR (TupR news) kvs rows → kvs.length ≤ 8 → Q (.ref d) { s with heap := h' }) :
    wpAny (model prg w) A (call (.type "dict") [.ref D]) Q E s := by
  obtain ⟨oD, kvs, h⟩ := h
  exact my_dict_of F N hbig h.at_ h.is h.lo (by rw [h.rel.len, sizeLine_eq]; have := h.few; omega) fun d h' o F' N' l1 lo hd => hQ d h' o kvs F' N' l1 lo hd h.rel (by rw [h.rel.len]; exact h.few)
end
theorem isSome_ff {α : Type} {o : Option α} (h : o = none) : o.isSome = false := by rw [h]; rfl
theorem isSome_tt {α : Type} {o : Option α} {x : α} (h : o = some x) : o.isSome = true := by rw [h]; rfl
theorem lines38 : True := by
  k_with "compareOp In str ref" => (first | ((k_here; k_dflt (refine' in_list_strs ?k1q99 ?k2q99 ?_; (case k1q99 => exact News.isList (by k_asm) (by k_mem)); (case k2q99 => assumption); k_whole))) | fail)
  k_with "compareOp In str ref" => (first | ((k_here; (with_reducible rename (rowAt _ _ = _) => hra9q100); k_dflt (refine' seen_in ?Nq100 ?hq100 ?hbq100 ?_; (case Nq100 => k_asm); (case hq100 => k_extra "mine seenAt"); (case hbq100 => first | exact isSome_ff hra9q100 | exact isSome_tt hra9q100); k_whole))) | fail)
  k_with "subscriptTail" => (first | ((k_here; (with_reducible show wpAny _ _ (subscriptTail _ _ (Value.ref _) (Value.str _ _)) _ _ _); (with_reducible rename (rowAt _ _ = some _) => hra9q101); k_dflt (refine' seen_item ?Nq101 ?hq101 hra9q101 ?_ ?hsq101; (case Nq101 => k_asm); (case hq101 => k_extra "mine seenAt"); (case hsq101 => with_unfolding_all rfl); k_whole); intro tp'q101 li'q101 n'q101 m'q101 vs'q101 tk'q101 htp'q101 hli'q101 hvs'q101 hvl'q101)) | fail)
  k_with "call type:dict" => (first | ((k_here; (with_reducible show wpAny _ _ (call (Value.type "dict") [Value.ref _]) _ _ _); k_dflt (refine' seen_dict ?Fq102 ?Nq102 ?hbq102 ?hq102 ?_; (case Fq102 => k_asm); (case Nq102 => k_asm); (case hbq102 => exact Top.nolimit (by k_asm)); (case hq102 => k_extra "mine seenAt"); k_whole); intro d'q102 h'q102 o'q102 kvs'q102 F'q102 N'q102 l1q102 lo'q102 hd'q102 hkv'q102 hkl'q102; (try k_lt l1q102))) | fail)
  trivial


theorem rowAt_put {rows : List (Str × List Str)} {k : Str} {ss : List Str} : rowAt (rowPut rows k ss) k = some ss := by
  unfold rowAt rowPut
  induction rows with
  | nil => simp
  | cons q r ih =>
    obtain ⟨k', s'⟩ := q
    by_cases e : k' = k
    · subst e; simp
    · simp only [List.any_cons, e, decide_false, Bool.false_or] at ih ⊢
      split at ih <;> rename_i h
      · simp only [h, if_true, List.map_cons, e, if_false, List.find?_cons, decide_false]; exact ih
      · simp only [h, Bool.false_eq_true, if_false, List.cons_append, List.find?_cons, e, decide_false]; exact ih
theorem rowPut_idem {rows : List (Str × List Str)} {k : Str} {ss : List Str} : rowPut (rowPut rows k ss) k ss = rowPut rows k ss := by
  have hany : (rowPut rows k ss).any (fun q => q.1 = k) = true := by
    have h := rowAt_put (rows := rows) (k := k) (ss := ss)
    unfold rowAt at h
    cases hf : (rowPut rows k ss).find? (fun q => q.1 = k) with
    | none => rw [hf] at h; cases h
    | some q => exact List.any_eq_true.mpr ⟨q, List.mem_of_find?_eq_some hf, by have := List.find?_some hf; exact this⟩
  have hmap : (rowPut rows k ss).map (fun q => if q.1 = k then (q.1, ss) else q) = rowPut rows k ss := by
    refine List.map_congr_left (g := id) (fun q hq => ?_) |>.trans (List.map_id _)
    by_cases e : q.1 = k
    · simp only [e, if_true, id]
      unfold rowPut at hq
      split at hq
      · obtain ⟨q', hq', e'⟩ := List.mem_map.mp hq
        by_cases e2 : q'.1 = k
        · simp only [e2, if_true] at e'
          rw [← e']
        · simp only [e2, if_false] at e'
          subst e'; exact absurd e e2
      · rename_i hno
        rcases List.mem_append.mp hq with hq | hq
        · exact absurd (List.any_eq_true.mpr ⟨q, hq, by simpa using e⟩) hno
        · rw [List.mem_singleton.mp hq]
    · simp only [e, if_false, id]
  generalize hR : rowPut rows k ss = R at hany hmap
  unfold rowPut
  rw [if_pos hany, hmap]
theorem clsDue_len {cs : List Str} : (clsDue cs).length ≤ cs.length + 1 := by
  unfold clsDue
  split
  · omega
  · rw [List.length_cons]; exact Nat.le_refl _
theorem clsDue_idem {cs : List Str} : clsDue (clsDue cs) = clsDue cs := by
  unfold clsDue
  by_cases h : cs.any (· == "AsIs") = true
  · simp only [h, if_true]
  · simp only [h, Bool.false_eq_true, if_false, List.any_cons, beq_self_eq_true, Bool.true_or, if_true]
theorem due_at {w : World} {all n0 : List (Addr × Obj)} {d : Addr} {o : Obj} {kvs : List (Str × Value)} {rows : List (Str × List Str)} {v : Value} {X cs : List Str} (hX : X = cs) (hm : (d, o) ∈ all) (hd : o.IsDictOf (PySem.strKind prg w) (stored kvs "class" v)) (lo : (d == sysModules) = false) (hr : KvR (TupR n0) kvs rows) (hs : ∀ p ∈ n0, p ∈ all) (ht : TupR all v cs) (hf : rows.length ≤ 7) : SeenAt w all d (rowPut rows "class" X) := hX ▸
  ⟨o, _, hm, hd, lo, (hr.mono fun _ _ r => tupR_mono r hs).put ht, by have := rowPut_len (rows := rows) (k := "class") (ss := cs); omega⟩
theorem clsOf_put {rows : List (Str × List Str)} {cs : List Str} : clsOf (some (rowPut rows "class" cs)) = cs := by
  unfold clsOf
  rw [Option.getD_some, rowAt_put, Option.getD_some]

theorem again_rows {am : Option (List (Str × List Str))} : ((some (rowPut ((some (rowPut (am.getD []) "class" (clsDue (clsOf am)))).getD []) "class" (clsDue (clsOf (some (rowPut (am.getD []) "class" (clsDue (clsOf am)))))))).getD []) = rowPut (am.getD []) "class" (clsDue (clsOf am)) := by
  rw [clsOf_put, clsDue_idem, Option.getD_some, Option.getD_some, rowPut_idem]
theorem seen_eq' {w : World} {A : Around} {E : Value → Shared → Prop} {s : Shared} {h₀ : Heap} {L : Addr} {news : List (Addr × Obj)} {D D' : Addr} {rows rows' : List (Str × List Str)} {Q : Value → Shared → Prop} (N : News h₀ L s.heap news) (h : SeenAt w news D rows) (h' : SeenAt w news D' rows') (e : rows = rows') (hu : A.units + 2 < cLine) (k : Q (.bool true) s) :
    wpAny (model prg w) A (compareOp .Eq (.ref D) (.ref D')) Q E s := seen_eq N h (e ▸ h') hu k
theorem lines39 : True := by
  k_with "mine due" => (first | (((with_reducible rename (clsDue _ = _) => hcd9q103); refine' due_at hcd9q103 ?dmq103 ?ddq103 ?dloq103 ?drq103 ?dsq103 ⟨_, _, _, _, _, _, rfl, ?d1q103, ?d2q103, ?d3q103, ?d4q103⟩ ?dfq103; (case dmq103 => k_mem); (case ddq103 => assumption); (case dloq103 => assumption); (case drq103 => assumption); (case dsq103 => k_extra "mine sub9"); (case d1q103 => k_mem); (case d2q103 => k_mem); (case d3q103 => first | assumption | exact StrsAre.cons _ _ (by assumption) | exact StrsAre.cons _ _ StrsAre.nil); (case d4q103 => first | exact Nat.le_of_ble_eq_true rfl | (rw [← hcd9q103]; assumption) | omega); (case dfq103 => omega))) | fail)
  k_with "compareOp Eq ref ref" => (first | ((k_here; k_dflt (refine' seen_eq' ?Nq104 ?aq104 ?bq104 ?eq104 ?uq104 ?_; (case Nq104 => k_asm); (case aq104 => k_extra "mine seenAt"); (case bq104 => first | k_extra "mine seenAt" | k_extra "mine due"); (case eq104 => first | exact rfl | exact again_rows); (case uq104 => ktr_units); k_whole))) | fail)
  trivial


/-- what is due stands in the ledger -/
inductive StDue (w : World) (h₀ : Heap) (L : Addr) (m : Str → Option Value) (rows : List (Str × List Str)) (nw : List (Addr × Obj)) (s s' : Shared) : Prop
  | intro (D : Addr) (v1 : Value) (tl : List (Addr × Obj)) (h : Heap) (tk : Nat) (e : s' = { s with heap := h, toks := tk }) (F : Fr h₀ L h (fun y => if y = "due" then some (.ref D) else if y = "classes" then some v1 else m y)) (N : News h₀ L h (tl ++ nw)) (hD : SeenAt w (tl ++ nw) D rows) : StDue w h₀ L m rows nw s s'
theorem stdue_intro {w : World} {h₀ h : Heap} {L : Addr} {m : Str → Option Value} {rows : List (Str × List Str)} {nw all : List (Addr × Obj)} {s : Shared} {D : Addr} {v1 : Value} {tk : Nat} (F : Fr h₀ L h (fun y => if y = "due" then some (.ref D) else if y = "classes" then some v1 else m y)) (N : News h₀ L h all) (hs : ∀ p ∈ nw, p ∈ all) (hD : SeenAt w all D rows) :
    StDue w h₀ L m rows nw s { s with heap := h, toks := tk } :=
  .intro D v1 all h tk rfl F (fun p hp => (List.mem_append.mp hp).elim (N p) fun h => N p (hs p h)) (seenAt_mono hD fun p hp => List.mem_append.mpr (.inl hp))
theorem split_due {prog : Program} {w : World} {A : Around} {env : Env} {Q : Flow → Shared → Prop} {E : Value → Shared → Prop} {s : Shared} {h₀ : Heap} {s0 s1 s2 : Stmt} {more : List Stmt} {L : Addr} {m : Str → Option Value} {nw : List (Addr × Obj)} (rows : List (Str × List Str)) (_ : Fr h₀ L s.heap m) (_ : News h₀ L s.heap nw)
    (h1 : wpAny (model prog w) A (execs [s0, s1, s2] env) (fun fl s' => fl = .next ∧ StDue w h₀ L m rows nw s s') E s)
    (k : ∀ (D : Addr) (v1 : Value) (tl : List (Addr × Obj)) (h : Heap) (tk : Nat), Fr h₀ L h (fun y => if y = "due" then some (.ref D) else if y = "classes" then some v1 else m y) → News h₀ L h (tl ++ nw) → SeenAt w (tl ++ nw) D rows → wpAny (model prog w) A (execs more env) Q E { s with heap := h, toks := tk }) :
    wpAny (model prog w) A (execs (s0 :: s1 :: s2 :: more) env) Q E s :=
  split_at (pre := [s0, s1, s2]) _ h1 fun s' h9 => by cases h9 with | intro D v1 tl h tk e a1 a2 a3 => subst e; exact k D v1 tl h tk a1 a2 a3

set_option maxHeartbeats 16000000 in
theorem asisholds_ct (w : World) {x : Addr} {kind : String} {vs : List Value} {tl news : List (Addr × Obj)} {av : Value} {am : Option (List (Str × List Str))} (hV : VecAt w.params news x kind av vs tl) (hA : AttrAt w news av am) (hr9 : (am.getD []).length ≤ 6) (hb9 : (clsOf am).length ≤ 6) :
    Ct w 250 [.ref x] 16 news (fun r nw => r = .bool true ∧ nw = news) := by
  have hV9 := hV
  obtain ⟨⟨hK, hl, hE⟩, d, i, m', t0, t1, t2, t3, t4, tk, hx, hdd, hii, hs⟩ := hV
  have hr8 : (am.getD []).length ≤ 7 := by omega
  have hb8 : (clsOf am).length ≤ 7 := by omega
  have hr7 : ((some (rowPut (am.getD []) "class" (clsDue (clsOf am)))).getD []).length ≤ 7 := by
    have := rowPut_len (rows := am.getD []) (k := "class") (ss := clsDue (clsOf am))
    rw [Option.getD_some]
    omega
  have hb7 : (clsOf (some (rowPut (am.getD []) "class" (clsDue (clsOf am))))).length ≤ 7 := by
    rw [clsOf_put]
    have := clsDue_len (cs := clsOf am)
    omega
  have hcl8 : (clsDue (clsOf am)).length ≤ 8 := by
    have := clsDue_len (cs := clsOf am)
    omega
  unfold Ct
  k_fill
  intro loose mean mg mb dp un gd cn cs a ccd cl outer A₀ base h₀ L m s Q E B F X N T hkd hd hu hret
  k_extra "mine enter"
  have hH := halt
  k_extra "mine steps"
  unfold Stop
  (with_reducible rename Fr _ _ _ _ => F9)
  (with_reducible rename News _ _ _ _ => N9)
  refine cut_same F9 N9 ?_ ?_
  · k_extra "mine steps"
    (with_reducible rename Fr _ _ _ _ => F8)
    (with_reducible rename News _ _ _ _ => N8)
    exact same_end F8 N8 (by k_extra "mine sub9")
  · intro h8 tk8 F8 N8
    dsimp only
    clear F9 N9
    refine split_due (rowPut (am.getD []) "class" (clsDue (clsOf am))) F8 N8 ?_ ?_
    · cases hcc : rowAt (am.getD []) "class" with
      | none =>
        have hcd : clsDue (clsOf am) = [("AsIs" : Str)] := by unfold clsOf; rw [hcc]; rfl
        k_extra "mine steps"
        (with_reducible rename Fr _ _ _ _ => F7)
        (with_reducible rename News _ _ _ _ => N7)
        exact stdue_intro F7 N7 (by k_extra "mine sub9") (by k_extra "mine due")
      | some ss =>
        cases hany : ss.any (· == "AsIs") with
        | true =>
          have hcd : clsDue (clsOf am) = ss := by unfold clsOf clsDue; rw [hcc, Option.getD_some, if_pos hany]
          k_extra "mine steps"
          all_goals (
            (with_reducible rename Fr _ _ _ _ => F7)
            (with_reducible rename News _ _ _ _ => N7)
            first
            | ((with_reducible rename List.any ss _ = false => q9); exfalso; exact Bool.false_ne_true (q9.symm.trans hany))
            | exact stdue_intro F7 N7 (by k_extra "mine sub9") (by k_extra "mine due"))
        | false =>
          have hcd : clsDue (clsOf am) = ("AsIs" : Str) :: ss := by unfold clsOf clsDue; rw [hcc, Option.getD_some, hany]; rfl
          k_extra "mine steps"
          all_goals (
            (with_reducible rename Fr _ _ _ _ => F7)
            (with_reducible rename News _ _ _ _ => N7)
            first
            | ((with_reducible rename List.any ss _ = true => q9); exfalso; exact Bool.false_ne_true (hany.symm.trans q9))
            | exact stdue_intro F7 N7 (by k_extra "mine sub9") (by k_extra "mine due"))
    · intro D v1 tl8 h9 tk9 F9 N9 hD9
      clear F8 N8
      k_extra "mine steps"
      (with_reducible rename News h₀ L _ _ => N8)
      exact hret _ news _ _ (by k_asm) (cb_drop N8 (by k_extra "mine sub9")) ⟨rfl, rfl⟩
end

/-- a row of the box: its bool says if it lacks -/
def RowAtB (P : Params) (news : List (Addr × Obj)) (v : Value) (b : Bool) : Prop :=
  ∃ x kind vs tl, v = .ref x ∧ VecAt P news x kind .none vs tl ∧ vs.any (lackOf tl) = b
/-- an own object that is no vector -/
def OtherAt (news : List (Addr × Obj)) (v : Value) (b : Bool) : Prop :=
  ∃ x c d es n, v = .ref x ∧ (c = 77 ∨ c = 127) ∧ (x, instObj c d) ∈ news ∧ (d, dictOf es n) ∈ news ∧ b = false
/-- the items of the box -/
inductive ItemsB (P : Params) (news : List (Addr × Obj)) : List Value → List Bool → Prop
  | nil : ItemsB P news [] []
  | cons {v b vs bs} : RowAtB P news v b ∨ OtherAt news v b → ItemsB P news vs bs → ItemsB P news (v :: vs) (b :: bs)

section
variable {P : Params} {news news' : List (Addr × Obj)} {vs : List Value} {bs : List Bool}
theorem rowAtB_mono {v : Value} {b : Bool} (h : RowAtB P news v b) (hs : ∀ p ∈ news, p ∈ news') : RowAtB P news' v b := by
  obtain ⟨x, kind, vs, tl, e, hV, hb⟩ := h
  exact ⟨x, kind, vs, tl, e, vecAt_mono hV hs, hb⟩
theorem otherAt_mono {v : Value} {b : Bool} (h : OtherAt news v b) (hs : ∀ p ∈ news, p ∈ news') : OtherAt news' v b := by
  obtain ⟨x, c, d, es, n, e, hc, hm, hd, hb⟩ := h
  exact ⟨x, c, d, es, n, e, hc, hs _ hm, hs _ hd, hb⟩
theorem ItemsB.mono (h : ItemsB P news vs bs) (hs : ∀ p ∈ news, p ∈ news') : ItemsB P news' vs bs := by
  induction h with
  | nil => exact .nil
  | cons r _ ih => exact .cons (r.imp (fun q => rowAtB_mono q hs) fun q => otherAt_mono q hs) ih
theorem ItemsB.len (h : ItemsB P news vs bs) : vs.length = bs.length := by
  induction h with
  | nil => rfl
  | cons _ _ ih => simp [ih]
theorem ItemsB.at (h : ItemsB P news vs bs) {i : Nat} {v : Value} (hv : vs[i]? = some v) : ∃ b, bs[i]? = some b ∧ (RowAtB P news v b ∨ OtherAt news v b) := by
  induction h generalizing i with
  | nil => simp at hv
  | cons r _ ih =>
    cases i with
    | zero =>
      simp only [List.getElem?_cons_zero, Option.some.injEq] at hv
      subst hv
      exact ⟨_, rfl, r⟩
    | succ i =>
      simp only [List.getElem?_cons_succ] at hv ⊢
      exact ih hv
end
def BoxInv (bs : List Bool) (LED : List (Addr × Obj)) (i : Nat) (ys : List Value) (nw : List (Addr × Obj)) : Prop :=
  nw = LED ∧ ys.length ≤ i ∧ decide (0 < ys.length) = (bs.take i).any id
theorem any_takeB {bs : List Bool} {i : Nat} {b : Bool} (h : bs[i]? = some b) : (bs.take (i + 1)).any id = ((bs.take i).any id || b) := by
  rw [List.take_succ, h, List.any_append]
  simp
theorem boxInv_tt {bs : List Bool} {LED nw : List (Addr × Obj)} {i : Nat} {ys : List Value} {y : Value} (h : BoxInv bs LED i ys nw) (hv : bs[i]? = some true) : BoxInv bs LED (i + 1) (ys ++ [y]) nw := by
  obtain ⟨h1, h2, h3⟩ := h
  refine ⟨h1, by rw [List.length_append, List.length_singleton]; omega, ?_⟩
  rw [any_takeB hv, List.length_append, List.length_singleton, Bool.or_true]
  exact decide_eq_true (Nat.succ_pos _)
theorem boxInv_ff {bs : List Bool} {LED nw : List (Addr × Obj)} {i : Nat} {ys : List Value} (h : BoxInv bs LED i ys nw) (hv : bs[i]? = some false) : BoxInv bs LED (i + 1) ys nw := by
  obtain ⟨h1, h2, h3⟩ := h
  exact ⟨h1, by omega, by rw [any_takeB hv, Bool.or_false]; exact h3⟩

/-- the box lies in the ledger -/
def BoxAt (P : Params) (news : List (Addr × Obj)) (x : Addr) (vs : List Value) (bs : List Bool) : Prop :=
  ItemsB P news vs bs ∧ vs.length ≤ 5 ∧ ∃ (d i : Addr) (m : Nat) (t0 t1 t2 t3 t4 tk : Tok), (x, instObj 106 d) ∈ news ∧ (d, dictOf [⟨PyData.keyHash P "kind", .str "kind" t0, .str "list" tk⟩, ⟨PyData.keyHash P "items", .str "items" t1, .ref i⟩, ⟨PyData.keyHash P "attrs", .str "attrs" t2, .none⟩, ⟨PyData.keyHash P "shared", .str "shared" t3, .bool false⟩, ⟨PyData.keyHash P "loose", .str "loose" t4, .bool false⟩] 5) ∈ news ∧
    (i, listOf vs.toArray m) ∈ news
theorem boxAt_mono {P : Params} {news news' : List (Addr × Obj)} {x : Addr} {vs : List Value} {bs : List Bool} (h : BoxAt P news x vs bs) (hs : ∀ p ∈ news, p ∈ news') : BoxAt P news' x vs bs := by
  obtain ⟨hi, hl, d, i, m, t0, t1, t2, t3, t4, tk, h1, h2, h3⟩ := h
  exact ⟨hi.mono hs, hl, d, i, m, t0, t1, t2, t3, t4, tk, hs _ h1, hs _ h2, hs _ h3⟩

theorem lines40 : True := by
  k_with "eval ListComp" => (first | (refine stop_of ?_) | fail)
  k_with "CompSrcT" => (first | (refine stop_of ?_) | fail)
  k_with "CompEnd" => (first | (refine stop_of ?_) | fail)
  trivial


set_option maxHeartbeats 16000000 in
theorem hasbox_ct (w : World) {x : Addr} {vs : List Value} {bs : List Bool} {news : List (Addr × Obj)} (hV : BoxAt w.params news x vs bs) :
    Ct w 179 [.ref x] 18 news (fun r nw => r = .bool (bs.any id) ∧ nw = news) := by
  obtain ⟨hit, hl, d, i, m', t0, t1, t2, t3, t4, tk, hx, hdd, hii⟩ := hV
  unfold Ct
  k_fill
  intro loose mean mg mb dp un gd cn cs a ccd cl outer A₀ base h₀ L m s Q E B F X N T hkd hd hu hret
  k_extra "mine enterC"
  k_extra "mine steps"
  unfold Stop
  (with_reducible rename Fr _ _ _ _ => F9)
  k_dflt (refine LCt.ListComp_T (F₀ := F9) (by with_unfolding_all rfl) (by decide) (by rfl) (by decide) (by rfl) ?_)
  k_extra "mine steps"
  unfold Stop
  (with_reducible rename Fr _ _ _ _ => F9)
  (with_reducible rename News _ _ _ _ => N9)
  refine LCt.CompSrcT.ledger (by rfl) F9 N9 (by k_mem) (by rw [sizeLine_eq, List.size_toArray]; omega) ?_
  intro g9
  refine compRestT_inv _ (BoxInv bs _) ?_ ?_ _ 0 [] _ (Nat.zero_add _) ⟨rfl, Nat.le_refl _, rfl⟩
  · intro i9 ys9 nw9 hi9 hI9 v9 I9 oI9 C9 oC9 D9 m9 h9 tk9 E9 hv9 hC9 hx9 F9 N9 off9 ne9
    have hnw := hI9.1
    subst hnw
    obtain ⟨b9, hb9, hr9⟩ := hit.at (by simpa using hv9)
    rcases hr9 with ⟨x9, kind9, vs9, tl9, rfl, hV9, hlk9⟩ | ⟨x9, c9, d9, es9, n9, rfl, hc9, hm9, hmd9, rfl⟩
    · have hV8 := hV9
      refine vecAt_open hV8 fun d8 i8 m8 p0 p1 p2 p3 p4 pk hK8 hl8 hE8 hx8 hdd8 hii8 hs8 => ?_
      clear hV8
      k_extra "mine steps"
      · unfold Stop
        exact LCg.CompEnd.intro (by k_asm) (by k_asm) _ (fun _ h => h) off9 (.inr ⟨_, by k_mem, rfl, _, rfl⟩) (boxInv_tt hI9 (by rw [hb9, ← hlk9]; exact congrArg some (by assumption)))
      · unfold Stop
        exact LCg.CompEnd.intro (by k_asm) (by k_asm) _ (fun _ h => h) off9 (.inr ⟨_, by k_mem, rfl, _, rfl⟩) (boxInv_ff hI9 (by rw [hb9, ← hlk9]; exact congrArg some (by assumption)))
    · rcases hc9 with rfl | rfl
      · k_extra "mine steps"
        unfold Stop
        exact LCg.CompEnd.intro (by k_asm) (by k_asm) _ (fun _ h => h) off9 (.inr ⟨_, by k_mem, rfl, _, rfl⟩) (boxInv_ff hI9 hb9)
      · k_extra "mine steps"
        unfold Stop
        exact LCg.CompEnd.intro (by k_asm) (by k_asm) _ (fun _ h => h) off9 (.inr ⟨_, by k_mem, rfl, _, rfl⟩) (boxInv_ff hI9 hb9)
  · intro ys9 nw9 hI9
    obtain ⟨rfl, hl9, hb9⟩ := hI9
    simp only [List.size_toArray] at hl9 hb9
    k_extra "mine steps"
    have hb8 : decide ((0 : Int) < (ys9.length : Int)) = bs.any id := by
      rw [hit.len, List.take_length] at hb9
      rw [← hb9]
      exact decide_eq_decide.mpr (by omega)
    rw [hb8]
    (with_reducible rename News h₀ L _ _ => N8)
    exact hret _ news _ _ (by k_asm) (cb_drop N8 (by k_extra "mine sub9")) ⟨rfl, rfl⟩

theorem lines41 : True := by
  k_with "mine allLt" => (first | (first | assumption | exact (And.right (by assumption)) | exact (And.right (And.right (by assumption))) | exact (And.right (And.right (And.right (by assumption)))) | exact (And.right (And.right (And.right (And.right (by assumption))))) | exact (And.right (And.right (And.right (And.right (And.right (by assumption)))))) | exact (And.right (And.right (And.right (And.right (And.right (And.right (by assumption))))))) | exact (And.right (And.right (And.right (And.right (And.right (And.right (And.right (by assumption)))))))) | exact (And.right (And.right (And.right (And.right (And.right (And.right (And.right (And.right (by assumption))))))))) | (refine allLt_of ?_; assumption)) | fail)
  k_with "mine box" => (first | (first | assumption | (refine' boxAt_mono (by assumption) ?vmq109; (case vmq109 => k_extra "mine sub9"))) | fail)
  k_with "call ref" => (first | ((k_here; (with_reducible show wpAny _ _ (call (Value.ref 179) [Value.ref _]) _ _ _); (with_reducible rename BoxAt _ _ _ _ _ => hV9q110); k_dflt (refine' ct_useK ?k1q110 ?k2q110 ?k3q110 ?k4q110 ?k5q110 ?kKq110 (hasbox_ct _ ?hVq110) eq_cps ?kdq110 ?kuq110 ?_; (case k4q110 => k_asm); (case hVq110 => k_extra "mine box"); (case k1q110 => k_asm); (case k2q110 => k_asm); (case k3q110 => k_asm); (case k5q110 => k_asm); (case kKq110 => first | exact rfl | assumption); (case kdq110 => ktr_room); (case kuq110 => ktr_units)); (intro h'q110 tk'q110 F'q110 N'q110; (try dsimp only); (try k_sweep)))) | fail)
  trivial


set_option maxHeartbeats 16000000 in
theorem failbox_ct (w : World) {x : Addr} {vs : List Value} {bs : List Bool} {news : List (Addr × Obj)} (hV : BoxAt w.params news x vs bs) :
    CtS w 236 [.ref x] 26 news (FailPost (bs.any id) (.ref x) news) := by
  unfold CtS
  k_fill
  intro loose mean mg mb dp un gd cn cs a ccd cl outer A₀ base h₀ L m s Q E B F X N T XB TB D hkd hd hu hret
  k_extra "mine enterD"
  k_extra "mine steps"
  · k_dflt (refine' leaveD_mid [_, _, _, _] ?F ?N ?T ?_; (case F => k_asm); (case N => k_asm); (case T => first | assumption | exact KtsTurn.refl); k_whole)
    intro k1 k2 k3 k4 k5 k6 k7 k8
    exact hret _ _ _ _ _ k2 k3 k4 k5 k6 k7 k8 ⟨_, _, _, _, _, rfl, by k_extra "mine allLt", rfl, .inl ⟨by assumption, rfl, rfl⟩⟩
  · k_dflt (refine' leaveD_mid [_, _] ?F ?N ?T ?_; (case F => k_asm); (case N => k_asm); (case T => first | assumption | exact KtsTurn.refl); k_whole)
    intro k1 k2 k3 k4 k5 k6 k7 k8
    exact hret _ _ _ _ _ k2 k3 k4 k5 k6 k7 k8 ⟨_, _, _, _, _, rfl, by k_extra "mine allLt", rfl, .inr ⟨by first | assumption | simpa using ‹_›, rfl, rfl⟩⟩

section
open PySem.SeqAt
/-- a row of the box, and what it shows: its kind and its items' address -/
def RowX (P : Params) (news : List (Addr × Obj)) (v : Value) (b : Bool) (q : String × Addr) : Prop :=
  RowAtB P news v b ∧ ∃ (x d : Addr) (t0 t1 t2 t3 t4 tk : Tok), v = .ref x ∧ (x, instObj 106 d) ∈ news ∧
    (d, dictOf [⟨PyData.keyHash P "kind", .str "kind" t0, .str (Str.ofString q.1) tk⟩, ⟨PyData.keyHash P "items", .str "items" t1, .ref q.2⟩, ⟨PyData.keyHash P "attrs", .str "attrs" t2, .none⟩, ⟨PyData.keyHash P "shared", .str "shared" t3, .bool false⟩, ⟨PyData.keyHash P "loose", .str "loose" t4, .bool false⟩] 5) ∈ news
inductive RowsI (P : Params) (news : List (Addr × Obj)) : List Value → List Bool → List (String × Addr) → Prop
  | nil : RowsI P news [] [] []
  | cons {v b q vs bs ks} : RowX P news v b q → RowsI P news vs bs ks → RowsI P news (v :: vs) (b :: bs) (q :: ks)

section
variable {P : Params} {news news' : List (Addr × Obj)} {vs : List Value} {bs : List Bool} {ks : List (String × Addr)}
theorem rowX_mono {v : Value} {b : Bool} {q : String × Addr} (h : RowX P news v b q) (hs : ∀ p ∈ news, p ∈ news') : RowX P news' v b q := by
  obtain ⟨h1, x, d, t0, t1, t2, t3, t4, tk, e, hx, hd⟩ := h
  exact ⟨rowAtB_mono h1 hs, x, d, t0, t1, t2, t3, t4, tk, e, hs _ hx, hs _ hd⟩
theorem RowsI.mono (h : RowsI P news vs bs ks) (hs : ∀ p ∈ news, p ∈ news') : RowsI P news' vs bs ks := by
  induction h with
  | nil => exact .nil
  | cons r _ ih => exact .cons (rowX_mono r hs) ih
theorem RowsI.len (h : RowsI P news vs bs ks) : vs.length = bs.length ∧ vs.length = ks.length := by
  induction h with
  | nil => exact ⟨rfl, rfl⟩
  | cons _ _ ih => simp [ih.1.symm, ih.2.symm]
theorem RowsI.snoc (h : RowsI P news vs bs ks) {v : Value} {b : Bool} {q : String × Addr} (r : RowX P news v b q) : RowsI P news (vs ++ [v]) (bs ++ [b]) (ks ++ [q]) := by
  induction h with
  | nil => exact .cons r .nil
  | cons r' _ ih => exact .cons r' ih
theorem RowsI.at (h : RowsI P news vs bs ks) {i : Nat} {v : Value} (hv : vs[i]? = some v) : ∃ b q, bs[i]? = some b ∧ ks[i]? = some q ∧ RowX P news v b q := by
  induction h generalizing i with
  | nil => simp at hv
  | cons r _ ih =>
    cases i with
    | zero =>
      simp only [List.getElem?_cons_zero, Option.some.injEq] at hv
      subst hv
      exact ⟨_, _, rfl, rfl, r⟩
    | succ i =>
      simp only [List.getElem?_cons_succ] at hv ⊢
      exact ih hv
theorem RowsI.open {C : Prop} (h : RowsI P news vs bs ks) {i : Nat} {v : Value} (hv : vs[i]? = some v)
    (k : ∀ (b : Bool) (q : String × Addr) (x d : Addr) (t0 t1 t2 t3 t4 tk : Tok), bs[i]? = some b → ks[i]? = some q → RowAtB P news v b → v = .ref x → (x, instObj 106 d) ∈ news → (d, dictOf [⟨PyData.keyHash P "kind", .str "kind" t0, .str (Str.ofString q.1) tk⟩, ⟨PyData.keyHash P "items", .str "items" t1, .ref q.2⟩, ⟨PyData.keyHash P "attrs", .str "attrs" t2, .none⟩, ⟨PyData.keyHash P "shared", .str "shared" t3, .bool false⟩, ⟨PyData.keyHash P "loose", .str "loose" t4, .bool false⟩] 5) ∈ news → C) : C := by
  obtain ⟨b, q, h1, h2, h3, x, d, t0, t1, t2, t3, t4, tk, e, hx, hd⟩ := h.at hv
  exact k b q x d t0 t1 t2 t3 t4 tk h1 h2 h3 e hx hd
theorem RowsI.items (h : RowsI P news vs bs ks) : ItemsB P news vs bs := by
  induction h with
  | nil => exact .nil
  | cons r _ ih => exact .cons (.inl r.1) ih
theorem ItemsB.snoc (h : ItemsB P news vs bs) {v : Value} {b : Bool} (r : RowAtB P news v b ∨ OtherAt news v b) : ItemsB P news (vs ++ [v]) (bs ++ [b]) := by
  induction h with
  | nil => exact .cons r .nil
  | cons r' _ ih => exact .cons r' ih
end

/-- pairs (kind, items) in the ledger -/
inductive PairsI (news : List (Addr × Obj)) : List Value → List (String × Addr) → Prop
  | nil : PairsI news [] []
  | cons {tp n tk q vs ks} : (tp, ({ cls := .type "tuple", data := .seq #[.str (Str.ofString q.1) tk, .ref q.2] n } : Obj)) ∈ news → PairsI news vs ks → PairsI news (.ref tp :: vs) (q :: ks)
section
variable {news news' : List (Addr × Obj)} {vs us : List Value} {ks : List (String × Addr)}
theorem PairsI.mono (h : PairsI news vs ks) (hs : ∀ p ∈ news, p ∈ news') : PairsI news' vs ks := by
  induction h with
  | nil => exact .nil
  | cons r _ ih => exact .cons (hs _ r) ih
theorem PairsI.len (h : PairsI news vs ks) : vs.length = ks.length := by
  induction h with
  | nil => rfl
  | cons _ _ ih => simp [ih]
theorem PairsI.snoc (h : PairsI news vs ks) {tp : Addr} {n : Nat} {tk : Tok} {q : String × Addr} (r : (tp, ({ cls := .type "tuple", data := .seq #[.str (Str.ofString q.1) tk, .ref q.2] n } : Obj)) ∈ news) : PairsI news (vs ++ [.ref tp]) (ks ++ [q]) := by
  induction h with
  | nil => exact .cons r .nil
  | cons r' _ ih => exact .cons r' ih
theorem PairsI.at (h : PairsI news vs ks) {j : Nat} (hj : j < vs.length) : ∃ tp n tk q, vs[j] = .ref tp ∧ ks[j]? = some q ∧ (tp, ({ cls := .type "tuple", data := .seq #[.str (Str.ofString q.1) tk, .ref q.2] n } : Obj)) ∈ news := by
  induction h generalizing j with
  | nil => exact absurd hj (Nat.not_lt_zero _)
  | cons r _ ih =>
    cases j with
    | zero => exact ⟨_, _, _, _, rfl, rfl, r⟩
    | succ j => exact ih (Nat.lt_of_succ_lt_succ hj)
end
section
variable {w : World} {A : Around} {E : Value → Shared → Prop} {s : Shared} {h₀ : Heap} {L : Addr} {news : List (Addr × Obj)} {vs us : List Value} {ks : List (String × Addr)}
theorem pairs_eq {a b : Addr} {n m : Nat} {Q : Value → Shared → Prop} (N : News h₀ L s.heap news) (ha : (a, listOf vs.toArray n) ∈ news) (hb : (b, listOf us.toArray m) ∈ news) (h : PairsI news vs ks) (h' : PairsI news us ks) (hu : A.units + 4 < cLine) (k : Q (.bool true) s) :
    wpAny (model prg w) A (compareOp .Eq (.ref a) (.ref b)) Q E s := by
  refine (rc_lists N ha hb (h.len.trans h'.len.symm) (fun j h1 h2 => ?_) (by omega)).1 _ _ _ _ k
  obtain ⟨tp, n, tk, q, e, hq, hm⟩ := h.at h1
  obtain ⟨tp', n', tk', q', e', hq', hm'⟩ := h'.at h2
  rw [hq] at hq'
  cases hq'
  rw [e, e']
  exact eq_of_rc (rc_tup2 N hm hm' (str_same _ _ _) (EqAt.same _) (by rw [units_in1]; omega)).1
end
theorem take_snoc {α : Type} {l : List α} {i : Nat} {a : α} (h : l[i]? = some a) : l.take (i + 1) = l.take i ++ [a] := by
  rw [List.take_succ, h]; rfl
theorem pick_upto {ys zs : List Value} : (slicePick (ys ++ zs).toArray none (some (ys.length : Int)) none).toList = ys := by
  rw [slicePick_upto']
  simp
end

section
variable {w : World} {f : Addr} {args : List Value} {sz : Nat} {Post : Value → List (Addr × Obj) → Prop} {Hb : Heap → Prop} {loose : List Str} {mean : ExcName → Option Value} {mg mb : Str → Option Value} {dp un : Nat} {gd : Option (List Code)} {cn : Str} {cs : Scope} {a : Addr} {ccd : Value} {cl : List (Str × Addr)} {outer : List Env} {A₀ : Around} {base h₀ : Heap} {L : Addr} {m : Str → Option Value} {news : List (Addr × Obj)} {s : Shared}
  {Q E : Value → Shared → Prop}
theorem ctB_use (hb : Hb base) (B : Below A₀ base outer h₀) (F : Fr h₀ L s.heap m) (X : (hd.heap_1_39 w.params).In h₀) (N : News h₀ L s.heap news) (T : Top hd.view_1_40 loose mean mg mb h₀) (hk : cs.kind = .function) (C : CtB w Hb f args sz news Post)
    (hd : dp + sz < recursionLimit) (hu : un + 8 * sz < cLine)
    (ret : ∀ r news' h' tk', Fr h₀ L h' m → News h₀ L h' news' → Post r news' → Q r { s with heap := h', toks := tk' }) :
    wpAny (model PySem.Challenge.rw_pq1390_01.row.prog w) (ktrTop dp un gd cn cs L a ccd cl outer) (call (.ref f) args) Q E s := C _ _ _ _ _ _ _ _ _ _ _ _ _ _ _ _ _ _ _ _ _ hb B F X N T hk hd hu ret

theorem turn_back {g g' h : Heap} {L : Addr} {m : Str → Option Value} (T : KtsTurn [] g g') (F : Fr g' L h m) : Fr g L h m :=
  ⟨F.ns, fun b o e => F.keep b o (T.other b o e (fun h => nomatch h)), by rw [← T.size]; exact F.above⟩
theorem turn_backN {g g' h : Heap} {L : Addr} {l : List (Addr × Obj)} (T : KtsTurn [] g g') (N : News g' L h l) : News g L h l := fun p hp => by
  refine ⟨(N p hp).1, (N p hp).2.1, ?_⟩
  cases e : g.get? p.1 with
  | none => rfl
  | some o => have := (N p hp).2.2; rw [T.other _ o e (fun h => nomatch h)] at this; cases this

/-- a call of a def that may catch, out of the lowest frame -/
theorem ctT_use (B : Below A₀ h₀ [] h₀) (F : Fr h₀ L s.heap m) (X : (hd.heap_1_39 w.params).In h₀) (N : News h₀ L s.heap news) (T : Top hd.view_1_40 loose mean mg mb h₀) (hk : cs.kind = .function) (C : CtS w f args sz news Post)
    (hd : dp + sz < recursionLimit) (hu : un + 8 * sz < cLine)
    (ret : ∀ r news' h' tk', Fr h₀ L h' m → News h₀ L h' news' → Post r news' → Q r { s with heap := h', toks := tk' }) :
    wpAny (model PySem.Challenge.rw_pq1390_01.row.prog w) (ktrTop dp un gd cn cs L a ccd cl []) (call (.ref f) args) Q E s :=
  C _ _ _ _ _ _ _ _ _ _ _ _ _ _ _ _ _ _ _ _ _ B F X N T X T ktsDicts_nil hk hd hu fun r news' h₀' h' tk' T' F' N' _ _ _ _ P => ret r news' h' tk' (turn_back T' F') (turn_backN T' N') P
theorem ctT_useK (B : Below A₀ h₀ [] h₀) (F : Fr h₀ L s.heap m) (X : (hd.heap_1_39 w.params).In h₀) (N : News h₀ L s.heap news) (T : Top hd.view_1_40 loose mean mg mb h₀) (hk : cs.kind = .function) (C : CtS w f args sz news Post)
    {K : (Value → List (Addr × Obj) → Prop) → Prop} (cps : ∀ R : Value → List (Addr × Obj) → Prop, K R → ∀ r nw, Post r nw → R r nw) (hd : dp + sz < recursionLimit) (hu : un + 8 * sz < cLine)
    (ret : K (fun r news' => ∀ h' tk', Fr h₀ L h' m → News h₀ L h' news' → Q r { s with heap := h', toks := tk' })) :
    wpAny (model PySem.Challenge.rw_pq1390_01.row.prog w) (ktrTop dp un gd cn cs L a ccd cl []) (call (.ref f) args) Q E s := ctT_use B F X N T hk C hd hu fun r nw h' tk' F' N' P => cps _ ret r nw P h' tk' F' N'
theorem ctB_useK (hb : Hb base) (B : Below A₀ base outer h₀) (F : Fr h₀ L s.heap m) (X : (hd.heap_1_39 w.params).In h₀) (N : News h₀ L s.heap news) (T : Top hd.view_1_40 loose mean mg mb h₀) (hk : cs.kind = .function) (C : CtB w Hb f args sz news Post)
    {K : (Value → List (Addr × Obj) → Prop) → Prop} (cps : ∀ R : Value → List (Addr × Obj) → Prop, K R → ∀ r nw, Post r nw → R r nw) (hd : dp + sz < recursionLimit) (hu : un + 8 * sz < cLine)
    (ret : K (fun r news' => ∀ h' tk', Fr h₀ L h' m → News h₀ L h' news' → Q r { s with heap := h', toks := tk' })) :
    wpAny (model PySem.Challenge.rw_pq1390_01.row.prog w) (ktrTop dp un gd cn cs L a ccd cl outer) (call (.ref f) args) Q E s := ctB_use hb B F X N T hk C hd hu fun r nw h' tk' F' N' P => cps _ ret r nw P h' tk' F' N'
end

theorem lines42 : True := by
  k_with "mine allLt" => (first | (first | with_reducible assumption | exact (And.right (by with_reducible assumption)) | exact (And.right (And.right (by with_reducible assumption))) | exact (And.right (And.right (And.right (by with_reducible assumption)))) | exact (And.right (And.right (And.right (And.right (by with_reducible assumption))))) | exact (And.right (And.right (And.right (And.right (And.right (by with_reducible assumption)))))) | exact (And.right (And.right (And.right (And.right (And.right (And.right (by with_reducible assumption))))))) | exact (And.right (And.right (And.right (And.right (And.right (And.right (And.right (by with_reducible assumption)))))))) | exact (And.right (And.right (And.right (And.right (And.right (And.right (And.right (And.right (by with_reducible assumption))))))))) | exact (And.right (And.right (And.right (And.right (And.right (And.right (And.right (And.right (And.right (by with_reducible assumption)))))))))) | exact (And.right (And.right (And.right (And.right (And.right (And.right (And.right (And.right (And.right (And.right (by with_reducible assumption))))))))))) | exact (And.right (And.right (And.right (And.right (And.right (And.right (And.right (And.right (And.right (And.right (And.right (by with_reducible assumption)))))))))))) | exact (And.right (And.right (And.right (And.right (And.right (And.right (And.right (And.right (And.right (And.right (And.right (And.right (by with_reducible assumption))))))))))))) | exact (And.right (And.right (And.right (And.right (And.right (And.right (And.right (And.right (And.right (And.right (And.right (And.right (And.right (by with_reducible assumption)))))))))))))) | exact (And.right (And.right (And.right (And.right (And.right (And.right (And.right (And.right (And.right (And.right (And.right (And.right (And.right (And.right (by with_reducible assumption))))))))))))))) | (refine allLt_of ?_; with_reducible assumption)) | fail)
  k_with "own k_all" => (first | (first | with_reducible assumption | exact ne_of_allLt (by k_extra "mine allLt")) | fail)
  k_with "own k_all" => (first | (first | exact List.forall_mem_nil _ | (refine' List.forall_mem_cons.mpr ⟨?kcaq113, ?kcbq113⟩; (case kcaq113 => k_ne); (case kcbq113 => k_all))) | fail)
  trivial

theorem row_cps {P : Params} {l : Addr} {rest : List (Addr × Obj)} : ∀ R : Value → List (Addr × Obj) → Prop, (∀ (kind : String) (vs us : List Value) (n : Nat) (tl : List (Addr × Obj)) (x d i : Addr) (t0 t1 t2 t3 t4 tk : Tok), KindOk kind → vs.length ≤ 5 → Tups tl → (∀ v ∈ vs, EntAt tl kind v) → NutsL us → (@Ne Nat l i) → (∀ p ∈ rest ++ tl, p.1 ≠ i) → (@LT.lt Nat _ i d) → (@LT.lt Nat _ l d) → AllLt d (rest ++ tl) → (@LT.lt Nat _ d x) → Above tl rest →
    R (.ref x) ((x, instObj 106 d) :: (d, dictOf [⟨PyData.keyHash P "kind", .str "kind" t0, .str (Str.ofString kind) tk⟩, ⟨PyData.keyHash P "items", .str "items" t1, (.ref i)⟩, ⟨PyData.keyHash P "attrs", .str "attrs" t2, .none⟩, ⟨PyData.keyHash P "shared", .str "shared" t3, .bool false⟩, ⟨PyData.keyHash P "loose", .str "loose" t4, .bool false⟩] 5) :: (i, listOf vs.toArray vs.length) :: (l, listOf us.toArray n) :: (rest ++ tl))) → ∀ r nw, RowPost P l rest r nw → R r nw := by
  rintro R k r nw ⟨kind, vs, us, n, tl, x, d, i, t0, t1, t2, t3, t4, tk, rfl, a1, a2, a3, a4, a5, a6, a7, a8, a9, a10, a11, a12, rfl⟩; exact k kind vs us n tl x d i t0 t1 t2 t3 t4 tk a1 a2 a3 a4 a5 a6 a7 a8 a9 a10 a11 a12
theorem nuts_cps {news : List (Addr × Obj)} : ∀ R : Value → List (Addr × Obj) → Prop, (∀ (l : Addr) (us : List Value) (n : Nat), NutsL us → AllLt l news → R (.ref l) ((l, listOf us.toArray n) :: news)) → ∀ r nw, (∃ l us n, r = .ref l ∧ NutsL us ∧ AllLt l news ∧ nw = (l, listOf us.toArray n) :: news) → R r nw := by
  rintro R k r nw ⟨l, us, n, rfl, h1, h2, rfl⟩; exact k l us n h1 h2
theorem lines43 : True := by
  k_with "call ref" => (first | ((k_here; (with_reducible show wpAny _ _ (call (Value.ref 219) [Value.ref _, Value.int _ _]) _ _ _); k_dflt (refine' ct_useK ?k1q114 ?k2q114 ?k3q114 ?k4q114 ?k5q114 ?kKq114 (row_ct _ ?hiq114 ?hrq114 ?hzq114) row_cps ?kdq114 ?kuq114 ?_; (case k4q114 => refine' pull_news ?knq114 ?kpq114; (case knq114 => k_asm); (case kpq114 => k_extra "mine pull")); (case hiq114 => k_asm); (case hrq114 => k_all); (case hzq114 => first | exact Or.inl rfl | exact Or.inr (by omega)); (case k1q114 => k_asm); (case k2q114 => k_asm); (case k3q114 => k_asm); (case k5q114 => k_asm); (case kKq114 => first | exact rfl | assumption); (case kdq114 => ktr_room); (case kuq114 => ktr_units)); (intro kind'q114 vs'q114 us'q114 n'q114 tl'q114 x'q114 d'q114 i'q114 t0'q114 t1'q114 t2'q114 t3'q114 t4'q114 tk9'q114 hK'q114 hL'q114 hT'q114 hE'q114 husq114 hli'q114 hri'q114 hid'q114 hld'q114 hrd'q114 hdx'q114 hab'q114 h'q114 tk'q114 F'q114 N'q114; (try simp only [List.cons_append, List.nil_append, List.append_assoc, AllLt, List.forall_mem_cons, and_true] at N'q114 hri'q114 hrd'q114); (try dsimp only); (try k_sweep)))) | fail)
  k_with "call ref" => (first | ((k_here; (with_reducible show wpAny _ _ (call (Value.ref 200) [Value.ref _]) _ _ _); k_dflt (refine' ctB_useK ?hBq115 ?k1q115 ?k2q115 ?k3q115 ?k4q115 ?k5q115 ?kKq115 (nuts_ct _ ?hiq115 ?hlq115) nuts_cps ?kdq115 ?kuq115 ?_; (case k1q115 => k_asm); (case hBq115 => assumption); (case k4q115 => k_asm); (case hiq115 => assumption); (case hlq115 => omega); (case k2q115 => k_asm); (case k3q115 => k_asm); (case k5q115 => k_asm); (case kKq115 => first | exact rfl | assumption); (case kdq115 => ktr_room); (case kuq115 => ktr_units)); (intro l'q115 us'q115 n'q115 husq115 halq115 h'q115 tk'q115 F'q115 N'q115; (try simp only [AllLt, and_true] at halq115); (try dsimp only); (try k_sweep)))) | fail)
  k_with "call ref" => (first | ((k_here; (with_reducible show wpAny _ _ (call (Value.ref 243) [Value.ref _, Value.bool _]) _ _ _); k_dflt (refine' ctT_useK ?k1q116 ?k2q116 ?k3q116 ?k4q116 ?k5q116 ?kKq116 (handed_ct _ ?hVq116 ?hAq116) eq_cps ?kdq116 ?kuq116 ?_; (case k1q116 => k_asm); (case k4q116 => k_asm); (case hVq116 => k_extra "mine vec"); (case hAq116 => k_extra "mine attr"); (case k2q116 => k_asm); (case k3q116 => k_asm); (case k5q116 => k_asm); (case kKq116 => first | exact rfl | assumption); (case kdq116 => ktr_room); (case kuq116 => ktr_units)); (intro h'q116 tk'q116 F'q116 N'q116; (try dsimp only); (try k_sweep)))) | fail)
  k_with "call ref" => (first | ((k_here; (with_reducible show wpAny _ _ (call (Value.ref 250) [Value.ref _]) _ _ _); k_dflt (refine' ct_useK ?k1q117 ?k2q117 ?k3q117 ?k4q117 ?k5q117 ?kKq117 (asisholds_ct _ ?hVq117 ?hAq117 ?hrq117 ?hbq117) eq_cps ?kdq117 ?kuq117 ?_; (case k1q117 => k_asm); (case k4q117 => k_asm); (case hVq117 => k_extra "mine vec"); (case hAq117 => k_extra "mine attr"); (case hrq117 => assumption); (case hbq117 => assumption); (case k2q117 => k_asm); (case k3q117 => k_asm); (case k5q117 => k_asm); (case kKq117 => first | exact rfl | assumption); (case kdq117 => ktr_room); (case kuq117 => ktr_units)); (intro h'q117 tk'q117 F'q117 N'q117; (try dsimp only); (try k_sweep)))) | fail)
  k_with "mine refused" => (first | ((intro h'q118 tk'q118 F'q118 N'q118; (try dsimp only); (try k_sweep))) | fail)
  k_with "call ref" => (first | ((k_here; (with_reducible show wpAny _ _ (call (Value.ref 257) [Value.ref 186]) _ _ _); k_dflt (refine' ctT_useK ?k1q119 ?k2q119 ?k3q119 ?k4q119 ?k5q119 ?kKq119 (refused_fail _) eq_cps ?kdq119 ?kuq119 ?_; (case k1q119 => k_asm); (case k4q119 => k_asm); (case k2q119 => k_asm); (case k3q119 => k_asm); (case k5q119 => k_asm); (case kKq119 => first | exact rfl | assumption); (case kdq119 => ktr_room); (case kuq119 => ktr_units)); k_extra "mine refused")) | fail)
  k_with "call ref" => (first | ((k_here; (with_reducible show wpAny _ _ (call (Value.ref 257) [Value.ref 193]) _ _ _); k_dflt (refine' ctT_useK ?k1q120 ?k2q120 ?k3q120 ?k4q120 ?k5q120 ?kKq120 (refused_pass _) eq_cps ?kdq120 ?kuq120 ?_; (case k1q120 => k_asm); (case k4q120 => k_asm); (case k2q120 => k_asm); (case k3q120 => k_asm); (case k5q120 => k_asm); (case kKq120 => first | exact rfl | assumption); (case kdq120 => ktr_room); (case kuq120 => ktr_units)); k_extra "mine refused")) | fail)
  k_with "call ref" => (first | ((k_here; (with_reducible show wpAny _ _ (call (Value.ref 257) [Value.ref 167]) _ _ _); k_dflt (refine' ctT_useK ?k1q121 ?k2q121 ?k3q121 ?k4q121 ?k5q121 ?kKq121 (refused_offset _) eq_cps ?kdq121 ?kuq121 ?_; (case k1q121 => k_asm); (case k4q121 => k_asm); (case k2q121 => k_asm); (case k3q121 => k_asm); (case k5q121 => k_asm); (case kKq121 => first | exact rfl | assumption); (case kdq121 => ktr_room); (case kuq121 => ktr_units)); k_extra "mine refused")) | fail)
  k_with "call ref" => (first | ((k_here; (with_reducible show wpAny _ _ (call (Value.ref 257) [Value.ref 174]) _ _ _); k_dflt (refine' ctT_useK ?k1q122 ?k2q122 ?k3q122 ?k4q122 ?k5q122 ?kKq122 (refused_asis _) eq_cps ?kdq122 ?kuq122 ?_; (case k1q122 => k_asm); (case k4q122 => k_asm); (case k2q122 => k_asm); (case k3q122 => k_asm); (case k5q122 => k_asm); (case kKq122 => first | exact rfl | assumption); (case kdq122 => ktr_room); (case kuq122 => ktr_units)); k_extra "mine refused")) | fail)
  k_with "call ref" => (first | ((k_here; (with_reducible show wpAny _ _ (call (Value.ref 236) [Value.ref _]) _ _ _); (with_reducible rename BoxAt _ _ _ _ _ => hV9q123); k_dflt (refine' ctT_use ?k1q123 ?k2q123 ?k3q123 ?k4q123 ?k5q123 ?kKq123 (failbox_ct _ ?hVq123) ?kdq123 ?kuq123 ?_; (case k1q123 => k_asm); (case k4q123 => k_asm); (case hVq123 => k_extra "mine box"); (case k2q123 => k_asm); (case k3q123 => k_asm); (case k5q123 => k_asm); (case kKq123 => first | exact rfl | assumption); (case kdq123 => ktr_room); (case kuq123 => ktr_units)); (intro r9q123 nw9q123 h'q123 tk'q123 F'q123 N'q123 Q'q123; k_dflt (obtain ⟨D'q123, told'q123, word'q123, tk9'q123, n'q123, e1q123, l1q123, e2q123, qq123⟩ := Q'q123); subst e1q123; subst e2q123; ((try simp only [AllLt, and_true] at l1q123); (try dsimp only); (try k_sweep))))) | fail)
  trivial

/-- the same, at a call -/
def HaltC : Prop := True
theorem haltC : HaltC := trivial

theorem neNat {a b : Addr} (h : a ≠ b) : @Ne Nat a b := h

/-- the head of the ledger while the vector is dressed -/
abbrev preV (P : Params) (l : Addr) (us : List Value) (n : Nat) (x d i : Addr) (t0 t1 t2 t3 t4 tk : Tok) (kind : String) (vs : List Value) (c2 c1 : Addr × Obj) (av : Value) : List (Addr × Obj) :=
  [(l, listOf us.toArray n), (x, instObj 106 d), (d, dictOf [⟨PyData.keyHash P "kind", .str "kind" t0, .str (Str.ofString kind) tk⟩, ⟨PyData.keyHash P "items", .str "items" t1, .ref i⟩, ⟨PyData.keyHash P "attrs", .str "attrs" t2, av⟩, ⟨PyData.keyHash P "shared", .str "shared" t3, .bool false⟩, ⟨PyData.keyHash P "loose", .str "loose" t4, .bool false⟩] 5),
    (i, listOf vs.toArray vs.length), c2, c1]

/-- the vector is dressed -/
inductive Dressed (w : World) (h₀ : Heap) (L : Addr) (m : Str → Option Value) (s : Shared) (pre : Value → List (Addr × Obj)) (x : Addr) (kind : String) (vs : List Value) (tl : List (Addr × Obj)) (ok : Value → Option (List (Str × List Str)) → Prop) (fl : Flow) (s' : Shared) : Prop
  | intro (hf : fl = .next) (h : Heap) (tk : Nat) (av : Value) (am : Option (List (Str × List Str))) (R : List (Addr × Obj)) (e : s' = { s with heap := h, toks := tk }) (F : Fr h₀ L h m) (N : News h₀ L h (pre av ++ R)) (hV : VecAt w.params (pre av ++ R) x kind av vs tl) (hA : AttrAt w (pre av ++ R) av am) (h1 : (am.getD []).length ≤ 1) (h2 : (clsOf am).length ≤ 2)
    (h3 : ∀ p ∈ R, ∀ q ∈ pre av, q.1 ≠ p.1) (h5 : ∀ p ∈ tl, p ∈ R) (h4 : ok av am) : Dressed w h₀ L m s pre x kind vs tl ok fl s'

section
variable {w : World} {M : Model} {A : Around} {E : Value → Shared → Prop} {Q : Flow → Shared → Prop} {s : Shared} {h₀ : Heap} {L : Addr} {m : Str → Option Value} {t : Sem Flow} {l x d i : Addr} {us vs : List Value} {n : Nat} {t0 t1 t2 t3 t4 tk : Tok} {kind : String} {c1 c2 : Addr × Obj} {tl R : List (Addr × Obj)} {av : Value} {ok : Value → Option (List (Str × List Str)) → Prop}
theorem cut_dress (F : Fr h₀ L s.heap m) (_ : News h₀ L s.heap (preV w.params l us n x d i t0 t1 t2 t3 t4 tk kind vs c2 c1 av ++ R)) (_ : Tups tl) (ok : Value → Option (List (Str × List Str)) → Prop)
    (k : wpAny M A t (Dressed w h₀ L m s (preV w.params l us n x d i t0 t1 t2 t3 t4 tk kind vs c2 c1) x kind vs tl ok) E s)
    (k2 : ∀ h tk' av am R, Fr h₀ L h m → News h₀ L h (preV w.params l us n x d i t0 t1 t2 t3 t4 tk kind vs c2 c1 av ++ R) → VecAt w.params (preV w.params l us n x d i t0 t1 t2 t3 t4 tk kind vs c2 c1 av ++ R) x kind av vs tl → AttrAt w (preV w.params l us n x d i t0 t1 t2 t3 t4 tk kind vs c2 c1 av ++ R) av am →
      (am.getD []).length ≤ 1 → (clsOf am).length ≤ 2 → (∀ p ∈ R, ∀ q ∈ preV w.params l us n x d i t0 t1 t2 t3 t4 tk kind vs c2 c1 av, q.1 ≠ p.1) → (∀ p ∈ tl, p ∈ R) → ok av am → Q .next { s with heap := h, toks := tk' }) : wpAny M A t Q E s :=
  wpAny_mono k (fun fl s' h9 => by cases h9 with | intro e h tk' av am R e' F' N' hV hA h1 h2 h3 h5 h4 => subst e; subst e'; exact k2 h tk' av am R F' N' hV hA h1 h2 h3 h5 h4) fun _ _ e => e
theorem cut_dress1 {z : Int} (F : Fr h₀ L s.heap m) (N : News h₀ L s.heap (preV w.params l us n x d i t0 t1 t2 t3 t4 tk kind vs c2 c1 av ++ R)) (hT : Tups tl) (_ : z < 4)
    (k : wpAny M A t (Dressed w h₀ L m s (preV w.params l us n x d i t0 t1 t2 t3 t4 tk kind vs c2 c1) x kind vs tl (fun av _ => av = .none ∨ z = 1)) E s)
    (k2 : ∀ h tk' av am R, Fr h₀ L h m → News h₀ L h (preV w.params l us n x d i t0 t1 t2 t3 t4 tk kind vs c2 c1 av ++ R) → VecAt w.params (preV w.params l us n x d i t0 t1 t2 t3 t4 tk kind vs c2 c1 av ++ R) x kind av vs tl → AttrAt w (preV w.params l us n x d i t0 t1 t2 t3 t4 tk kind vs c2 c1 av ++ R) av am →
      (am.getD []).length ≤ 1 → (clsOf am).length ≤ 2 → (∀ p ∈ R, ∀ q ∈ preV w.params l us n x d i t0 t1 t2 t3 t4 tk kind vs c2 c1 av, q.1 ≠ p.1) → (∀ p ∈ tl, p ∈ R) → (av = .none ∨ z = 1) → Q .next { s with heap := h, toks := tk' }) : wpAny M A t Q E s :=
  cut_dress F N hT _ k k2
theorem dressed_end {h : Heap} {tk' : Nat} {all : List (Addr × Obj)} {am : Option (List (Str × List Str))} (F : Fr h₀ L h m) (N : News h₀ L h all) (R : List (Addr × Obj))
    (sub : ∀ p ∈ preV w.params l us n x d i t0 t1 t2 t3 t4 tk kind vs c2 c1 av ++ R, p ∈ all) (hk : KindOk kind ∧ vs.length ≤ 5 ∧ ∀ v ∈ vs, EntAt tl kind v) (ht : ∀ p ∈ tl, p ∈ R)
    (hA : AttrAt w (preV w.params l us n x d i t0 t1 t2 t3 t4 tk kind vs c2 c1 av ++ R) av am) (h1 : (am.getD []).length ≤ 1) (h2 : (clsOf am).length ≤ 2) (h3 : ∀ p ∈ R, ∀ q ∈ preV w.params l us n x d i t0 t1 t2 t3 t4 tk kind vs c2 c1 av, q.1 ≠ p.1) (h4 : ok av am) :
    Dressed w h₀ L m s (preV w.params l us n x d i t0 t1 t2 t3 t4 tk kind vs c2 c1) x kind vs tl ok .next { s with heap := h, toks := tk' } :=
  ⟨rfl, h, tk', av, am, R, rfl, F, cb_drop N sub, ⟨hk, d, i, vs.length, t0, t1, t2, t3, t4, tk, List.mem_append_left _ (.tail _ (.head _)), List.mem_append_left _ (.tail _ (.tail _ (.head _))), List.mem_append_left _ (.tail _ (.tail _ (.tail _ (.head _)))), fun p hp => List.mem_append_right _ (ht p hp)⟩, hA, h1, h2, h3, ht, h4⟩
theorem apart_av {av' : Value} (h : ∀ p ∈ R, ∀ q ∈ preV w.params l us n x d i t0 t1 t2 t3 t4 tk kind vs c2 c1 av, q.1 ≠ p.1) : ∀ p ∈ R, ∀ q ∈ preV w.params l us n x d i t0 t1 t2 t3 t4 tk kind vs c2 c1 av', q.1 ≠ p.1 := by
  intro p hp
  have h := h p hp
  simp only [List.forall_mem_cons] at h ⊢
  exact h
theorem apart_tl {h : Heap} (N : News h₀ L h (preV w.params l us n x d i t0 t1 t2 t3 t4 tk kind vs c2 c1 av ++ tl)) (hT : Tups tl) (hd : AllLt d tl) (hx : @LT.lt Nat _ d x) (hi : ∀ p ∈ tl, p.1 ≠ i) (hab : Above tl [c2, c1]) :
    ∀ p ∈ tl, ∀ q ∈ preV w.params l us n x d i t0 t1 t2 t3 t4 tk kind vs c2 c1 av, q.1 ≠ p.1 := by
  intro p hp
  have h1 := tups_ne N hT (fun q hq => List.mem_append_right _ hq) (.head _) (by dsimp only; decide) p hp
  have h2 := ktn_ltOf hd p hp
  have h3 := hi p hp
  have h4 := hab p hp c2 (.head _)
  have h5 := hab p hp c1 (.tail _ (.head _))
  simp only [List.forall_mem_cons]
  exact ⟨Ne.symm h1, Nat.ne_of_gt (Nat.lt_trans h2 hx), Nat.ne_of_gt h2, Ne.symm h3, Nat.ne_of_lt h4, Nat.ne_of_lt h5, List.forall_mem_nil _⟩
theorem apart_each (h : ∀ p ∈ R, ∀ q ∈ preV w.params l us n x d i t0 t1 t2 t3 t4 tk kind vs c2 c1 av, q.1 ≠ p.1) :
    (∀ p ∈ R, p.1 ≠ l) ∧ (∀ p ∈ R, p.1 ≠ x) ∧ (∀ p ∈ R, p.1 ≠ d) ∧ (∀ p ∈ R, p.1 ≠ i) ∧ (∀ p ∈ R, p.1 ≠ c2.1) ∧ (∀ p ∈ R, p.1 ≠ c1.1) :=
  ⟨fun p hp => Ne.symm (h p hp _ (.head _)), fun p hp => Ne.symm (h p hp _ (.tail _ (.head _))), fun p hp => Ne.symm (h p hp _ (.tail _ (.tail _ (.head _)))), fun p hp => Ne.symm (h p hp _ (.tail _ (.tail _ (.tail _ (.head _))))),
    fun p hp => Ne.symm (h p hp _ (.tail _ (.tail _ (.tail _ (.tail _ (.head _)))))), fun p hp => Ne.symm (h p hp _ (.tail _ (.tail _ (.tail _ (.tail _ (.tail _ (.head _)))))))⟩
theorem dressed_same {h : Heap} {tk' : Nat} {am : Option (List (Str × List Str))} (F : Fr h₀ L h m) (N : News h₀ L h (preV w.params l us n x d i t0 t1 t2 t3 t4 tk kind vs c2 c1 av ++ R))
    (hk : KindOk kind ∧ vs.length ≤ 5 ∧ ∀ v ∈ vs, EntAt tl kind v) (ht : ∀ p ∈ tl, p ∈ R)
    (hA : AttrAt w (preV w.params l us n x d i t0 t1 t2 t3 t4 tk kind vs c2 c1 av ++ R) av am) (h1 : (am.getD []).length ≤ 1) (h2 : (clsOf am).length ≤ 2) (h3 : ∀ p ∈ R, ∀ q ∈ preV w.params l us n x d i t0 t1 t2 t3 t4 tk kind vs c2 c1 av, q.1 ≠ p.1) (h4 : ok av am) :
    Dressed w h₀ L m s (preV w.params l us n x d i t0 t1 t2 t3 t4 tk kind vs c2 c1) x kind vs tl ok .next { s with heap := h, toks := tk' } :=
  dressed_end F N R (fun _ h => h) hk ht hA h1 h2 h3 h4
theorem dressed_four {h : Heap} {tk' : Nat} {am : Option (List (Str × List Str))} {p1 p2 p3 p4 : Addr × Obj} (F : Fr h₀ L h m) (N : News h₀ L h (p1 :: p2 :: p3 :: p4 :: (preV w.params l us n x d i t0 t1 t2 t3 t4 tk kind vs c2 c1 av ++ R)))
    (hk : KindOk kind ∧ vs.length ≤ 5 ∧ ∀ v ∈ vs, EntAt tl kind v) (ht : ∀ p ∈ tl, p ∈ R)
    (hA : AttrAt w (p1 :: p2 :: p3 :: p4 :: (preV w.params l us n x d i t0 t1 t2 t3 t4 tk kind vs c2 c1 av ++ R)) av am) (h1 : (am.getD []).length ≤ 1) (h2 : (clsOf am).length ≤ 2) (h3 : ∀ p ∈ R, ∀ q ∈ preV w.params l us n x d i t0 t1 t2 t3 t4 tk kind vs c2 c1 av, q.1 ≠ p.1) (h4 : ok av am)
    (a1 : ∀ q ∈ preV w.params l us n x d i t0 t1 t2 t3 t4 tk kind vs c2 c1 av, q.1 ≠ p1.1) (a2 : ∀ q ∈ preV w.params l us n x d i t0 t1 t2 t3 t4 tk kind vs c2 c1 av, q.1 ≠ p2.1)
    (a3 : ∀ q ∈ preV w.params l us n x d i t0 t1 t2 t3 t4 tk kind vs c2 c1 av, q.1 ≠ p3.1) (a4 : ∀ q ∈ preV w.params l us n x d i t0 t1 t2 t3 t4 tk kind vs c2 c1 av, q.1 ≠ p4.1) :
    Dressed w h₀ L m s (preV w.params l us n x d i t0 t1 t2 t3 t4 tk kind vs c2 c1) x kind vs tl ok .next { s with heap := h, toks := tk' } := by
  have perm : ∀ {pre : List (Addr × Obj)} {r : Addr × Obj}, r ∈ p1 :: p2 :: p3 :: p4 :: (pre ++ R) ↔ r ∈ pre ++ (p1 :: p2 :: p3 :: p4 :: R) := by
    intro pre r
    simp only [List.mem_cons, List.mem_append]
    constructor
    · rintro (h | h | h | h | h | h)
      · exact .inr (.inl h)
      · exact .inr (.inr (.inl h))
      · exact .inr (.inr (.inr (.inl h)))
      · exact .inr (.inr (.inr (.inr (.inl h))))
      · exact .inl h
      · exact .inr (.inr (.inr (.inr (.inr h))))
    · rintro (h | h | h | h | h | h)
      · exact .inr (.inr (.inr (.inr (.inl h))))
      · exact .inl h
      · exact .inr (.inl h)
      · exact .inr (.inr (.inl h))
      · exact .inr (.inr (.inr (.inl h)))
      · exact .inr (.inr (.inr (.inr (.inr h))))
  refine dressed_end F N (p1 :: p2 :: p3 :: p4 :: R) (fun p hp => perm.mpr hp) hk (fun p hp => .tail _ (.tail _ (.tail _ (.tail _ (ht p hp))))) (attrAt_mono hA fun p hp => perm.mp hp) h1 h2 ?_ h4
  exact List.forall_mem_cons.mpr ⟨a1, List.forall_mem_cons.mpr ⟨a2, List.forall_mem_cons.mpr ⟨a3, List.forall_mem_cons.mpr ⟨a4, h3⟩⟩⟩⟩
end

/-- a dict with one row of texts -/
theorem attr_one {w : World} {news : List (Addr × Obj)} {ad : Addr} {oa : Obj} {k : Str} {v : Value} {ss : List Str} (hm : (ad, oa) ∈ news) (hd : oa.IsDictOf (PySem.strKind prg w) [(k, v)]) (lo : (ad == sysModules) = false) (hc : ChrAt w.params news v ss) :
    AttrAt w news (.ref ad) (some [(k, ss)]) := ⟨ad, oa, _, rfl, hm, hd, lo, .cons hc .nil, Nat.le_of_ble_eq_true rfl⟩

theorem clsOf_names {ss : List Str} : (clsOf (some [(("names" : Str), ss)])).length ≤ 2 := by
  have e : rowAt [(("names" : Str), ss)] "class" = none := by unfold rowAt; rw [List.find?_cons]; rfl
  unfold clsOf
  rw [Option.getD_some, e]
  exact Nat.zero_le _
theorem clsOf_class {ss : List Str} (h : ss.length ≤ 2) : (clsOf (some [(("class" : Str), ss)])).length ≤ 2 := by
  have e : rowAt [(("class" : Str), ss)] "class" = some ss := by unfold rowAt; rw [List.find?_cons]; rfl
  unfold clsOf
  rw [Option.getD_some, e]
  exact h
theorem one_len {k : Str} {ss : List Str} : ((some [(k, ss)] : Option (List (Str × List Str))).getD []).length ≤ 1 := Nat.le_refl _

/-- the texts made so far -/
def TxtInv (R : List (Addr × Obj)) (i : Nat) (ys : List Value) (nw : List (Addr × Obj)) : Prop := nw = R ∧ ys.length = i ∧ ∃ ss, StrsAre ys ss
theorem strs_snoc : ∀ {ys : List Value} {ss : List Str}, StrsAre ys ss → ∀ (k : Str) (t : Tok), StrsAre (ys ++ [.str k t]) (ss ++ [k])
  | _, _, .nil, k, t => .cons k t .nil
  | _, _, .cons a u r, k, t => .cons a u (strs_snoc r k t)
theorem txtInv_next {R nw : List (Addr × Obj)} {i : Nat} {ys : List Value} {k : Str} {t : Tok} (h : TxtInv R i ys nw) : TxtInv R (i + 1) (ys ++ [.str k t]) nw := by
  obtain ⟨h1, h2, ss, h3⟩ := h
  exact ⟨h1, by rw [List.length_append, h2]; rfl, _, strs_snoc h3 k t⟩

/-- what holds as the rows of the box are drawn -/
def RowsInv (P : Params) (l : Addr) (B : List (Addr × Obj)) (i : Nat) (ys : List Value) (nw : List (Addr × Obj)) : Prop :=
  ∃ us n tl bs ks, NutsL us ∧ nw = (l, listOf us.toArray n) :: (B ++ tl) ∧ RowsI P tl ys bs ks ∧ ys.length = i ∧ (∀ p ∈ tl, p.1 ≠ l)
theorem rows_end {P : Params} {h₀ h h' : Heap} {L I C D l x d i : Addr} {m : Str → Option Value} {s : Shared} {tk0 tk' : Nat} {oI oC o : Obj} {ys us' vs : List Value} {n' k : Nat} {B tl tl' all rest : List (Addr × Obj)} {bs : List Bool} {ks : List (String × Addr)} {kind : String} {t0 t1 t2 t3 t4 tk : Tok}
    (F : Fr h₀ L h' m) (N : News h₀ L h' all)
    (e : all = (x, instObj 106 d) :: (d, dictOf [⟨PyData.keyHash P "kind", .str "kind" t0, .str (Str.ofString kind) tk⟩, ⟨PyData.keyHash P "items", .str "items" t1, .ref i⟩, ⟨PyData.keyHash P "attrs", .str "attrs" t2, .none⟩, ⟨PyData.keyHash P "shared", .str "shared" t3, .bool false⟩, ⟨PyData.keyHash P "loose", .str "loose" t4, .bool false⟩] 5) ::
      (i, listOf vs.toArray vs.length) :: (l, listOf us'.toArray n') :: (I, oI) :: (C, oC) :: (D, LCg.lst ys) :: (B ++ (tl ++ tl')))
    (off : LCg.Off3 I C D ((l, o) :: (B ++ tl))) (hi1 : @Ne Nat I i) (hi2 : @Ne Nat C i) (hi3 : @Ne Nat D i) (hli : @Ne Nat l i) (hd1 : @LT.lt Nat _ I d) (hd2 : @LT.lt Nat _ C d) (hd3 : @LT.lt Nat _ D d) (hld : @LT.lt Nat _ l d) (hdx : @LT.lt Nat _ d x)
    (hab : Above tl' ((I, oI) :: (C, oC) :: (D, LCg.lst ys) :: rest)) (hus : NutsL us') (hK : KindOk kind) (hL : vs.length ≤ 5) (hT : Tups tl') (hE : ∀ v ∈ vs, EntAt tl' kind v) (hR : RowsI P tl ys bs ks) (hl : ys.length = k) (htl : ∀ p ∈ tl, p.1 ≠ l) :
    LCg.CompEnd h₀ L m { s with heap := h, toks := tk0 } I oI C oC D (LCg.lst ys) (fun _ => True) (fun y nw => RowsInv P l B (k + 1) (ys ++ [y]) nw) (.ref x) { s with heap := h', toks := tk' } := by
  subst e
  have hl1 : ∀ p ∈ tl', p.1 ≠ l := tups_ne N hT (fun q hq => by
    simp only [List.mem_cons, List.mem_append]
    exact .inr (.inr (.inr (.inr (.inr (.inr (.inr (.inr (.inr hq))))))))) (by simp only [List.mem_cons]; exact .inr (.inr (.inr (.inl rfl)))) (by dsimp only; decide)
  refine LCg.CompEnd.intro (s₁ := { s with heap := h, toks := tk0 }) F N ((l, listOf us'.toArray n') :: (B ++ (tl ++ ((x, instObj 106 d) :: (d, dictOf [⟨PyData.keyHash P "kind", .str "kind" t0, .str (Str.ofString kind) tk⟩, ⟨PyData.keyHash P "items", .str "items" t1, .ref i⟩, ⟨PyData.keyHash P "attrs", .str "attrs" t2, .none⟩, ⟨PyData.keyHash P "shared", .str "shared" t3, .bool false⟩, ⟨PyData.keyHash P "loose", .str "loose" t4, .bool false⟩] 5) :: (i, listOf vs.toArray vs.length) :: tl')))) ?_ ?_ trivial ?_
  · intro p hp
    simp only [List.mem_cons, List.mem_append] at hp ⊢
    rcases hp with h | h | h | h | h | h | h | h | h | h
    · exact .inr (.inr (.inr (.inr (.inl h))))
    · exact .inr (.inr (.inr (.inr (.inr (.inl h)))))
    · exact .inr (.inr (.inr (.inr (.inr (.inr (.inl h))))))
    · exact .inr (.inr (.inr (.inl h)))
    · exact .inr (.inr (.inr (.inr (.inr (.inr (.inr (.inl h)))))))
    · exact .inr (.inr (.inr (.inr (.inr (.inr (.inr (.inr (.inl h))))))))
    · exact .inl h
    · exact .inr (.inl h)
    · exact .inr (.inr (.inl h))
    · exact .inr (.inr (.inr (.inr (.inr (.inr (.inr (.inr (.inr h))))))))
  · have om := off.mem
    refine LCg.Off3.of fun p hp => ?_
    simp only [List.mem_cons, List.mem_append] at hp
    rcases hp with rfl | hp | hp | rfl | rfl | rfl | hp
    · exact om (l, o) (.head _)
    · exact om p (.tail _ (List.mem_append.mpr (.inl hp)))
    · exact om p (.tail _ (List.mem_append.mpr (.inr hp)))
    · exact ⟨Nat.ne_of_gt (Nat.lt_trans hd1 hdx), Nat.ne_of_gt (Nat.lt_trans hd2 hdx), Nat.ne_of_gt (Nat.lt_trans hd3 hdx)⟩
    · exact ⟨Nat.ne_of_gt hd1, Nat.ne_of_gt hd2, Nat.ne_of_gt hd3⟩
    · exact ⟨Ne.symm hi1, Ne.symm hi2, Ne.symm hi3⟩
    · have ha := hab p hp
      exact ⟨Nat.ne_of_gt (ha (I, oI) (.head _)), Nat.ne_of_gt (ha (C, oC) (.tail _ (.head _))), Nat.ne_of_gt (ha (D, _) (.tail _ (.tail _ (.head _))))⟩
  · refine ⟨us', n', _, _, _, hus, rfl, (hR.mono fun p hp => List.mem_append.mpr (.inl hp)).snoc (b := vs.any (lackOf tl')) (q := (kind, i)) ⟨⟨x, kind, vs, tl', rfl, ⟨⟨hK, hL, hE⟩, d, i, vs.length, t0, t1, t2, t3, t4, tk, ?_, ?_, ?_, ?_⟩, rfl⟩, x, d, t0, t1, t2, t3, t4, tk, rfl, ?_, ?_⟩, by rw [List.length_append, hl]; rfl, ?_⟩
    · exact List.mem_append.mpr (.inr (.head _))
    · exact List.mem_append.mpr (.inr (.tail _ (.head _)))
    · exact List.mem_append.mpr (.inr (.tail _ (.tail _ (.head _))))
    · exact fun p hp => List.mem_append.mpr (.inr (.tail _ (.tail _ (.tail _ hp))))
    · exact List.mem_append.mpr (.inr (.head _))
    · exact List.mem_append.mpr (.inr (.tail _ (.head _)))
    · intro p hp
      simp only [List.mem_cons, List.mem_append] at hp
      rcases hp with hp | rfl | rfl | rfl | hp
      · exact htl p hp
      · exact Nat.ne_of_gt (Nat.lt_trans hld hdx)
      · exact Nat.ne_of_gt hld
      · exact Ne.symm hli
      · exact hl1 p hp

theorem lt2 {i : Int} (h0 : 0 ≤ i) (h1 : i < 2) : i = 0 ∨ i = 1 := by omega

/-- the line of the box is made -/
inductive Lined (w : World) (h₀ : Heap) (L : Addr) (m : Str → Option Value) (s : Shared) (ln rl : Addr) (ys : List Value) (bs : List Bool) (ks : List (String × Addr)) (fl : Flow) (s' : Shared) : Prop
  | intro (hf : fl = .next) (h : Heap) (tk : Nat) (zs : List Value) (cs : List Bool) (c n : Nat) (nw : List (Addr × Obj)) (e : s' = { s with heap := h, toks := tk }) (F : Fr h₀ L h m) (N : News h₀ L h nw) (h1 : (ln, listOf (ys ++ zs).toArray c) ∈ nw) (h2 : (rl, listOf ys.toArray n) ∈ nw) (h3 : RowsI w.params nw ys bs ks) (h4 : ItemsB w.params nw (ys ++ zs) (bs ++ cs)) (h5 : cs.any id = false) (h6 : zs.length ≤ 1) :
    Lined w h₀ L m s ln rl ys bs ks fl s'
section
variable {w : World} {M : Model} {A : Around} {E : Value → Shared → Prop} {Q : Flow → Shared → Prop} {s : Shared} {h₀ : Heap} {L : Addr} {m : Str → Option Value} {t : Sem Flow} {ln rl : Addr} {ys : List Value} {bs : List Bool} {ks : List (String × Addr)} {c : Nat} {p : Addr × Obj} {tl rest : List (Addr × Obj)}
theorem cut_line (F : Fr h₀ L s.heap m) (_ : News h₀ L s.heap ((ln, listOf ys.toArray c) :: p :: (rl, LCg.lst ys) :: rest)) (_ : RowsI w.params tl ys bs ks)
    (k : wpAny M A t (Lined w h₀ L m s ln rl ys bs ks) E s)
    (k2 : ∀ h tk' zs cs c n nw, Fr h₀ L h m → News h₀ L h nw → (ln, listOf (ys ++ zs).toArray c) ∈ nw → (rl, listOf ys.toArray n) ∈ nw → RowsI w.params nw ys bs ks → ItemsB w.params nw (ys ++ zs) (bs ++ cs) → cs.any id = false → zs.length ≤ 1 → Q .next { s with heap := h, toks := tk' }) : wpAny M A t Q E s :=
  wpAny_mono k (fun fl s' h9 => by cases h9 with | intro e h tk' zs cs c n nw e' F' N' h1 h2 h3 h4 h5 h6 => subst e; subst e'; exact k2 h tk' zs cs c n nw F' N' h1 h2 h3 h4 h5 h6) fun _ _ e => e
theorem lined_same {h : Heap} {tk' n : Nat} {nw : List (Addr × Obj)} (F : Fr h₀ L h m) (N : News h₀ L h nw) (h1 : (ln, listOf ys.toArray c) ∈ nw) (h2 : (rl, listOf ys.toArray n) ∈ nw) (h3 : RowsI w.params tl ys bs ks) (hs : ∀ p ∈ tl, p ∈ nw) :
    Lined w h₀ L m s ln rl ys bs ks .next { s with heap := h, toks := tk' } :=
  ⟨rfl, h, tk', [], [], c, n, nw, rfl, F, N, by rw [List.append_nil]; exact h1, h2, h3.mono hs, by rw [List.append_nil, List.append_nil]; exact (h3.mono hs).items, rfl, Nat.zero_le _⟩
theorem lined_more {h : Heap} {tk' n k e : Nat} {x d : Addr} {es : List DictEntry} {nw : List (Addr × Obj)} (F : Fr h₀ L h m) (N : News h₀ L h nw) (h1 : (ln, listOf (ys ++ [Value.ref x]).toArray c) ∈ nw) (h2 : (rl, listOf ys.toArray n) ∈ nw) (h3 : RowsI w.params tl ys bs ks) (hs : ∀ p ∈ tl, p ∈ nw)
    (hk : k = 77 ∨ k = 127) (hx : (x, instObj k d) ∈ nw) (hd : (d, dictOf es e) ∈ nw) :
    Lined w h₀ L m s ln rl ys bs ks .next { s with heap := h, toks := tk' } :=
  ⟨rfl, h, tk', [.ref x], [false], c, n, nw, rfl, F, N, h1, h2, h3.mono hs, (h3.mono hs).items.snoc (.inr ⟨x, k, d, es, e, rfl, hk, hx, hd, rfl⟩), rfl, Nat.le_refl _⟩
end

theorem box_of {P : Params} {h₀ h : Heap} {L x d ln : Addr} {t0 t1 t2 t3 t4 tk : Tok} {nw : List (Addr × Obj)} {vs : List Value} {bs : List Bool} {c : Nat}
    (_ : News h₀ L h ((x, instObj 106 d) :: (d, dictOf [⟨PyData.keyHash P "kind", .str "kind" t0, .str "list" tk⟩, ⟨PyData.keyHash P "items", .str "items" t1, .ref ln⟩, ⟨PyData.keyHash P "attrs", .str "attrs" t2, .none⟩, ⟨PyData.keyHash P "shared", .str "shared" t3, .bool false⟩, ⟨PyData.keyHash P "loose", .str "loose" t4, .bool false⟩] 5) :: nw))
    (hl : (ln, listOf vs.toArray c) ∈ nw) (hI : ItemsB P nw vs bs) (h5 : vs.length ≤ 5) :
    BoxAt P ((x, instObj 106 d) :: (d, dictOf [⟨PyData.keyHash P "kind", .str "kind" t0, .str "list" tk⟩, ⟨PyData.keyHash P "items", .str "items" t1, .ref ln⟩, ⟨PyData.keyHash P "attrs", .str "attrs" t2, .none⟩, ⟨PyData.keyHash P "shared", .str "shared" t3, .bool false⟩, ⟨PyData.keyHash P "loose", .str "loose" t4, .bool false⟩] 5) :: nw) x vs bs :=
  ⟨hI.mono fun _ h => .tail _ (.tail _ h), h5, d, ln, c, t0, t1, t2, t3, t4, tk, .head _, .tail _ (.head _), .tail _ (.tail _ hl)⟩
theorem any_app {bs cs : List Bool} (h : cs.any id = false) : (bs ++ cs).any id = bs.any id := by rw [List.any_append, h, Bool.or_false]

theorem any_absurd {P : Prop} {l : List Bool} {k : Nat} (h : decide (0 < k) = l.any id) (h1 : l.any id = true) (h2 : ¬ (0 : Int) < (k : Int)) : P := by
  rw [h1] at h
  have := of_decide_eq_true h
  exact absurd (by omega) h2
theorem any_absurd' {P : Prop} {l : List Bool} {k : Nat} (h : decide (0 < k) = l.any id) (h1 : l.any id = false) (h2 : (0 : Int) < (k : Int)) : P := by
  rw [h1] at h
  have := of_decide_eq_false h
  exact absurd (by omega) this

/-- the pairs made so far -/
def PairInv (R : List (Addr × Obj)) (ks : List (String × Addr)) (i : Nat) (ys : List Value) (nw : List (Addr × Obj)) : Prop := ∃ tl, nw = R ++ tl ∧ PairsI tl ys (ks.take i)
theorem pair_end {h₀ h h' : Heap} {L I C D tp : Addr} {m : Str → Option Value} {s : Shared} {tk tk' n i : Nat} {oI oC : Obj} {ys : List Value} {R tl : List (Addr × Obj)} {ks : List (String × Addr)} {q : String × Addr} {u : Tok} {S : List (Addr × Obj) → Prop}
    (F : Fr h₀ L h' m) (N : News h₀ L h' ((tp, ({ cls := .type "tuple", data := .seq #[.str (Str.ofString q.1) u, .ref q.2] n } : Obj)) :: (I, oI) :: (C, oC) :: (D, LCg.lst ys) :: (R ++ tl))) (off : LCg.Off3 I C D (R ++ tl))
    (h1 : @LT.lt Nat _ I tp) (h2 : @LT.lt Nat _ C tp) (h3 : @LT.lt Nat _ D tp) (hp : PairsI tl ys (ks.take i)) (hq : ks[i]? = some q) (hS : S (R ++ (tl ++ [(tp, ({ cls := .type "tuple", data := .seq #[.str (Str.ofString q.1) u, .ref q.2] n } : Obj))]))) :
    LCg.CompEnd h₀ L m { s with heap := h, toks := tk } I oI C oC D (LCg.lst ys) S (fun y nw => PairInv R ks (i + 1) (ys ++ [y]) nw) (.ref tp) { s with heap := h', toks := tk' } := by
  refine LCg.CompEnd.intro (s₁ := { s with heap := h, toks := tk }) F N (R ++ (tl ++ [(tp, ({ cls := .type "tuple", data := .seq #[.str (Str.ofString q.1) u, .ref q.2] n } : Obj))])) ?_ ?_ hS ⟨_, rfl, ?_⟩
  · intro p hp
    simp only [List.mem_cons, List.mem_append, List.not_mem_nil, or_false] at hp ⊢
    rcases hp with h | h | h | h | h | h
    · exact .inr (.inl h)
    · exact .inr (.inr (.inl h))
    · exact .inr (.inr (.inr (.inl h)))
    · exact .inr (.inr (.inr (.inr (.inl h))))
    · exact .inr (.inr (.inr (.inr (.inr h))))
    · exact .inl h
  · have om := off.mem
    refine LCg.Off3.of fun p hp => ?_
    rw [← List.append_assoc] at hp
    rcases List.mem_append.mp hp with hp | hp
    · exact om p hp
    · rw [List.mem_singleton.mp hp]
      exact ⟨Nat.ne_of_gt h1, Nat.ne_of_gt h2, Nat.ne_of_gt h3⟩
  · rw [take_snoc hq]
    exact (hp.mono fun p hp => List.mem_append.mpr (.inl hp)).snoc (List.mem_append.mpr (.inr (.head _)))

/-- a slice of a list that is read through an attribute -/
theorem my_slice {prog : Program} {w : World} {A : Around} {E : Value → Shared → Prop} {s : Shared} {h₀ : Heap} {L : Addr} {m : Str → Option Value} {news : List (Addr × Obj)} {value slice : PySem.Expr} {l : Addr} {ys zs : List Value} {vu : Value} {Q : Value → Shared → Prop}
    (F : Fr h₀ L s.heap m) (N : News h₀ L s.heap news) (hl : s.heap.IsList l (ys ++ zs).toArray) (pu : IsPart vu (some (ys.length : Int))) (hsz : (ys ++ zs).length ≤ sizeLine)
    (h : ∀ (D : Addr) h', Fr h₀ L h' m → News h₀ L h' ((D, listOf ys.toArray 0) :: news) → (∀ p ∈ news, p.1 < D) → Q (.ref D) { s with heap := h' })
    (hs : subscripted slice false (.ref l) (.ref s.heap.objs.size) = operate [.ref s.heap.objs.size, .ref l] (getItem (.ref l) (.ref s.heap.objs.size))) :
    wpAny (model prog w) A (subscriptTail value slice (.ref l) (.ref s.heap.objs.size)) Q E { s with heap := s.heap.push { cls := .type "slice", data := .fields #[.none, vu, .none] } } := by
  refine tail_any (Heap.IsList.typeIs (s := { s with heap := s.heap.push { cls := .type "slice", data := .fields #[.none, vu, .none] } }) (hl.push _)) list_getitem_lookup
    (wpAny_getItem_list_slice (hl.push _) (Heap.IsSliceOf.new ..) .none pu .none (by simp) ?_ (by rw [List.size_toArray]; exact hsz)) hs
  have N1 := News.push (F.push { cls := .type "slice", data := .fields #[.none, vu, .none] }) (N.grown fun _ _ e => Heap.get?_push_of_some _ e) { cls := .type "list", data := .seq (slicePick (ys ++ zs).toArray none (some (ys.length : Int)) none) }
  rw [Heap.size_push] at N1
  show Q (.ref (s.heap.push _).objs.size) _
  rw [Heap.size_push]
  have e : slicePick (ys ++ zs).toArray none (some (ys.length : Int)) none = ys.toArray := by
    rw [slicePick_upto']
    simp
  rw [e] at N1 ⊢
  exact h _ _ ((F.push _).push _) N1 fun p hp => Nat.lt_succ_of_lt (Heap.lt_size (N p hp).1)

def NullPost (news : List (Addr × Obj)) (r : Value) (nw : List (Addr × Obj)) : Prop :=
  ∃ (x d : Addr) (es : List DictEntry) (n : Nat), r = .ref x ∧ AllLt d news ∧ (@LT.lt Nat _ d x) ∧ nw = (x, instObj 77 d) :: (d, dictOf es n) :: news
theorem null_post {news : List (Addr × Obj)} {x d : Addr} {es : List DictEntry} {n : Nat} (l1 : AllLt d news) (l2 : @LT.lt Nat _ d x) : NullPost news (.ref x) ((x, instObj 77 d) :: (d, dictOf es n) :: news) := ⟨x, d, es, n, rfl, l1, l2, rfl⟩
set_option maxHeartbeats 16000000 in
theorem null_ct (w : World) {news : List (Addr × Obj)} : Ct w 77 [] 3 news (NullPost news) := by
  unfold Ct
  k_fill
  intro loose mean mg mb dp un gd cn cs a ccd cl outer A₀ base h₀ L m s Q E B F X N T hkd hd hu hret
  k_extra "mine class"
  k_extra "mine steps"
  exact hret _ _ _ _ (by k_asm) (by k_asm) (null_post (by k_extra "mine allLt") (by first | assumption | omega))

def SymPost (P : Params) (u : Tok) (news : List (Addr × Obj)) (r : Value) (nw : List (Addr × Obj)) : Prop :=
  ∃ (x d : Addr) (t0 t1 t2 t3 : Tok), r = .ref x ∧ AllLt d news ∧ (@LT.lt Nat _ d x) ∧ nw = (x, instObj 127 d) :: (d, dictOf [⟨PyData.keyHash P "kind", .str "kind" t0, .str "symbol" t3⟩, ⟨PyData.keyHash P "name", .str "name" t1, .str "s" u⟩, ⟨PyData.keyHash P "attrs", .str "attrs" t2, .none⟩] 3) :: news
theorem sym_post {P : Params} {u : Tok} {news : List (Addr × Obj)} {x d : Addr} {t0 t1 t2 t3 : Tok} (l1 : AllLt d news) (l2 : @LT.lt Nat _ d x) : SymPost P u news (.ref x) ((x, instObj 127 d) :: (d, dictOf [⟨PyData.keyHash P "kind", .str "kind" t0, .str "symbol" t3⟩, ⟨PyData.keyHash P "name", .str "name" t1, .str "s" u⟩, ⟨PyData.keyHash P "attrs", .str "attrs" t2, .none⟩] 3) :: news) := ⟨x, d, t0, t1, t2, t3, rfl, l1, l2, rfl⟩
set_option maxHeartbeats 16000000 in
theorem symbol_ct (w : World) {u : Tok} {news : List (Addr × Obj)} : Ct w 127 [.str "s" u] 3 news (SymPost w.params u news) := by
  unfold Ct
  k_fill
  intro loose mean mg mb dp un gd cn cs a ccd cl outer A₀ base h₀ L m s Q E B F X N T hkd hd hu hret
  k_extra "mine class"
  k_extra "mine steps"
  exact hret _ _ _ _ (by k_asm) (by k_asm) (sym_post (by k_extra "mine allLt") (by first | assumption | omega))

theorem null_cps {news : List (Addr × Obj)} : ∀ R : Value → List (Addr × Obj) → Prop, (∀ (x d : Addr) (es : List DictEntry) (n : Nat), AllLt d news → (@LT.lt Nat _ d x) → R (.ref x) ((x, instObj 77 d) :: (d, dictOf es n) :: news)) → ∀ r nw, NullPost news r nw → R r nw := by
  rintro R k r nw ⟨x, d, es, n, rfl, l1, l2, rfl⟩; exact k x d es n l1 l2
theorem sym_cps {P : Params} {u : Tok} {news : List (Addr × Obj)} : ∀ R : Value → List (Addr × Obj) → Prop, (∀ (x d : Addr) (t0 t1 t2 t3 : Tok), AllLt d news → (@LT.lt Nat _ d x) → R (.ref x) ((x, instObj 127 d) :: (d, dictOf [⟨PyData.keyHash P "kind", .str "kind" t0, .str "symbol" t3⟩, ⟨PyData.keyHash P "name", .str "name" t1, .str "s" u⟩, ⟨PyData.keyHash P "attrs", .str "attrs" t2, .none⟩] 3) :: news)) → ∀ r nw, SymPost P u news r nw → R r nw := by
  rintro R k r nw ⟨x, d, t0, t1, t2, t3, rfl, l1, l2, rfl⟩; exact k x d t0 t1 t2 t3 l1 l2
theorem lines44 : True := by
  k_with "call ref" => (first | ((k_here; (with_reducible show wpAny _ _ (call (Value.ref 77) []) _ _ _); k_dflt (refine' ct_useK ?k1q124 ?k2q124 ?k3q124 ?k4q124 ?k5q124 ?kKq124 (null_ct _) null_cps ?kdq124 ?kuq124 ?_; (case k4q124 => k_asm); (case k1q124 => k_asm); (case k2q124 => k_asm); (case k3q124 => k_asm); (case k5q124 => k_asm); (case kKq124 => first | exact rfl | assumption); (case kdq124 => ktr_room); (case kuq124 => ktr_units)); (intro x'q124 d'q124 es'q124 n'q124 l1q124 l2q124 h'q124 tk'q124 F'q124 N'q124; (try simp only [AllLt, and_true] at l1q124); (try dsimp only); (try k_sweep)))) | fail)
  k_with "call ref" => (first | ((k_here; (with_reducible show wpAny _ _ (call (Value.ref 77) ([] ++ [])) _ _ _); k_dflt (show wpAny _ _ (call (Value.ref 77) []) _ _ _); k_dflt (refine' ct_useK ?k1q125 ?k2q125 ?k3q125 ?k4q125 ?k5q125 ?kKq125 (null_ct _) null_cps ?kdq125 ?kuq125 ?_; (case k4q125 => k_asm); (case k1q125 => k_asm); (case k2q125 => k_asm); (case k3q125 => k_asm); (case k5q125 => k_asm); (case kKq125 => first | exact rfl | assumption); (case kdq125 => ktr_room); (case kuq125 => ktr_units)); (intro x'q125 d'q125 es'q125 n'q125 l1q125 l2q125 h'q125 tk'q125 F'q125 N'q125; (try simp only [AllLt, and_true] at l1q125); (try dsimp only); (try k_sweep)))) | fail)
  k_with "call ref" => (first | ((k_here; (with_reducible show wpAny _ _ (call (Value.ref 127) [Value.str _ _]) _ _ _); k_dflt (refine' ct_useK ?k1q126 ?k2q126 ?k3q126 ?k4q126 ?k5q126 ?kKq126 (symbol_ct _) sym_cps ?kdq126 ?kuq126 ?_; (case k4q126 => k_asm); (case k1q126 => k_asm); (case k2q126 => k_asm); (case k3q126 => k_asm); (case k5q126 => k_asm); (case kKq126 => first | exact rfl | assumption); (case kdq126 => ktr_room); (case kuq126 => ktr_units)); (intro x'q126 d'q126 t0'q126 t1'q126 t2'q126 t3'q126 l1q126 l2q126 h'q126 tk'q126 F'q126 N'q126; (try simp only [AllLt, and_true] at l1q126); (try dsimp only); (try k_sweep)))) | fail)
  trivial

section
variable {M : Model} {A : Around} {E : Value → Shared → Prop} {Q : Flow → Shared → Prop} {env : Env} {s : Shared}
theorem split6 {s0 s1 s2 s3 s4 s5 : Stmt} {rest : List Stmt} (P : Shared → Prop) (h1 : wpAny M A (execs [s0, s1, s2, s3, s4, s5] env) (fun fl s' => fl = .next ∧ P s') E s) (h2 : ∀ s', P s' → wpAny M A (execs rest env) Q E s') : wpAny M A (execs (s0 :: s1 :: s2 :: s3 :: s4 :: s5 :: rest) env) Q E s :=
  split_at (pre := [s0, s1, s2, s3, s4, s5]) P h1 h2
theorem split4 {s0 s1 s2 s3 : Stmt} {rest : List Stmt} (P : Shared → Prop) (h1 : wpAny M A (execs [s0, s1, s2, s3] env) (fun fl s' => fl = .next ∧ P s') E s) (h2 : ∀ s', P s' → wpAny M A (execs rest env) Q E s') : wpAny M A (execs (s0 :: s1 :: s2 :: s3 :: rest) env) Q E s :=
  split_at (pre := [s0, s1, s2, s3]) P h1 h2
theorem split3 {s0 s1 s2 : Stmt} {rest : List Stmt} (P : Shared → Prop) (h1 : wpAny M A (execs [s0, s1, s2] env) (fun fl s' => fl = .next ∧ P s') E s) (h2 : ∀ s', P s' → wpAny M A (execs rest env) Q E s') : wpAny M A (execs (s0 :: s1 :: s2 :: rest) env) Q E s :=
  split_at (pre := [s0, s1, s2]) P h1 h2
end

/-- the nuts and the cells are at hand; all else is forgotten -/
inductive St6 (h₀ : Heap) (L : Nat) (s s' : Shared) : Prop
  | intro (l x : Addr) (us : List Value) (n : Nat) (o2 o1 : Obj) (R : List (Addr × Obj)) (h : Heap) (tk : Nat) (m₁ : Str → Option Value) (z : Int) (zt : Tok) (e : s' = { s with heap := h, toks := tk }) (a1 : Fr h₀ L h (fun y => if y = "dress" then some (.int z zt) else if y = "v" then some (.ref x) else m₁ y))
    (a2 : News h₀ L h ((l, listOf us.toArray n) :: (L + 1 + 1, o2) :: (L + 1, o1) :: R)) (a3 : NutsL us) (a4 : o2.data = .cell none) (a5 : o1.data = .cell (some (.ref l))) (a6 : ∀ p ∈ R, p.1 ≠ l) (a7 : ∀ p ∈ R, p.1 ≠ L + 1 + 1) (a8 : ∀ p ∈ R, p.1 ≠ L + 1) (a9 : @LT.lt Nat _ (L + 1 + 1) l) : St6 h₀ L s s'
theorem st6_intro {h₀ h : Heap} {L : Nat} {s : Shared} {l x d i : Addr} {us vs : List Value} {n tk' : Nat} {od : Obj} {o2 o1 : Obj} {R : List (Addr × Obj)} {m₁ : Str → Option Value} {z : Int} {zt : Tok} (F : Fr h₀ L h (fun y => if y = "dress" then some (.int z zt) else if y = "v" then some (.ref x) else m₁ y))
    (N : News h₀ L h ((l, listOf us.toArray n) :: (x, instObj 106 d) :: (d, od) :: (i, listOf vs.toArray vs.length) :: (L + 1 + 1, o2) :: (L + 1, o1) :: R)) (hus : NutsL us) (h2 : o2.data = .cell none) (h1 : o1.data = .cell (some (.ref l)))
    (a1 : ∀ p ∈ (x, instObj 106 d) :: (d, od) :: (i, listOf vs.toArray vs.length) :: R, p.1 ≠ l) (a2 : ∀ p ∈ (x, instObj 106 d) :: (d, od) :: (i, listOf vs.toArray vs.length) :: R, p.1 ≠ L + 1 + 1) (a3 : ∀ p ∈ (x, instObj 106 d) :: (d, od) :: (i, listOf vs.toArray vs.length) :: R, p.1 ≠ L + 1) (hl : @LT.lt Nat _ (L + 1 + 1) l) :
    Flow.next = .next ∧ St6 h₀ L s { s with heap := h, toks := tk' } :=
  ⟨rfl, l, x, us, n, o2, o1, (x, instObj 106 d) :: (d, od) :: (i, listOf vs.toArray vs.length) :: R, h, tk', m₁, z, zt, rfl, F, cb_drop N (fun p hp => by
    simp only [List.mem_cons] at hp ⊢
    rcases hp with h | h | h | h | h | h | h
    · exact .inl h
    · exact .inr (.inr (.inr (.inr (.inl h))))
    · exact .inr (.inr (.inr (.inr (.inr (.inl h)))))
    · exact .inr (.inl h)
    · exact .inr (.inr (.inl h))
    · exact .inr (.inr (.inr (.inl h)))
    · exact .inr (.inr (.inr (.inr (.inr (.inr h)))))), hus, h2, h1, a1, a2, a3, hl⟩

/-- the rows are drawn -/
inductive St10 (w : World) (h₀ : Heap) (L : Nat) (m₀ : Str → Option Value) (s s' : Shared) : Prop
  | intro (l ln lk rl : Addr) (us ys ys8 : List Value) (bs : List Bool) (ks : List (String × Addr)) (n c : Nat) (o2 o1 : Obj) (R tl : List (Addr × Obj)) (h : Heap) (tk : Nat) (e : s' = { s with heap := h, toks := tk })
    (a1 : Fr h₀ L h (fun y => if y = "line" then some (.ref ln) else if y = "lacks_one" then some (.bool (decide (0 < (ys8.length : Int)))) else if y = "rows" then some (.ref rl) else m₀ y))
    (a2 : News h₀ L h ((ln, listOf ys.toArray c) :: (lk, LCg.lst ys8) :: (rl, LCg.lst ys) :: (l, listOf us.toArray n) :: (L + 1 + 1, o2) :: (L + 1, o1) :: (R ++ tl))) (a3 : NutsL us) (a4 : o1.data = .cell (some (.ref l))) (a5 : ∀ p ∈ R, p.1 ≠ l) (a6 : ∀ p ∈ tl, p.1 ≠ l) (a7 : @LT.lt Nat _ (L + 1 + 1) l)
    (a8 : decide (0 < ys8.length) = (List.take ys.length bs).any id) (a9 : RowsI w.params tl ys bs ks) (a10 : (@LT.lt Nat _ lk ln) ∧ (@LT.lt Nat _ rl ln) ∧ (@LT.lt Nat _ l ln) ∧ (@LT.lt Nat _ (L + 1 + 1) ln) ∧ (@LT.lt Nat _ (L + 1) ln) ∧ AllLt ln (R ++ tl)) (a11 : @Ne Nat rl lk ∧ @Ne Nat l lk ∧ @Ne Nat l rl) (a12 : ys.length ≤ 3) : St10 w h₀ L m₀ s s'

/-- the functions have been refused -/
inductive St18 (h₀ : Heap) (L : Addr) (m : Str → Option Value) (nw : List (Addr × Obj)) (s s' : Shared) : Prop
  | intro (a1 a2 a3 a4 b : Value) (h : Heap) (tk : Nat) (e : s' = { s with heap := h, toks := tk })
    (F : Fr h₀ L h (fun y => if y = "fn" then some a1 else if y = "fn" then some a2 else if y = "fn" then some a3 else if y = "fn" then some a4 else if y = "bare" then some b else m y)) (N : News h₀ L h nw) : St18 h₀ L m nw s s'
theorem st18_intro {h₀ h : Heap} {L : Addr} {m : Str → Option Value} {nw all : List (Addr × Obj)} {s : Shared} {tk : Nat} {a1 a2 a3 a4 b : Value} (F : Fr h₀ L h (fun y => if y = "fn" then some a1 else if y = "fn" then some a2 else if y = "fn" then some a3 else if y = "fn" then some a4 else if y = "bare" then some b else m y))
    (N : News h₀ L h all) (hs : ∀ p ∈ nw, p ∈ all) : Flow.next = .next ∧ St18 h₀ L m nw s { s with heap := h, toks := tk } := ⟨rfl, a1, a2, a3, a4, b, h, tk, rfl, F, cb_drop N hs⟩

section
variable {prog : Program} {w : World} {A : Around} {env : Env} {Q : Flow → Shared → Prop} {E : Value → Shared → Prop} {s : Shared} {h₀ : Heap}
theorem split_6 {s0 s1 s2 s3 s4 s5 : Stmt} {rest : List Stmt} {L : Nat} {mm : Str → Option Value} (_ : Fr h₀ L s.heap mm)
  (h1 : wpAny (model prog w) A (execs [s0, s1, s2, s3, s4, s5] env) (fun fl s' => fl = .next ∧ St6 h₀ L s s') E s)
  (k : ∀ (l x : Addr) (us : List Value) (n : Nat) (o2 o1 : Obj) (R : List (Addr × Obj)) (h : Heap) (tk : Nat) (m₁ : Str → Option Value) (z : Int) (zt : Tok), Fr h₀ L h (fun y => if y = "dress" then some (.int z zt) else if y = "v" then some (.ref x) else m₁ y) →
    News h₀ L h ((l, listOf us.toArray n) :: (L + 1 + 1, o2) :: (L + 1, o1) :: R) → NutsL us → o2.data = .cell none → o1.data = .cell (some (.ref l)) → (∀ p ∈ R, p.1 ≠ l) → (∀ p ∈ R, p.1 ≠ L + 1 + 1) → (∀ p ∈ R, p.1 ≠ L + 1) → (@LT.lt Nat _ (L + 1 + 1) l) →
    wpAny (model prog w) A (execs rest env) Q E { s with heap := h, toks := tk }) : wpAny (model prog w) A (execs (s0 :: s1 :: s2 :: s3 :: s4 :: s5 :: rest) env) Q E s :=
  split6 _ h1 fun s' h9 => by cases h9 with | intro l x us n o2 o1 R h tk m₁ z zt e a1 a2 a3 a4 a5 a6 a7 a8 a9 => subst e; exact k l x us n o2 o1 R h tk m₁ z zt a1 a2 a3 a4 a5 a6 a7 a8 a9
theorem split_10 {s0 s1 s2 s3 : Stmt} {rest : List Stmt} {L : Nat} {m₀ : Str → Option Value} (_ : Fr h₀ L s.heap m₀)
  (h1 : wpAny (model prog w) A (execs [s0, s1, s2, s3] env) (fun fl s' => fl = .next ∧ St10 w h₀ L m₀ s s') E s)
  (k : ∀ (l ln lk rl : Addr) (us ys ys8 : List Value) (bs : List Bool) (ks : List (String × Addr)) (n c : Nat) (o2 o1 : Obj) (R tl : List (Addr × Obj)) (h : Heap) (tk : Nat),
    Fr h₀ L h (fun y => if y = "line" then some (.ref ln) else if y = "lacks_one" then some (.bool (decide (0 < (ys8.length : Int)))) else if y = "rows" then some (.ref rl) else m₀ y) →
    News h₀ L h ((ln, listOf ys.toArray c) :: (lk, LCg.lst ys8) :: (rl, LCg.lst ys) :: (l, listOf us.toArray n) :: (L + 1 + 1, o2) :: (L + 1, o1) :: (R ++ tl)) → NutsL us → o1.data = .cell (some (.ref l)) → (∀ p ∈ R, p.1 ≠ l) → (∀ p ∈ tl, p.1 ≠ l) → (@LT.lt Nat _ (L + 1 + 1) l) →
    decide (0 < ys8.length) = (List.take ys.length bs).any id → RowsI w.params tl ys bs ks → ((@LT.lt Nat _ lk ln) ∧ (@LT.lt Nat _ rl ln) ∧ (@LT.lt Nat _ l ln) ∧ (@LT.lt Nat _ (L + 1 + 1) ln) ∧ (@LT.lt Nat _ (L + 1) ln) ∧ AllLt ln (R ++ tl)) → (@Ne Nat rl lk ∧ @Ne Nat l lk ∧ @Ne Nat l rl) → ys.length ≤ 3 →
    wpAny (model prog w) A (execs rest env) Q E { s with heap := h, toks := tk }) : wpAny (model prog w) A (execs (s0 :: s1 :: s2 :: s3 :: rest) env) Q E s :=
  split4 _ h1 fun s' h9 => by cases h9 with | intro l ln lk rl us ys ys8 bs ks n c o2 o1 R tl h tk e a1 a2 a3 a4 a5 a6 a7 a8 a9 a10 a11 a12 => subst e; exact k l ln lk rl us ys ys8 bs ks n c o2 o1 R tl h tk a1 a2 a3 a4 a5 a6 a7 a8 a9 a10 a11 a12
theorem st10_intro {L : Nat} {m₀ : Str → Option Value} {l ln lk rl : Addr} {us ys ys8 : List Value} {bs : List Bool} {ks : List (String × Addr)} {n c : Nat} {o2 o1 : Obj} {R tl : List (Addr × Obj)} {h : Heap} {tk : Nat}
    (F : Fr h₀ L h (fun y => if y = "line" then some (.ref ln) else if y = "lacks_one" then some (.bool (decide (0 < (ys8.length : Int)))) else if y = "rows" then some (.ref rl) else m₀ y))
    (N : News h₀ L h ((ln, listOf ys.toArray c) :: (lk, LCg.lst ys8) :: (rl, LCg.lst ys) :: (l, listOf us.toArray n) :: (L + 1 + 1, o2) :: (L + 1, o1) :: (R ++ tl))) (a3 : NutsL us) (a4 : o1.data = .cell (some (.ref l))) (a5 : ∀ p ∈ R, p.1 ≠ l) (a6 : ∀ p ∈ tl, p.1 ≠ l) (a7 : @LT.lt Nat _ (L + 1 + 1) l)
    (a8 : decide (0 < ys8.length) = (List.take ys.length bs).any id) (a9 : RowsI w.params tl ys bs ks) (a10 : (@LT.lt Nat _ lk ln) ∧ (@LT.lt Nat _ rl ln) ∧ (@LT.lt Nat _ l ln) ∧ (@LT.lt Nat _ (L + 1 + 1) ln) ∧ (@LT.lt Nat _ (L + 1) ln) ∧ AllLt ln (R ++ tl)) (a11 : @Ne Nat rl lk ∧ @Ne Nat l lk ∧ @Ne Nat l rl) (a12 : ys.length ≤ 3) :
    Flow.next = .next ∧ St10 w h₀ L m₀ s { s with heap := h, toks := tk } := ⟨rfl, l, ln, lk, rl, us, ys, ys8, bs, ks, n, c, o2, o1, R, tl, h, tk, rfl, F, N, a3, a4, a5, a6, a7, a8, a9, a10, a11, a12⟩
theorem split_18 {s0 s1 s2 : Stmt} {rest : List Stmt} {L : Addr} {m : Str → Option Value} {nw : List (Addr × Obj)} (_ : Fr h₀ L s.heap m) (_ : News h₀ L s.heap nw)
  (h1 : wpAny (model prog w) A (execs [s0, s1, s2] env) (fun fl s' => fl = .next ∧ St18 h₀ L m nw s s') E s)
  (k : ∀ (a1 a2 a3 a4 b : Value) (h : Heap) (tk : Nat), Fr h₀ L h (fun y => if y = "fn" then some a1 else if y = "fn" then some a2 else if y = "fn" then some a3 else if y = "fn" then some a4 else if y = "bare" then some b else m y) → News h₀ L h nw →
    wpAny (model prog w) A (execs rest env) Q E { s with heap := h, toks := tk }) : wpAny (model prog w) A (execs (s0 :: s1 :: s2 :: rest) env) Q E s :=
  split3 _ h1 fun s' h9 => by cases h9 with | intro a1 a2 a3 a4 b h tk e F N => subst e; exact k a1 a2 a3 a4 b h tk F N
end

theorem lines45 : True := by
  k_with "CompSrc" => (first | (refine stop_of ?_) | fail)
  k_with "call builtin:list.append" => (first | ((k_here; (with_reducible show wpAny _ _ (call (Value.builtin _) [Value.ref _, _]) _ _ _); k_dflt (refine' append_K (its := List.toArray _) ?k1q128 ?k2q128 ?k3q128 ?_ ?zq128; (case k1q128 => k_asm); (case k2q128 => k_asm); (case k3q128 => k_upd); (case zq128 => rw [sizeLine_eq, List.size_toArray]; omega); k_whole); intro h'q128 F'q128 N'q128; (try k_sweep))) | fail)
  k_with "subscriptTail" => (first | (((with_reducible show wpAny _ _ (subscriptTail (Expr.List _ _) _ (Value.ref _) (Value.int _ _)) _ _ _); refine stop_of ?_)) | fail)
  k_with "subscriptTail" => (first | (((with_reducible show wpAny _ _ (subscriptTail _ (Expr.Slice _ _ _ _) (Value.ref _) (Value.ref _)) _ _ _); refine stop_of ?_)) | fail)
  k_with "call ref" => (first | (((with_reducible show wpAny _ _ (call (Value.ref 236) _) _ _ _); (with_reducible rename HaltC => hH9q131); clear hH9q131; refine stop_of ?_)) | fail)
  k_with "mine pairs" => (first | ((refine' PairsI.mono (by assumption) ?vmq132; (case vmq132 => k_extra "mine sub9"))) | fail)
  k_with "compareOp Eq ref ref" => (first | ((k_here; k_dflt (refine' pairs_eq ?Nq133 ?aq133 ?bq133 ?hq133 ?h'q133 ?uq133 ?_; (case Nq133 => k_asm); (case aq133 => k_mem); (case bq133 => k_mem); (case hq133 => k_extra "mine pairs"); (case h'q133 => k_extra "mine pairs"); (case uq133 => ktr_units); k_whole))) | fail)
  k_with "mine same" => (first | (((with_reducible rename Fr _ _ _ _ => F5q134); (with_reducible rename News _ _ _ _ => N5q134); first | exact same_end F5q134 N5q134 (fun _ h => h) | exact any_absurd (by assumption) (by assumption) (by assumption) | exact any_absurd' (by assumption) (by assumption) (by assumption))) | fail)
  trivial


namespace law_all
theorem tw2103784332974290115 : True := trivial
theorem tw13833317127055801060 : True := trivial
theorem tw12729013581757030507 : True := trivial
theorem tw3983192056104361193 : True := trivial
theorem tw9642360315720231220 : True := trivial
theorem tw7318158564511299729 : True := trivial
theorem tw17074971947010181610 : True := trivial
theorem tw2161507521139017325 : True := trivial
theorem tw10253732280001569212 : True := trivial
theorem tw10623982647197800651 : True := trivial
theorem tw16348121039232670680 : True := trivial
theorem tw14640322939972922974 : True := trivial
theorem tw15638214500589831823 : True := trivial
theorem tw2126261026752179203 : True := trivial
theorem tw15640896081885072018 : True := trivial
theorem tw16654605471950451980 : True := trivial
theorem tw4261436866732715612 : True := trivial
theorem tw8729561690571945798 : True := trivial
theorem tw8585119295471724657 : True := trivial
theorem tw11185291794543270386 : True := trivial
theorem tw12168520589393599259 : True := trivial
theorem tw11660793784710997211 : True := trivial
theorem tw2252203913613538044 : True := trivial
theorem tw2534205154373081525 : True := trivial
theorem tw9144500139776326259 : True := trivial
theorem tw12539917319762660869 : True := trivial
theorem tw7791439051762490624 : True := trivial
theorem tw13809103348235374114 : True := trivial
theorem tw1071026390990159442 : True := trivial
theorem tw16040996727448430886 : True := trivial
theorem tw12338384112835736923 : True := trivial
theorem tw16317050728709778059 : True := trivial
theorem tw404534946110283943 : True := trivial
theorem tw14225962978905420208 : True := trivial
theorem tw569701484050765398 : True := trivial
theorem tw9462503695670663216 : True := trivial
theorem tw17613353281601113540 : True := trivial
theorem tw15111771918000721386 : True := trivial
theorem tw5099097261256123588 : True := trivial
theorem tw7409287226382816078 : True := trivial
theorem tw4638716497167235156 : True := trivial
theorem tw15102585243479572927 : True := trivial
theorem tw1819660966834464121 : True := trivial
theorem tw5810238935025566227 : True := trivial
theorem tw6550320685308687620 : True := trivial
theorem tw15994752243992478524 : True := trivial
theorem tw7570389025846386837 : True := trivial
theorem tw11509529326707108785 : True := trivial
theorem tw2406078263742745528 : True := trivial
theorem tw17749092094045793073 : True := trivial
theorem tw3012268511640468390 : True := trivial
theorem tw4073406199993252850 : True := trivial
theorem tw1244168298268136379 : True := trivial
theorem tw9278401209076089947 : True := trivial
theorem tw1988555749612562791 : True := trivial
theorem tw8192627400900402444 : True := trivial
theorem tw13008198028515782221 : True := trivial
theorem tw10896277292899978828 : True := trivial
theorem tw2466386354987971064 : True := trivial
theorem tw16108003277724382137 : True := trivial
theorem tw1115970785884932992 : True := trivial
theorem tw185478952616494882 : True := trivial
theorem tw1908834790331025158 : True := trivial
theorem tw14690459059760270787 : True := trivial
theorem tw17699220586243776058 : True := trivial
theorem tw17315619143187196331 : True := trivial
theorem tw5429858767254799258 : True := trivial
theorem tw7424173207631694637 : True := trivial
theorem tw11424670800963846383 : True := trivial
theorem tw18425384942027050804 : True := trivial
theorem tw1347740606709914761 : True := trivial
theorem tw13838683757722122955 : True := trivial
theorem tw10382579582808609351 : True := trivial
theorem tw10808177503072308079 : True := trivial
theorem tw9015332790510971594 : True := trivial
theorem tw5467091673537627360 : True := trivial
theorem tw2127671843654578818 : True := trivial
theorem tw7219402698325937587 : True := trivial
theorem tw7093450904264552785 : True := trivial
theorem tw7042643379613257464 : True := trivial
theorem tw7497220510776412333 : True := trivial
theorem tw5925129876391146066 : True := trivial
theorem tw9496831969247301946 : True := trivial
theorem tw8406315387685492880 : True := trivial
theorem tw5923626274025043023 : True := trivial
theorem tw2425498562415444253 : True := trivial
theorem tw7647884552941119451 : True := trivial
theorem tw3560663033078476128 : True := trivial
theorem tw4629605032302363013 : True := trivial
theorem tw11378994670534948722 : True := trivial
theorem tw11195006048519719982 : True := trivial
theorem tw4875587917594351017 : True := trivial
theorem tw11655911931479345256 : True := trivial
theorem tw3658401073832251761 : True := trivial
theorem tw1702886262042523489 : True := trivial
theorem tw10425333190776739551 : True := trivial
theorem tw8535912834424054975 : True := trivial
theorem tw12578298129586543361 : True := trivial
theorem tw9729604732972894722 : True := trivial
theorem tw12415205634060267573 : True := trivial
theorem tw6592884879708733306 : True := trivial
theorem tw2818472761355251851 : True := trivial
theorem tw6775264209203825292 : True := trivial
theorem tw9400421687833027045 : True := trivial
theorem tw14384918623772240547 : True := trivial
theorem tw6022211634629375331 : True := trivial
theorem tw10780945830723714241 : True := trivial
theorem tw9337859482809679654 : True := trivial
theorem tw2998912247221761101 : True := trivial
theorem tw11968179528029030403 : True := trivial
theorem tw5386138778478946084 : True := trivial
theorem tw7385059913978287034 : True := trivial
theorem tw1166129813771130549 : True := trivial
theorem tw3806819470392062991 : True := trivial
theorem tw8477260872076281893 : True := trivial
theorem tw11566998951525393313 : True := trivial
theorem tw801417409540640141 : True := trivial
theorem tw16554581222923942874 : True := trivial
theorem tw740504054621376137 : True := trivial
theorem tw7049779834799297369 : True := trivial
theorem tw10495323473316150548 : True := trivial
theorem tw8559622642134532576 : True := trivial
theorem tw8587321083128229445 : True := trivial
theorem tw18438550808169337630 : True := trivial
theorem tw4663659113027530946 : True := trivial
theorem tw6064550380648306667 : True := trivial
theorem tw17073913150402608559 : True := trivial
theorem tw14578468027487938174 : True := trivial
theorem tw6945231640579222094 : True := trivial
theorem tw16736700015079776020 : True := trivial
theorem tw18031673381082608066 : True := trivial
theorem tw14161950200463332022 : True := trivial
theorem tw3647167244474244301 : True := trivial
theorem tw2791512771193701167 : True := trivial
theorem tw3728958221131766131 : True := trivial
theorem tw7382394883274062982 : True := trivial
theorem tw11986533732874898875 : True := trivial
theorem tw9689807171717994463 : True := trivial
theorem tw9758465039191818689 : True := trivial
theorem tw8732206733074496467 : True := trivial
theorem tw644193453371022997 : True := trivial
theorem tw10969439180591476309 : True := trivial
theorem tw16436836394604217106 : True := trivial
theorem tw16377440506400284361 : True := trivial
theorem tw14236084546645660719 : True := trivial
theorem tw16389678097679539626 : True := trivial
theorem tw7520025766007317126 : True := trivial
theorem tw1068153473233568800 : True := trivial
theorem tw11194228370837134999 : True := trivial
theorem tw13531483092564520072 : True := trivial
theorem tw8305597428437692698 : True := trivial
theorem tw6564360385875737041 : True := trivial
theorem tw6821728593225765917 : True := trivial
theorem tw16768936007509957499 : True := trivial
theorem tw11085147635474315433 : True := trivial
theorem tw14966067393961270158 : True := trivial
theorem tw7290121776363987770 : True := trivial
theorem tw932543772472431281 : True := trivial
theorem tw782427809645370415 : True := trivial
theorem tw7416931893851735294 : True := trivial
theorem tw12507762813244862470 : True := trivial
theorem tw2872085493576920064 : True := trivial
theorem tw14643942157258506644 : True := trivial
theorem tw6652356289361680949 : True := trivial
theorem tw16074868582555063224 : True := trivial
theorem tw18069371669798473238 : True := trivial
theorem tw6456847839567275990 : True := trivial
theorem tw289511000256421866 : True := trivial
theorem tw8259473591719373357 : True := trivial
theorem tw796818876455020728 : True := trivial
theorem tw2465578340897827915 : True := trivial
theorem tw12961678295145188246 : True := trivial
theorem tw4338267340049963969 : True := trivial
theorem tw937055499877386264 : True := trivial
theorem tw17198419215744740974 : True := trivial
theorem tw15982079766070313398 : True := trivial
theorem tw2355731226331693373 : True := trivial
theorem tw5030892685219871354 : True := trivial
theorem tw8937883705780218553 : True := trivial
theorem tw2763200530551224835 : True := trivial
theorem tw3986953027485292477 : True := trivial
theorem tw2885707341163702077 : True := trivial
theorem tw16413752452701970063 : True := trivial
theorem tw9847930118418132646 : True := trivial
theorem tw11407212017213923087 : True := trivial
theorem tw11575233253633470811 : True := trivial
theorem tw1684386024576819110 : True := trivial
theorem tw4547236602926478784 : True := trivial
theorem tw7296818474457393607 : True := trivial
theorem tw13760747126890918739 : True := trivial
theorem tw15275527861284700546 : True := trivial
theorem tw14007897523862953668 : True := trivial
theorem tw13367176642022358155 : True := trivial
theorem tw15696156366995490489 : True := trivial
theorem tw3328231346644923771 : True := trivial
theorem tw13794602993731048600 : True := trivial
theorem tw18369321035705266579 : True := trivial
theorem tw10300875812035996732 : True := trivial
theorem tw3325111520719290175 : True := trivial
theorem tw18383949787495555429 : True := trivial
theorem tw154029563992915288 : True := trivial
theorem tw1288270072008814257 : True := trivial
theorem tw12795914074852961918 : True := trivial
theorem tw9429942708143374130 : True := trivial
theorem tw11549886222698464505 : True := trivial
theorem tw14115007137499183204 : True := trivial
theorem tw7209142699435546151 : True := trivial
theorem tw7564772252293548769 : True := trivial
theorem tw2238069962009214901 : True := trivial
theorem tw15175368528575537740 : True := trivial
theorem tw11596821628577882342 : True := trivial
theorem tw168551618296024960 : True := trivial
theorem tw11266150474529332087 : True := trivial
theorem tw374766727668220859 : True := trivial
theorem tw10427768884268684552 : True := trivial
theorem tw645013614473375241 : True := trivial
theorem tw11587524997120335971 : True := trivial
theorem tw10294897870698960256 : True := trivial
theorem tw9741297799410488584 : True := trivial
theorem tw3049941219963327188 : True := trivial
theorem tw6818535541638068524 : True := trivial
theorem tw11090485264053204359 : True := trivial
theorem tw9824717787621960042 : True := trivial
theorem tw196974008228917347 : True := trivial
theorem tw4607750278909125284 : True := trivial
theorem tw15189314362614519228 : True := trivial
theorem tw5007728179111998763 : True := trivial
theorem tw17138794587834298416 : True := trivial
theorem tw31263012393092130 : True := trivial
theorem tw2942426997265644656 : True := trivial
theorem tw7292434958787203408 : True := trivial
theorem tw17120200779325065073 : True := trivial
theorem tw17413550076941298003 : True := trivial
theorem tw3207115444309807146 : True := trivial
theorem tw3053660256275331401 : True := trivial
theorem tw34981568851968291 : True := trivial
theorem tw498969334165971575 : True := trivial
theorem tw2030871139163601056 : True := trivial
theorem tw7244142420057014546 : True := trivial
theorem tw11836482064631991793 : True := trivial
theorem tw3707600311073335261 : True := trivial
theorem tw2721814648045382242 : True := trivial
theorem tw17610193108198147946 : True := trivial
theorem tw18424452837839797475 : True := trivial
theorem tw17633126580248655646 : True := trivial
theorem tw3105058145372789786 : True := trivial
theorem tw4179209112946984403 : True := trivial
theorem tw12481217338035120217 : True := trivial
theorem tw7886501397380830231 : True := trivial
theorem tw16577843217576899742 : True := trivial
end law_all

set_option Elab.async true in
set_option maxHeartbeats 16000000 in
theorem law_all : PySem.Challenge.rw_pq1390_01.Holds := by
  w_on
  o_law
  k_head
  (case hw => w_witness2)
  refine head_swap (q' := hd.view_1_40) (K' := hd.heap_1_39) (by kernel_rfl) (by kernel_rfl) (fun e9 => ?_)
  k_go0
  (all_goals try k_fold)
  (with_reducible rename World => w)
  (with_reducible rename Fr _ _ _ _ => F0)
  refine split_6 F0 ?_ ?_
  · have hH := halt
    k_extra "mine steps"
    unfold Stop
    (with_reducible rename Fr _ _ _ _ => F9)
    generalize bindL _ _ = m₁ at F9
    (with_reducible rename News _ _ _ _ => N9)
    (with_reducible rename Tups _ => hT9)
    (with_reducible rename _ < (4 : Int) => hb9)
    (with_reducible rename (_ ∧ _ ∧ ∀ x ∈ _, Prod.fst x ≠ _) => hq9)
    have hqa9 := neNat hq9.1
    have hqb9 := neNat hq9.2.1
    have hap9 := apart_tl N9 hT9 (by k_extra "mine allLt") (by assumption) hq9.2.2 (by assumption)
    refine cut_dress1 F9 N9 hT9 hb9 ?_ ?_
    · k_extra "mine steps"
      · unfold Stop
        (with_reducible rename Fr _ _ _ _ => F9)
        k_dflt (refine LCg.ListComp_U (F₀ := F9) (by rfl) (by decide) (by rfl) (by decide) (by rfl) ?_)
        k_extra "mine steps"
        unfold Stop
        (with_reducible rename Fr _ _ _ _ => F9)
        (with_reducible rename News _ _ _ _ => N9)
        (with_reducible rename IsRange _ _ _ _ _ _ _ _ => R9)
        refine LCg.CompSrc.range (by rfl) F9 N9 R9 (small_one (by decide) (by decide) (by omega) (by omega)) (rangeSize_nat _ _) (by rw [sizeLine_eq]; omega) ?_
        intro g9
        refine compRest_inv _ (TxtInv _) ?_ ?_ _ 0 [] _ (Nat.zero_add _) ⟨rfl, rfl, [], .nil⟩
        · intro i9 ys9 nw9 hi9 hI9 v9 I9 oI9 C9 oC9 D9 m9 h9 tk9 E9 hv9 hC9 hx9 F9 N9 off9 ne9
          have hnw := hI9.1
          subst hnw
          obtain ⟨t9, rfl⟩ := hv9
          k_extra "mine steps"
          unfold Stop
          (with_reducible rename Fr _ _ _ _ => F8)
          (with_reducible rename News _ _ _ _ => N8)
          exact LCg.CompEnd.intro F8 N8 _ (fun _ h => h) off9 trivial (txtInv_next hI9)
        · intro ys9 nw9 hI9
          obtain ⟨rfl, hl9, ss9, hss9⟩ := hI9
          have hsl9 := hss9.length
          k_extra "mine steps"
          (with_reducible rename Fr _ _ _ _ => F8)
          (with_reducible rename News _ _ _ _ => N8)
          (with_reducible rename Obj.IsDictOf _ _ _ => hd8)
          refine dressed_four F8 N8 ⟨by assumption, by assumption, by assumption⟩ (fun _ h => h) (attr_one (by k_mem) hd8 (by assumption) (chr_at (vs := ys9) (by k_mem) (by k_mem) (by k_mem) hss9 (by first | exact len8 hsl9 hl9 (by assumption) | omega))) one_len clsOf_names ?_ (.inr (by assumption)) (by k_all) (by k_all) (by k_all) (by k_all)
          exact apart_av hap9
      · (with_reducible rename Fr _ _ _ _ => F8)
        (with_reducible rename News _ _ _ _ => N8)
        exact dressed_same (am := none) F8 N8 ⟨by assumption, by assumption, by assumption⟩ (fun _ h => h) rfl (Nat.zero_le _) (Nat.zero_le _) hap9 (.inl rfl)
    · intro h9 tk9 av9 am9 R9 F9 N9 hV9 hA9 hr9 hc9 hap9 ht9 hav9
      dsimp only
      simp only [preV, List.cons_append, List.nil_append] at N9
      have hH := halt
      k_extra "mine steps"
      unfold Stop
      (with_reducible rename Fr _ _ _ _ => F8)
      (with_reducible rename News _ _ _ _ => N8)
      obtain ⟨hl9, hx9, hd9, hi9, hc29, hc19⟩ := apart_each hap9
      refine cut_dress F8 N8 hT9 (fun _ _ => True) ?_ ?_
      · k_extra "mine steps"
        · (with_reducible rename Fr _ _ _ _ => F8)
          (with_reducible rename News _ _ _ _ => N8)
          (with_reducible rename Obj.IsDictOf _ _ _ => hd8)
          exact dressed_four F8 N8 ⟨by assumption, by assumption, by assumption⟩ ht9 (attr_one (by k_mem) hd8 (by assumption) (chr_at (vs := [_]) (by k_mem) (by k_mem) (by k_mem) (.cons _ _ .nil) (by decide))) one_len (clsOf_class (by decide)) (apart_av hap9) trivial (by k_all) (by k_all) (by k_all) (by k_all)
        · (with_reducible rename Fr _ _ _ _ => F8)
          (with_reducible rename News _ _ _ _ => N8)
          (with_reducible rename Obj.IsDictOf _ _ _ => hd8)
          exact dressed_four F8 N8 ⟨by assumption, by assumption, by assumption⟩ ht9 (attr_one (by k_mem) hd8 (by assumption) (chr_at (vs := [_, _]) (by k_mem) (by k_mem) (by k_mem) (.cons _ _ (.cons _ _ .nil)) (by decide))) one_len (clsOf_class (by decide)) (apart_av hap9) trivial (by k_all) (by k_all) (by k_all) (by k_all)
        · (with_reducible rename Fr _ _ _ _ => F8)
          (with_reducible rename News _ _ _ _ => N8)
          exact dressed_same F8 N8 ⟨by assumption, by assumption, by assumption⟩ ht9 hA9 hr9 hc9 hap9 trivial
      · intro h8 tk8 av8 am8 R8 F7 N7 hV8 hA8 hr8 hc8 hap8 ht8 hok8
        clear hV9 hA9 hap9 ht9 N8 F8 N9 F9 hl9 hx9 hd9 hi9 hc29 hc19 hr9 hc9 hav9 R9 am9 av9
        obtain ⟨hl9, hx9, hd9, hi9, hc29, hc19⟩ := apart_each hap8
        dsimp only at hc29 hc19
        have hr9 : (am8.getD []).length ≤ 6 := by omega
        have hc9 : (clsOf am8).length ≤ 6 := by omega
        dsimp only
        simp only [preV, List.cons_append, List.nil_append] at N7 hV8 hA8
        k_extra "mine steps"
        (with_reducible rename Fr _ _ _ _ => F5)
        (with_reducible rename News _ _ _ _ => N5)
        exact (st6_intro F5 N5 (by assumption) (by assumption) (by assumption) (by k_all) (by k_all) (by k_all) (by omega)).2
  · clear F0
    intro l x us n o2 o1 R h tk m₁ z zt F N hus ho2 ho1 hRl hR2 hR1 hl
    refine split_10 F ?_ ?_
    · k_extra "mine steps"
      unfold Stop
      (with_reducible rename Fr _ _ _ _ => F9)
      (with_reducible rename News _ _ _ _ => N9)
      (with_reducible rename IsRange _ _ _ _ _ _ _ _ => R9)
      refine LCg.CompSrc.range (by rfl) F9 N9 R9 (small_one (by decide) (by decide) (by omega) (by omega)) (rangeSize_nat _ _) (by rw [sizeLine_eq]; omega) ?_
      intro g9
      refine compRest_inv _ (RowsInv w.params l _) ?_ ?_ _ 0 [] _ (Nat.zero_add _) ⟨_, _, [], [], [], by k_asm, by rw [List.append_nil], .nil, rfl, fun _ h => nomatch h⟩
      · intro i9 ys9 nw9 hi9 hI9 v9 I9 oI9 C9 oC9 D9 m9 h9 tk9 E9 hv9 hC9 hx9 F9 N9 off9 ne9
        obtain ⟨us9, n9, tl9, bs9, ks9, hus9, rfl, hR9, hl9, htl9⟩ := hI9
        simp only [List.cons_append] at N9 off9
        have off8 := off9
        simp only [LCg.Off3] at off9
        k_extra "mine offs"
        k_extra "mine steps"
        unfold Stop
        (with_reducible rename Fr _ _ _ _ => F8)
        (with_reducible rename News _ _ _ _ => N8)
        (with_reducible rename (_ ∧ _ ∧ _ ∧ _ ∧ _ ∧ ∀ x ∈ _, Prod.fst x ≠ _) => hq8)
        exact rows_end F8 N8 rfl off8 hq8.1 hq8.2.1 hq8.2.2.1 (by assumption) (by omega) (by omega) (by omega) (by assumption) (by assumption) (by assumption) (by assumption) (by assumption) (by assumption) (by assumption) (by assumption) hR9 hl9 htl9
      · intro ys9 nw9 hI9
        obtain ⟨us9, n9, tl9, bs9, ks9, hus9, rfl, hR9, hl9, htl9⟩ := hI9
        have hl3 : ys9.length ≤ 3 := om1 hl9 (by assumption) (by assumption)
        simp only [List.cons_append]
        k_extra "mine steps"
        unfold Stop
        (with_reducible rename Fr _ _ _ _ => F9)
        k_dflt (refine LCt.ListComp_T (F₀ := F9) (by with_unfolding_all rfl) (by decide) (by rfl) (by decide) (by rfl) ?_)
        k_extra "mine steps"
        unfold Stop
        (with_reducible rename Fr _ _ _ _ => F9)
        (with_reducible rename News _ _ _ _ => N9)
        refine LCt.CompSrcT.ledger (by rfl) F9 N9 (by k_mem) (by rw [sizeLine_eq, List.size_toArray]; exact Nat.le_trans hl3 (by decide)) ?_
        intro g8
        refine compRestT_inv _ (BoxInv bs9 _) ?_ ?_ _ 0 [] _ (Nat.zero_add _) ⟨rfl, Nat.le_refl _, rfl⟩
        · intro i8 ys8 nw8 hi8 hI8 v8 I8 oI8 C8 oC8 D8 m8 h8 tk8 E8 hv8 hC8 hx8 F8 N8 off8 ne8
          have hnw := hI8.1
          subst hnw
          obtain ⟨b8, q8, hb8, hq8, hr8, _⟩ := hR9.at (by simpa using hv8)
          obtain ⟨x8, kind8, vs8, tl8, rfl, hV8, hlk8⟩ := hr8
          k_extra "mine steps"
          · unfold Stop
            exact LCg.CompEnd.intro (by k_asm) (by k_asm) _ (fun _ h => h) off8 (.inr ⟨_, by k_mem, rfl, _, rfl⟩) (boxInv_tt hI8 (by rw [hb8, ← hlk8]; exact congrArg some (by assumption)))
          · unfold Stop
            exact LCg.CompEnd.intro (by k_asm) (by k_asm) _ (fun _ h => h) off8 (.inr ⟨_, by k_mem, rfl, _, rfl⟩) (boxInv_ff hI8 (by rw [hb8, ← hlk8]; exact congrArg some (by assumption)))
        · intro ys8 nw8 hI8
          obtain ⟨rfl, hl8, hb8⟩ := hI8
          simp only [List.size_toArray] at hl8 hb8
          k_extra "mine steps"
          (with_reducible rename Fr _ _ _ _ => F5)
          (with_reducible rename News _ _ _ _ => N5)
          exact (st10_intro F5 N5 hus9 ho1 hRl htl9 hl hb8 hR9 (by assumption) ⟨by k_ne, by k_ne, by k_ne⟩ hl3).2
    · clear N F hus ho2 ho1 hRl hR2 hR1 hl
      intro l ln lk rl us ys ys8 bs9 ks9 n c o2 o1 R tl h tk F N hus ho1 hRl htl hl hb8 hR9 hln hne hl3
      refine wpAny_execs_cons ?_
      refine cut_line F N hR9 ?_ ?_
      · k_extra "mine steps"
        · unfold Stop
          (with_reducible rename Fr _ _ _ _ => F9)
          (with_reducible rename News _ _ _ _ => N9)
          (with_reducible rename _ < (2 : Int) => hb7)
          (with_reducible rename (0 : Int) ≤ _ => ha7)
          rcases lt2 ha7 hb7 with e7 | e7
          · subst e7
            refine item_litK (News.isList N9 (by k_mem)) (by decide) (by decide) rfl ?_
            k_extra "mine steps"
            (with_reducible rename Fr _ _ _ _ => F8)
            (with_reducible rename News _ _ _ _ => N8)
            rw [List.push_toArray] at N8
            exact lined_more F8 N8 (by k_mem) (by k_mem) hR9 (fun p9 h9 => by k_extra "mine in") (.inl rfl) (by k_mem) (by k_mem)
          · subst e7
            refine item_litK (News.isList N9 (by k_mem)) (by decide) (by decide) rfl ?_
            k_extra "mine steps"
            (with_reducible rename Fr _ _ _ _ => F8)
            (with_reducible rename News _ _ _ _ => N8)
            rw [List.push_toArray] at N8
            exact lined_more F8 N8 (by k_mem) (by k_mem) hR9 (fun p9 h9 => by k_extra "mine in") (.inr rfl) (by k_mem) (by k_mem)
        · (with_reducible rename Fr _ _ _ _ => F8)
          (with_reducible rename News _ _ _ _ => N8)
          exact lined_same F8 N8 (by k_mem) (by k_mem) hR9 (fun p9 h9 => by k_extra "mine in")
      · clear N F hus ho1 hRl htl hl hln hne hR9
        intro h tk zs cs9 c n nw F N hln hrl hR9 hI9 hcs hzs
        dsimp only
        have hH := haltC
        k_extra "mine steps"
        unfold Stop
        (with_reducible rename Fr _ _ _ _ => F8)
        (with_reducible rename News _ _ _ _ => N8)
        have hBox := box_of N8 hln hI9 (by rw [List.length_append]; exact om2 hl3 (by assumption))
        have hlen9 := hR9.len.1
        rw [hlen9, List.take_length, ← any_app (bs := bs9) hcs] at hb8
        have hH := halt
        k_extra "mine steps"
        unfold Stop
        (with_reducible rename Fr _ _ _ _ => F8)
        (with_reducible rename News _ _ _ _ => N7)
        (with_reducible rename (_ ∧ _ ∧ _) ∨ (_ ∧ _ ∧ _) => q9)
        refine cut_same F8 N7 ?_ ?_
        · rcases q9 with ⟨q1, q2, q3⟩ | ⟨q1, q2, q3⟩
          · subst q2
            subst q3
            k_extra "mine steps"
            all_goals k_extra "mine same"
          · subst q2
            subst q3
            k_extra "mine steps"
            all_goals k_extra "mine same"
        · intro h9 tk9 F9 N9
          dsimp only
          have hH := halt
          k_extra "mine steps"
          unfold Stop
          (with_reducible rename Fr _ _ _ _ => F6)
          (with_reducible rename News _ _ _ _ => N6)
          refine cut_same F6 N6 ?_ ?_
          · rcases q9 with ⟨q1, q2, q3⟩ | ⟨q1, q2, q3⟩
            · subst q2
              subst q3
              k_extra "mine steps"
              all_goals k_extra "mine same"
            · subst q2
              subst q3
              k_extra "mine steps"
              all_goals k_extra "mine same"
          · intro h8 tk8 F8 N8
            dsimp only
            clear q9 hb8 hI9 hcs
            refine split_18 F8 N8 ?_ ?_
            · k_extra "mine steps"
              (with_reducible rename Fr _ _ _ _ => F5)
              (with_reducible rename News _ _ _ _ => N5)
              exact (st18_intro F5 N5 (fun p9 h9 => by k_extra "mine in")).2
            · clear F8 N8 F6 N6
              intro a1 a2 a3 a4 b h7 tk7 F7 N7
              k_extra "mine steps"
              unfold Stop
              (with_reducible rename Fr _ _ _ _ => F9)
              k_dflt (refine LCg.ListComp_U (F₀ := F9) (by rfl) (by decide) (by rfl) (by decide) (by rfl) ?_)
              k_extra "mine steps"
              unfold Stop
              k_dflt (refine' my_slice (s := Shared.mk _ _ _ _ _) (ys := ys) (zs := zs) ?za ?zb ?zc ?ze ?zh ?_ ?zf)
              case za => k_asm
              case zb => k_asm
              case zc => exact News.isList (by k_asm) (by k_mem)
              case ze => exact IsPart.int _ _
              case zf => with_unfolding_all rfl
              case zh => rw [sizeLine_eq, List.length_append]; exact Nat.le_trans (om2 hl3 (by assumption)) (by decide)
              intro D8 h8 F8 N8 l8
              dsimp only
              have l7 := l8
              k_lt l7
              refine LCg.CompSrc.ledger (by rfl) F8 N8 (.head _) (by rw [sizeLine_eq, List.size_toArray]; first | exact Nat.le_trans hl3 (by decide) | omega) ?_
              intro g9
              refine compRest_inv _ (PairInv _ ks9) ?_ ?_ _ 0 [] _ (Nat.zero_add _) ⟨[], by rw [List.append_nil], .nil⟩
              · intro i9 ys9 nw9 hi9 hI9 v9 I9 oI9 C9 oC9 D9 m9 h9 tk9 E9 hv9 hC9 hx9 F9 N9 off9 ne9
                obtain ⟨tl9, rfl, hp9⟩ := hI9
                refine hR9.open (by simpa using hv9) fun b9 q9 x9 d9 p0 p1 p2 p3 p4 pk hb9 hq9 hr9 ev9 hx9' hd9' => ?_; subst ev9
                simp only [List.cons_append] at N9 off9
                have off8 := off9
                simp only [LCg.Off3] at off9
                k_extra "mine offs"
                k_extra "mine steps"
                unfold Stop
                (with_reducible rename Fr _ _ _ _ => F8)
                (with_reducible rename News _ _ _ _ => N8)
                exact pair_end F8 N8 off8 (by omega) (by omega) (by omega) hp9 hq9 (.inr ⟨_, .head _, rfl, _, rfl⟩)
              · intro ys9 nw9 hI9
                obtain ⟨tl9, rfl, hp9⟩ := hI9
                simp only [List.cons_append]
                rw [List.size_toArray, hR9.len.2, List.take_length] at hp9
                k_extra "mine steps"
                unfold Stop
                (with_reducible rename Fr _ _ _ _ => F7)
                k_dflt (refine LCg.ListComp_U (F₀ := F7) (by rfl) (by decide) (by rfl) (by decide) (by rfl) ?_)
                k_extra "mine steps"
                unfold Stop
                (with_reducible rename Fr _ _ _ _ => F7)
                (with_reducible rename News _ _ _ _ => N7)
                refine LCg.CompSrc.ledger (by rfl) F7 N7 (by k_mem) (by rw [sizeLine_eq, List.size_toArray]; first | exact Nat.le_trans hl3 (by decide) | omega) ?_
                intro g8
                refine compRest_inv _ (PairInv _ ks9) ?_ ?_ _ 0 [] _ (Nat.zero_add _) ⟨[], by rw [List.append_nil], .nil⟩
                · intro i6 ys6 nw6 hi6 hI6 v6 I6 oI6 C6 oC6 D6 m6 h6 tk6 E6 hv6 hC6 hx6 F6 N6 off6 ne6
                  obtain ⟨tl6, rfl, hp6⟩ := hI6
                  refine hR9.open (by simpa using hv6) fun b6 q6 x6 d6 p0 p1 p2 p3 p4 pk hb6 hq6 hr6 ev6 hx6' hd6' => ?_; subst ev6
                  simp only [List.cons_append] at N6 off6
                  have off5 := off6
                  simp only [LCg.Off3] at off6
                  have off9 := off6
                  k_extra "mine offs"
                  clear off9
                  k_extra "mine steps"
                  unfold Stop
                  (with_reducible rename Fr _ _ _ _ => F5)
                  (with_reducible rename News _ _ _ _ => N5)
                  exact pair_end F5 N5 off5 (by omega) (by omega) (by omega) hp6 hq6 (.inr ⟨_, by k_mem, rfl, _, rfl⟩)
                · intro ys6 nw6 hI6
                  obtain ⟨tl6, rfl, hp6⟩ := hI6
                  simp only [List.cons_append]
                  rw [List.size_toArray, hR9.len.2, List.take_length] at hp6
                  k_extra "mine steps"
                  k_end
                  wrow_close

end Mine

theorem PySem.Challenge.cw_pq1390_01_holds : PySem.Challenge.rw_pq1390_01.Holds :=
  Mine.law_all
